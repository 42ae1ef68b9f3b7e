import PyProof.Rows.All
import Wide.All
import OpenK.AllK
import Wide.FinOn
import HandS.ForMost
import HandS.ForExc
import HandS.ExcIs
import HandS.TryOnly
import HandS.Style
import HandS.IsInst
import HandS.Flow
import HandS.Deep
import HandS.TupAny
import HandS.TupMul
import HandS.Wide
import HandS.WideBits
import HandS.SortOrd
import HandS.TupLe
import HandS.Rev
import HandS.RevRange
import HandS.NoneIn
import HandS.CallSlots
import HandS.SortInts
import HandS.SetFor
import HandS.More
import HandS.HeadHook1
import PyProof.ListMulRoad
import PyProof.FactsAll.tuple_2
import HandS.Strs
import HandS.TupLen
import HandS.Conv
import HandS.Zip
import HandS.DictTup
import HandS.Small
import HandS.SetKeys
import PyProof.Rows.SeqMore
import KE.KRevSl
import KE.KDictDisplayH
import HandS.Dict
import HandS.SortRule
import HandS.TupSets
import HandS.HeadWalk
import HandS.Exc
import HandS.Defaults
import HandS.Head0
import HandS.Head1
import HandS.Head2
import HandS.HeadEnd
import HandS.HeadHook2
import PySem.Challenge.RW_heavycut_k03_sides_and_weights
set_option Elab.async false
set_option linter.all false
set_option maxRecDepth 100000
namespace M
open PySem PySem.Spec PyProof.Rows L2

/-- values: tuples are data, lists and dicts and instances stand at addresses -/
inductive Val where
  | non | bl (b : Bool) | int (i : Int) | str (x : Str) | tup (xs : List Val) | ref (a : Addr) | ptup (xs : List Val)
/-- a dict's key as a value -/
def kval : Key → Val
  | .inl i => .int i
  | .inr x => .str x

/-- what stands at an address -/
inductive MO where
  | lst (xs : List Val)
  | ro (xs : List Val)
  | dK (kvs : List (Key × Val))
  | dT (kvs : List (List Key × Val))
  | ins (C : Str) (fs : List (Str × Val))
  | fK (kvs : List (Key × Val))
  | fT (kvs : List (List Key × Val))

abbrev Sto := Addr → Option MO
def Sto.upd (S : Sto) (a : Addr) (o : MO) : Sto := fun b => if b = a then some o else S b
theorem Sto.upd_same {S : Sto} {a : Addr} {o : MO} : S.upd a o a = some o := by unfold Sto.upd; rw [if_pos rfl]
theorem Sto.upd_ne {S : Sto} {a b : Addr} {o : MO} (h : b ≠ a) : S.upd a o b = S b := by unfold Sto.upd; rw [if_neg h]

abbrev Loc := List (Option Val)
abbrev Post := Val → Sto → Prop
abbrev XPost := Str → Sto → Prop
abbrev Spec := List Val → Sto → Post → XPost → Prop
/-- a call by its promise, weakened -/
def app (sp : Spec) (vs : List Val) (S : Sto) (Q : Post) (X : XPost) : Prop :=
  ∃ (Q1 : Post) (X1 : XPost), sp vs S Q1 X1 ∧ (∀ v S', Q1 v S' → Q v S') ∧ ∀ c S', X1 c S' → X c S'
theorem app.mk {sp : Spec} {vs : List Val} {S : Sto} {Q : Post} {X : XPost} (h : sp vs S Q X) : app sp vs S Q X := ⟨Q, X, h, fun _ _ q => q, fun _ _ q => q⟩
theorem app.mono {sp : Spec} {vs : List Val} {S : Sto} {Q Q' : Post} {X X' : XPost} (h : app sp vs S Q X) (hq : ∀ v S', Q v S' → Q' v S') (hx : ∀ c S', X c S' → X' c S') : app sp vs S Q' X' := by
  obtain ⟨Q1, X1, h, a, b⟩ := h
  exact ⟨Q1, X1, h, fun v S' q => hq v S' (a v S' q), fun c S' q => hx c S' (b c S' q)⟩

/-- what a body knows: defs, constants, classes, makers, methods -/
structure Gam where
  fn : Str → Option Spec
  cst : Str → Option Val
  new : Str → Option Spec
  mt : Str → Str → Option Spec
  fo : Str → Str → Bool
  rp : Bool := false
  ecls : Str → Option Addr
  exm : Str → Str → Option Bool := fun _ _ => none
  exi : Str → Str → Option Bool := fun _ _ => none

mutual
def toD : Val → PyData
  | .non => .none
  | .bl b => .bool b
  | .int i => .int i
  | .str x => .str x
  | .tup xs => .tuple (toDs xs)
  | .ref _ => .none
  | .ptup xs => .tuple (toDs xs)
def toDs : List Val → List PyData
  | [] => []
  | v :: vs => toD v :: toDs vs
end
mutual
def isPure : Val → Bool
  | .tup xs => arePure xs
  | .ptup xs => arePure xs
  | .ref _ => false
  | _ => true
def arePure : List Val → Bool
  | [] => true
  | v :: vs => isPure v && arePure vs
end
def okD (v : Val) : Bool := isPure v && SeqAt.shaped (toD v)
/-- a list that may be read -/
def lstAt (S : Sto) (a : Addr) : Option (List Val) := match S a with
  | some (.lst xs) => some xs
  | some (.ro xs) => some xs
  | _ => none
def rdL (S : Sto) (a : Addr) (xs : List Val) : Prop := lstAt S a = some xs
theorem rdL.cases {S : Sto} {a : Addr} {xs : List Val} (h : rdL S a xs) : S a = some (.lst xs) ∨ S a = some (.ro xs) := by
  unfold rdL lstAt at h
  split at h
  · rename_i e; cases h; exact .inl e
  · rename_i e; cases h; exact .inr e
  · cases h
theorem rdL.lst {S : Sto} {a : Addr} {xs : List Val} (h : S a = some (.lst xs)) : rdL S a xs := by unfold rdL lstAt; rw [h]
theorem rdL.ro {S : Sto} {a : Addr} {xs : List Val} (h : S a = some (.ro xs)) : rdL S a xs := by unfold rdL lstAt; rw [h]
mutual
inductive Dv (S : Sto) : Val → PyData → Prop
  | non : Dv S .non .none
  | bl (b : Bool) : Dv S (.bl b) (.bool b)
  | int (i : Int) : Dv S (.int i) (.int i)
  | str (x : Str) : Dv S (.str x) (.str x)
  | tup {xs : List Val} {ds : List PyData} : DvAll S xs ds → Dv S (.tup xs) (.tuple ds)
  | lst {a : Addr} {xs : List Val} {ds : List PyData} : rdL S a xs → DvAll S xs ds → Dv S (.ref a) (.list ds)
  | ptup {xs : List Val} {ds : List PyData} : DvAll S xs ds → Dv S (.ptup xs) (.tuple ds)
inductive DvAll (S : Sto) : List Val → List PyData → Prop
  | nil : DvAll S [] []
  | cons {v : Val} {vs : List Val} {d : PyData} {ds : List PyData} : Dv S v d → DvAll S vs ds → DvAll S (v :: vs) (d :: ds)
end

def idiv (i j : Int) : Int := if 0 < j then i / j else i.fdiv j
def imod (i j : Int) : Int := if 0 < j then i % j else i.fmod j
/-- sizes of ints -/
abbrev bits (i : Int) : Nat := Builtin.Int.intBits i
def MulOk (i j : Int) : Prop := bits i + bits j ≤ 134217728
def DivOk (i j : Int) : Prop := j ≠ 0 ∧ Builtin.divisionGoesByPylong i j = false

def bAdd : Val → Val → Sto → Post → Prop
  | .int i, .int j, S, Q => Q (.int (i + j)) S
  | .int i, .bl b, S, Q => Q (.int (i + b2i b)) S
  | .str x, .str y, S, Q => x.length + y.length ≤ sizeLine ∧ Q (.str (x ++ y)) S
  | .tup xs, .tup ys, S, Q => xs.length + ys.length ≤ sizeLine ∧ Q (.tup (xs ++ ys)) S
  | .ref a, .ref b, S, Q => ∃ xs ys, S a = some (.lst xs) ∧ S b = some (.lst ys) ∧ xs.length + ys.length ≤ sizeLine ∧ ∀ p, S p = none → Q (.ref p) (S.upd p (.lst (xs ++ ys)))
  | _, _, _, _ => False
def bSub : Val → Val → Sto → Post → Prop
  | .int i, .int j, S, Q => Q (.int (i - j)) S
  | _, _, _, _ => False
def bMul : Val → Val → Sto → Post → Prop
  | .int i, .int j, S, Q => MulOk i j ∧ Q (.int (i * j)) S
  | .ref a, .int k, S, Q => ∃ xs, S a = some (.lst xs) ∧ -(2 ^ 63) ≤ k ∧ k < 2 ^ 63 ∧ xs.length * k.toNat ≤ sizeLine ∧ ∀ p, S p = none → Q (.ref p) (S.upd p (.lst (List.replicate k.toNat xs).flatten))
  | .tup xs, .int k, S, Q => 1 ≤ k ∧ k ≤ 1000 ∧ xs.length ≤ 1000 ∧ Q (.tup (List.replicate k.toNat xs).flatten) S
  | _, _, _, _ => False
def bDiv : Val → Val → Sto → Post → Prop
  | .int i, .int j, S, Q => DivOk i j ∧ Q (.int (idiv i j)) S
  | _, _, _, _ => False
def bMod : Val → Val → Sto → Post → Prop
  | .int i, .int j, S, Q => j ≠ 0 ∧ Q (.int (imod i j)) S
  | _, _, _, _ => False
def bPow : Val → Val → Sto → Post → Prop
  | .int i, .int j, S, Q => (0 ≤ j ∧ j ≤ 1000000 ∧ i.natAbs < 2 ^ 64) ∧ Q (.int (i ^ j.toNat)) S
  | _, _, _, _ => False
def bShl : Val → Val → Sto → Post → Prop
  | .int i, .int j, S, Q => (0 ≤ j ∧ (bits i : Int) + j ≤ 2 ^ 27) ∧ Q (.int (i * 2 ^ j.toNat)) S
  | _, _, _, _ => False
def bShr : Val → Val → Sto → Post → Prop
  | .int i, .int j, S, Q => 0 ≤ j ∧ Q (.int (i / 2 ^ j.toNat)) S
  | _, _, _, _ => False
def bAnd : Val → Val → Sto → Post → Prop
  | .int i, .int j, S, Q => Q (.int (Builtin.bitAnd i j)) S
  | _, _, _, _ => False
def bXor : Val → Val → Sto → Post → Prop
  | .int i, .int j, S, Q => Q (.int (Builtin.bitXor i j)) S
  | _, _, _, _ => False
def wBin : Operator → Val → Val → Sto → Post → Prop
  | .Add => bAdd | .Sub => bSub | .Mult => bMul | .FloorDiv => bDiv | .Mod => bMod | .Pow => bPow | .LShift => bShl | .RShift => bShr | .BitAnd => bAnd | .BitXor => bXor
  | _ => fun _ _ _ _ => False
/-- == : by data -/
def cEq (neg : Bool) (v w : Val) (S : Sto) (Q : Post) : Prop :=
  if (okD v && okD w) = true then Q (.bl (neg ^^ PyData.eqv (toD v) (toD w))) S
  else (∃ x y, v = .str x ∧ w = .str y ∧ Q (.bl (neg ^^ decide (x = y))) S) ∨ ∃ d e, Dv S v d ∧ Dv S w e ∧ SeqAt.shaped d = true ∧ SeqAt.shaped e = true ∧ Q (.bl (neg ^^ PyData.eqv d e)) S
def cInt (f : Int → Int → Bool) : Val → Val → Sto → Post → Prop
  | .int i, .int j, S, Q => Q (.bl (f i j)) S
  | _, _, _, _ => False
def valD (S : Sto) : Val → List Val → Prop
  | .tup xs, ys => ys = xs
  | .ref a, ys => rdL S a ys
  | .ptup xs, ys => ys = xs
  | _, _ => False
def flat : Val → Bool
  | .non => true | .bl _ => true | .int _ => true | .str _ => true | _ => false
/-- x in xs: the items flat, or data -/
def cIn (neg : Bool) (v w : Val) (S : Sto) (Q : Post) : Prop :=
  match w with
  | .ref a => ∃ xs d ds, rdL S a xs ∧ Dv S v d ∧ DvAll S xs ds ∧ SeqAt.shaped d = true ∧ SeqAt.shaped (.list ds) = true ∧ Q (.bl (neg ^^ ds.any fun z => PyData.eqv z d)) S
  | .tup xs => flat v = true ∧ xs.all flat = true ∧ Q (.bl (neg ^^ (toDs xs).any fun z => PyData.eqv z (toD v))) S
  | _ => False
def isNon : Val → Bool
  | .non => true
  | _ => false
def cIs (neg : Bool) : Val → Val → Sto → Post → Prop
  | v, .non, S, Q => Q (.bl (neg ^^ isNon v)) S
  | .bl a, .bl b, S, Q => Q (.bl (neg ^^ decide (a = b))) S
  | _, _, _, _ => False
def wCmp : CmpOp → Val → Val → Sto → Post → Prop
  | .Eq => cEq false
  | .NotEq => cEq true
  | .Lt => cInt fun i j => decide (i < j)
  | .LtE => cInt fun i j => decide (i ≤ j)
  | .Gt => cInt fun i j => decide (j < i)
  | .GtE => cInt fun i j => decide (j ≤ i)
  | .In => cIn false
  | .NotIn => cIn true
  | .Is => cIs false
  | .IsNot => cIs true
/-- truth -/
def wTru : Val → Sto → (Bool → Sto → Prop) → Prop
  | .bl b, S, Q => Q b S
  | .int i, S, Q => Q (i != 0) S
  | .non, S, Q => Q false S
  | .tup xs, S, Q => Q (!xs.isEmpty) S
  | .ref a, S, Q => ∃ xs, rdL S a xs ∧ Q (!xs.isEmpty) S
  | _, _, _ => False
def vIx : Val → Val → Sto → Post → Prop
  | .tup xs, .int i, S, Q => ∃ v, atI xs i = some v ∧ Q v S
  | .ref a, .int i, S, Q => ∃ xs v, rdL S a xs ∧ atI xs i = some v ∧ Q v S
  | .str z, .int i, S, Q => ∃ c, z.length ≤ sizeLine ∧ atI z.cps.toList i = some c ∧ Q (.str ⟨#[c]⟩) S
  | .ptup xs, .int i, S, Q => ∃ v, atI xs i = some v ∧ Q v S
  | _, _, _, _ => False
/-- what dicts hold -/
def rdK (S : Sto) (a : Addr) (kvs : List (Key × Val)) : Prop := S a = some (.dK kvs) ∨ S a = some (.fK kvs)
def rdT (S : Sto) (a : Addr) (kvs : List (List Key × Val)) : Prop := S a = some (.dT kvs) ∨ S a = some (.fT kvs)
section
variable {κ : Type} [DecidableEq κ]
def vlK (kvs : List (κ × Val)) (k : κ) : Option Val := (kvs.find? fun kv => decide (kv.1 = k)).map (·.2)
def ptK (kvs : List (κ × Val)) (k : κ) (v : Val) : List (κ × Val) := if (kvs.any fun kv => decide (kv.1 = k)) = true then kvs.map fun kv => if kv.1 = k then (kv.1, v) else kv else kvs ++ [(k, v)]
def drK (kvs : List (κ × Val)) (k : κ) : List (κ × Val) := kvs.filter fun kv => decide (kv.1 ≠ k)
end
/-- what the dict at a holds at a key -/
def DG (S : Sto) (a : Addr) (w : Val) (o : Option Val) : Prop := (∃ kvs k, rdK S a kvs ∧ w = kval k ∧ o = vlK kvs k) ∨ ∃ kvs ks, rdT S a kvs ∧ w = .ptup (ks.map kval) ∧ o = vlK kvs ks
def isD (S : Sto) (a : Addr) : Prop := (∃ kvs, rdK S a kvs) ∨ ∃ kvs, rdT S a kvs
/-- a[w] = v -/
def DP (S : Sto) (a : Addr) (w v : Val) (Q : Sto → Prop) : Prop := (∃ kvs k, S a = some (.dK kvs) ∧ w = kval k ∧ kvs.length < sizeLine ∧ Q (S.upd a (.dK (ptK kvs k v)))) ∨ ∃ kvs ks, S a = some (.dT kvs) ∧ w = .ptup (ks.map kval) ∧ kvs.length < sizeLine ∧ Q (S.upd a (.dT (ptK kvs ks v)))
/-- a list and a list, any that may be read -/
def lAdd : Val → Val → Sto → Post → Prop
  | .ref p, .ref q, S, Q => ∃ xs ys, rdL S p xs ∧ rdL S q ys ∧ xs.length + ys.length ≤ sizeLine ∧ ∀ r, S r = none → Q (.ref r) (S.upd r (.lst (xs ++ ys)))
  | _, _, _, _ => False
/-- xs[lo:hi] -/
def cut (xs : List Val) (lo hi : Option Int) : List Val := (xs.drop (HT.sIx xs.length 0 lo)).take (HT.sIx xs.length xs.length hi - HT.sIx xs.length 0 lo)
def vSl : Val → Option Int → Option Int → Sto → Post → Prop
  | .tup xs, lo, hi, S, Q => Q (.tup (cut xs lo hi)) S
  | .ref a, lo, hi, S, Q => ∃ xs, rdL S a xs ∧ ∀ p, S p = none → Q (.ref p) (S.upd p (.lst (cut xs lo hi)))
  | .str z, lo, hi, S, Q => z.length ≤ sizeLine ∧ Q (.str (cutS z lo hi)) S
  | _, _, _, _, _ => False
def vFld (fo : Str → Str → Bool) (f : Str) : Val → Sto → Post → Prop
  | .ref a, S, Q => ∃ C fs v, S a = some (.ins C fs) ∧ fo C f = true ∧ fs.lookup f = some v ∧ Q v S
  | _, _, _ => False
end M

namespace M
open PySem PySem.Spec PyProof.Rows L2

/-- built-in functions -/
inductive Blt where
  | len | abs | min2 | max2 | int1 | str1 | list1 | tuple1 | sorted1 | set1 | sum1 | min1 | max1 | bool1 | sortT | sortD
  deriving DecidableEq
/-- built-in methods -/
inductive Mth where
  | append | pop0 | pop1 | extend | insert | remove | reverse | index | count | dget1 | dget2 | dkeys | split | join | sindex | dsetd | tindex | tcount
  deriving DecidableEq

mutual
inductive E where
  | v (i : Nat) | int (i : Int) | bl (b : Bool) | non | str (x : Str) | g (x : Str)
  | bin (op : Operator) (a b : E) | neg (a : E)
  | cmp (op : CmpOp) (a b : E) | chain (op op' : CmpOp) (a b c : E)
  | and (es : List E) | or (es : List E) | not (a : E)
  | ife (t : B) (a b : E)
  | tup (es : List E) | lst (es : List E)
  | ix (a i : E) | sl (a : E) (lo hi : P) | rev (a : E)
  | fld (a : E) (f : Str)
  | call (f : Str) (es : List E) | new (C : Str) (es : List E) | meth (o : E) (m : Str) (es : List E)
  | blt (b : Blt) (es : List E) | mth (m : Mth) (o : E) (es : List E)
  | isi (a : E) (t : String) | isiT (a : E) (ts : List String)
  | lc (own : List (Str × Nat)) (t : T) (it : I) (ifs : List B) (e : E)
  | dK0 | dT0 | repr (a : E) | dT1 (k v : E) | revT (a : E) | addL (a b : E)
  | ktup (es : List E) | lrng1 (a : E) | lrng2 (a b : E) | lrev (a : E) | trev (a : E) | sset (a : E)
  | dix (d k : E) | dg1 (d k : E) | dg2 (d k x : E) | dsd (d k x : E) | dpop (d k : E) | din (neg : Bool) (k d : E) | lockE (e : E)
/-- tests -/
inductive B where
  | val (e : E) | cmp (op : CmpOp) (a b : E) | chain (op op' : CmpOp) (a b c : E) | chain3 (op op' op'' : CmpOp) (a b c d : E)
  | not (b : B) | and (bs : List B) | or (bs : List B) | din (neg : Bool) (k d : E)
/-- an optional part of a slice -/
inductive P where
  | no | at (e : E)
/-- targets -/
inductive T where
  | nm (i : Nat) | tup (ts : List T) | ix (a i : E) | fld (a : E) (f : Str) | dix (a k : E)
/-- what is walked -/
inductive I where
  | val (e : E) | rng1 (a : E) | rng2 (a b : E) | rng3 (a b c : E) | zip (a b : E) | rvs (a : E) | rvs1 (a : E) | rvs2 (a b : E) | enum (a : E) | keys (e : E) | keysM (e : E)
end

/-- a comprehension's turns -/
def compW (keep : Sto → Prop) (turn : Val → Sto → (Option Val → Sto → Prop) → Prop) : List Val → List Val → Sto → Post → Prop
  | [], acc, S, Q => keep S ∧ ∀ p, S p = none → Q (.ref p) (S.upd p (.lst acc))
  | x :: xs, acc, S, Q => keep S ∧ turn x S fun o S' => match o with
    | none => compW keep turn xs acc S' Q
    | some v => acc.length < sizeLine ∧ compW keep turn xs (acc ++ [v]) S' Q
/-- own slots forgotten -/
def wipeL (ρ : Loc) : List Nat → Loc
  | [] => ρ
  | v :: vs => (wipeL ρ vs).set v none
def rngV (lo : Int) (n : Nat) : List Val := (List.range n).map fun (i : Nat) => .int (lo + (i : Int))
/-- a field stored -/
def putV (f : Str) (v : Val) : List (Str × Val) → List (Str × Val)
  | [] => [(f, v)]
  | (g, w) :: r => if g = f then (g, v) :: r else (g, w) :: putV f v r
def small62 (i : Int) : Prop := -(2 ^ 62) ≤ i ∧ i < 2 ^ 62

mutual
def flV : Val → List Int
  | .int i => [i]
  | .tup xs => flVs xs
  | .ptup xs => flVs xs
  | _ => []
def flVs : List Val → List Int
  | [] => []
  | v :: vs => flV v ++ flVs vs
end
mutual
/-- of one form: ints, tuples of the like -/
def shV : Val → Val → Bool
  | .int _, w => match w with
    | .int _ => true
    | _ => false
  | .tup xs, w => match w with
    | .tup ys => shVs xs ys
    | _ => false
  | .ptup xs, w => match w with
    | .ptup ys => shVs xs ys
    | _ => false
  | _, _ => false
def shVs : List Val → List Val → Bool
  | [], w => match w with
    | [] => true
    | _ => false
  | x :: xs, w => match w with
    | [] => false
    | y :: ys => shV x y && shVs xs ys
end
def lexL : List Int → List Int → Bool
  | [], [] => false
  | [], _ :: _ => true
  | _ :: _, [] => false
  | a :: as, b :: bs => decide (a < b) || (decide (a = b) && lexL as bs)
/-- a tuple that begins with an int, data -/
def tup1 : Val → Bool
  | .tup (.int _ :: _) => true
  | .ptup (.int _ :: _) => true
  | _ => false
/-- may be sorted -/
def SrtOk (vs : List Val) : Prop := (∀ v ∈ vs, tup1 v = true ∧ okD v = true) ∧ ∀ v ∈ vs, ∀ w ∈ vs, shV v w = true
def SrtV (vs : List Val) : Prop := vs.Pairwise fun x y => lexL (flV y) (flV x) = false

/-- built-in functions by values -/
def wBlt : Blt → List Val → Sto → Post → Prop
  | .len, [.tup xs], S, Q => Q (.int xs.length) S
  | .len, [.ref a], S, Q => match S a with
    | some (.lst xs) => Q (.int xs.length) S
    | some (.ro xs) => Q (.int xs.length) S
    | some (.dK kvs) => Q (.int kvs.length) S
    | some (.dT kvs) => Q (.int kvs.length) S
    | _ => False
  | .len, [.str z], S, Q => z.length ≤ sizeLine ∧ Q (.int z.length) S
  | .abs, [.int i], S, Q => Q (.int (if i < 0 then -i else i)) S
  | .min2, [.int i, .int j], S, Q => Q (.int (if j < i then j else i)) S
  | .max2, [.int i, .int j], S, Q => Q (.int (if j > i then j else i)) S
  | .int1, [.int i], S, Q => Q (.int i) S
  | .int1, [.bl b], S, Q => Q (.int (if b then 1 else 0)) S
  | .bool1, [.int i], S, Q => Q (.bl (i != 0)) S
  | .str1, [.int i], S, Q => i.natAbs.log2 < 1920 ∧ Q (.str (toString i)) S
  | .list1, [v], S, Q => ∃ xs, valD S v xs ∧ ∀ p, S p = none → Q (.ref p) (S.upd p (.lst xs))
  | .tuple1, [.ptup xs], S, Q => Q (.ptup xs) S
  | .tuple1, [.tup xs], S, Q => Q (.tup xs) S
  | .tuple1, [.ref a], S, Q => ∃ xs, rdL S a xs ∧ Q (.tup xs) S
  | .max1, [.tup xs], S, Q => ∃ ns : List Int, xs = ns.map .int ∧ 0 < ns.length ∧ ∀ m : Int, m ∈ ns → (∀ y ∈ ns, y ≤ m) → Q (.int m) S
  | .max1, [.ref a], S, Q => ∃ ns : List Int, rdL S a (ns.map .int) ∧ 0 < ns.length ∧ ∀ m : Int, m ∈ ns → (∀ y ∈ ns, y ≤ m) → Q (.int m) S
  | .min1, [.ref a], S, Q => ∃ ns : List Int, rdL S a (ns.map .int) ∧ 0 < ns.length ∧ ∀ m : Int, m ∈ ns → (∀ y ∈ ns, m ≤ y) → Q (.int m) S
  | .sum1, [.ref a], S, Q => ∃ ns : List Int, rdL S a (ns.map .int) ∧ Q (.int ns.sum) S
  | .sorted1, [.ref a], S, Q => ∃ ns : List Int, rdL S a (ns.map .int) ∧ ∀ ns' : List Int, ns'.Perm ns → ns'.Pairwise (· ≤ ·) → ∀ p, S p = none → Q (.ref p) (S.upd p (.lst (ns'.map .int)))
  | .sortT, [.ref a], S, Q => ∃ vs, rdL S a vs ∧ SrtOk vs ∧ ∀ us : List Val, us.Perm vs → SrtV us → ∀ p, S p = none → Q (.ref p) (S.upd p (.lst us))
  | .sortD, [.ref a], S, Q => ∃ kvs, S a = some (.dT kvs) ∧ SrtOk (kvs.map fun kv => .ptup (kv.1.map kval)) ∧ ∀ us : List Val, us.Perm (kvs.map fun kv => .ptup (kv.1.map kval)) → SrtV us → ∀ p, S p = none → Q (.ref p) (S.upd p (.lst us))
  | .sorted1, [.tup xs], S, Q => ∃ ns : List Int, xs = ns.map .int ∧ ∀ ns' : List Int, ns'.Perm ns → ns'.Pairwise (· ≤ ·) → ∀ p, S p = none → Q (.ref p) (S.upd p (.lst (ns'.map .int)))
  | .len, [.ptup xs], S, Q => Q (.int xs.length) S
  | _, _, _, _ => False
/-- built-in methods by values -/
def wMth : Mth → Val → List Val → Sto → Post → Prop
  | .append, .ref a, [v], S, Q => ∃ xs, S a = some (.lst xs) ∧ xs.length < sizeLine ∧ Q .non (S.upd a (.lst (xs ++ [v])))
  | .pop0, .ref a, [], S, Q => ∃ xs v, S a = some (.lst xs) ∧ xs.getLast? = some v ∧ Q v (S.upd a (.lst xs.dropLast))
  | .pop1, .ref a, [.int i], S, Q => ∃ xs v, S a = some (.lst xs) ∧ 0 ≤ i ∧ i < 2 ^ 62 ∧ xs[i.toNat]? = some v ∧ Q v (S.upd a (.lst (xs.eraseIdx i.toNat)))
  | .insert, .ref a, [.int i, y], S, Q => ∃ xs, S a = some (.lst xs) ∧ xs.length < sizeLine ∧ 0 ≤ i ∧ i < 2 ^ 62 ∧ Q .non (S.upd a (.lst (xs.take i.toNat ++ [y] ++ xs.drop i.toNat)))
  | .extend, .ref a, [.ref b], S, Q => ∃ xs ys, S a = some (.lst xs) ∧ S b = some (.lst ys) ∧ xs.length + ys.length ≤ sizeLine ∧ Q .non (S.upd a (.lst (xs ++ ys)))
  | .count, .ref a, [.int k], S, Q => ∃ ns : List Int, rdL S a (ns.map .int) ∧ Q (.int (ns.count k : Nat)) S
  | .index, .ref a, [.int k], S, Q => ∃ (ns : List Int) (j : Nat), rdL S a (ns.map .int) ∧ ns[j]? = some k ∧ (∀ m : Nat, m < j → ns[m]? ≠ some k) ∧ Q (.int j) S
  | .tindex, .tup xs, [.int k], S, Q => ∃ (ns : List Int) (j : Nat), xs = ns.map .int ∧ ns[j]? = some k ∧ (∀ m : Nat, m < j → ns[m]? ≠ some k) ∧ Q (.int j) S
  | .reverse, .ref a, [], S, Q => ∃ xs, S a = some (.lst xs) ∧ Q .non (S.upd a (.lst xs.reverse))
  | .remove, .ref a, [.int k], S, Q => ∃ (ns : List Int) (j : Nat), S a = some (.lst (ns.map .int)) ∧ ns[j]? = some k ∧ (∀ m : Nat, m < j → ns[m]? ≠ some k) ∧ Q .non (S.upd a (.lst ((ns.eraseIdx j).map .int)))
  | .join, .str x, [.ref a], S, Q => ∃ ys : List Str, rdL S a (ys.map .str) ∧ (ys.map (·.length)).sum + ys.length * x.length ≤ 16777216 ∧ Q (.str (Txt.join x ys)) S
  | _, _, _, _, _ => False

/-- repr(data) -/
def vRepr (v : Val) (S : Sto) (Q : Post) : Prop := ∃ d, Dv S v d ∧ PyData.showable d = true ∧ d.shown.length ≤ sizeLine ∧ d.depth ≤ 64 ∧ d.hasDict = false ∧ Q (.str d.shown) S
/-- what a method is of -/
def tyM : Mth → Val → Sto → Prop
  | .split, .str _, _ => True
  | .join, .str _, _ => True
  | .sindex, .str _, _ => True
  | .append, .ref a, S => ∃ xs, rdL S a xs
  | .pop0, .ref a, S => ∃ xs, rdL S a xs
  | .pop1, .ref a, S => ∃ xs, rdL S a xs
  | .extend, .ref a, S => ∃ xs, rdL S a xs
  | .insert, .ref a, S => ∃ xs, rdL S a xs
  | .remove, .ref a, S => ∃ xs, rdL S a xs
  | .reverse, .ref a, S => ∃ xs, rdL S a xs
  | .index, .ref a, S => ∃ xs, rdL S a xs
  | .count, .ref a, S => ∃ xs, rdL S a xs
  | .tindex, .tup _, _ => True
  | _, _, _ => False
/-- isinstance against a built-in type, by a value -/
def tyName : Val → Sto → Option String
  | .non, _ => some "NoneType"
  | .bl _, _ => some "bool"
  | .int _, _ => some "int"
  | .str _, _ => some "str"
  | .tup _, _ => some "tuple"
  | .ref a, S => match S a with
    | some (.lst _) => some "list"
    | some (.ro _) => some "list"
    | some (.dK _) => some "dict"
    | some (.dT _) => some "dict"
    | _ => none
  | .ptup _, _ => some "tuple"

/-- what may leave from inside a comprehension -/
abbrev noX : XPost := fun _ _ => False

mutual
def wE (G : Gam) (X : XPost) : E → Loc → Sto → Post → Prop
  | .v i, ρ, S, Q => ∃ v, ρ[i]? = some (some v) ∧ Q v S
  | .int i, _, S, Q => Q (.int i) S
  | .bl b, _, S, Q => Q (.bl b) S
  | .non, _, S, Q => Q .non S
  | .str x, _, S, Q => Q (.str x) S
  | .g x, _, S, Q => ∃ v, G.cst x = some v ∧ Q v S
  | .bin op a b, ρ, S, Q => wE G X a ρ S fun v S1 => wE G X b ρ S1 fun w S2 => wBin op v w S2 Q
  | .neg a, ρ, S, Q => wE G X a ρ S fun v S1 => ∃ i, v = .int i ∧ Q (.int (-i)) S1
  | .cmp op a b, ρ, S, Q => wE G X a ρ S fun v S1 => wE G X b ρ S1 fun w S2 => wCmp op v w S2 Q
  | .chain op op' a b c, ρ, S, Q => wE G X a ρ S fun v S1 => wE G X b ρ S1 fun w S2 => wCmp op v w S2 fun r S3 => ∃ k, r = .bl k ∧ if k = true then wE G X c ρ S3 fun u S4 => wCmp op' w u S4 Q else Q (.bl false) S3
  | .and es, ρ, S, Q => wAndV G X es ρ S Q
  | .or es, ρ, S, Q => wOrV G X es ρ S Q
  | .not a, ρ, S, Q => wE G X a ρ S fun v S1 => ∃ b, v = .bl b ∧ Q (.bl (!b)) S1
  | .ife t a b, ρ, S, Q => wB G X t ρ S fun k S1 => if k = true then wE G X a ρ S1 Q else wE G X b ρ S1 Q
  | .tup es, ρ, S, Q => wEs G X es ρ S fun vs S1 => vs.length ≤ sizeLine ∧ Q (.tup vs) S1
  | .lst es, ρ, S, Q => wEs G X es ρ S fun vs S1 => vs.length ≤ sizeLine ∧ ∀ p, S1 p = none → Q (.ref p) (S1.upd p (.lst vs))
  | .ix a i, ρ, S, Q => wE G X a ρ S fun v S1 => wE G X i ρ S1 fun w S2 => vIx v w S2 Q
  | .sl a lo hi, ρ, S, Q => wE G X a ρ S fun v S1 => wP G X lo ρ S1 fun l S2 => wP G X hi ρ S2 fun h S3 => vSl v l h S3 Q
  | .rev a, ρ, S, Q => wE G X a ρ S fun v S1 => ∃ a xs, v = .ref a ∧ rdL S1 a xs ∧ ∀ p, S1 p = none → Q (.ref p) (S1.upd p (.lst xs.reverse))
  | .fld a f, ρ, S, Q => wE G X a ρ S fun v S1 => vFld G.fo f v S1 Q
  | .call f es, ρ, S, Q => ∃ sp, G.fn f = some sp ∧ wEs G X es ρ S fun vs S1 => app sp vs S1 Q X
  | .new C es, ρ, S, Q => ∃ sp, G.new C = some sp ∧ wEs G X es ρ S fun vs S1 => ∀ p, S1 p = none → app sp (.ref p :: vs) (S1.upd p (.ins C [])) (fun r S2 => r = .non ∧ Q (.ref p) S2) noX
  | .meth o m es, ρ, S, Q => wE G X o ρ S fun v S1 => ∃ a C fs sp, v = .ref a ∧ S1 a = some (.ins C fs) ∧ fs.lookup m = none ∧ G.mt C m = some sp ∧ wEs G X es ρ S1 fun vs S2 => app sp (.ref a :: vs) S2 Q X
  | .blt b es, ρ, S, Q => wEs G X es ρ S fun vs S1 => wBlt b vs S1 Q
  | .mth m o es, ρ, S, Q => wE G X o ρ S fun v S1 => tyM m v S1 ∧ wEs G X es ρ S1 fun vs S2 => wMth m v vs S2 Q
  | .isi a t, ρ, S, Q => wE G X a ρ S fun v S1 => ∃ n k, tyName v S1 = some n ∧ kitB n t = some k ∧ Q (.bl k) S1
  | .isiT a ts, ρ, S, Q => wE G X a ρ S fun v S1 => ∃ n, tyName v S1 = some n ∧ (ts.all fun t => (kitB n t).isSome) = true ∧ Q (.bl (ts.any fun t => kitB n t == some true)) S1
  | .lc own t it ifs e, ρ, S, Q => wI G X it ρ S fun xs keep S1 => compW keep (fun x S2 R => wTg G noX t x (wipeL ρ (own.map (·.2))) S2 fun ρ' S3 => wBs G noX ifs ρ' S3 fun k S4 =>
      if k = true then wE G noX e ρ' S4 fun v S5 => R (some v) S5 else R none S4) xs [] S1 Q
  | .dK0, _, S, Q => ∀ p, S p = none → Q (.ref p) (S.upd p (.dK []))
  | .dT0, _, S, Q => ∀ p, S p = none → Q (.ref p) (S.upd p (.dT []))
  | .dT1 k v, ρ, S, Q => ∀ p, S p = none → wE G X k ρ (S.upd p (.dT [])) fun w S1 => wE G X v ρ S1 fun u S2 => ∃ ks, w = .ptup (ks.map kval) ∧ S2 p = some (.dT []) ∧ Q (.ref p) (S2.upd p (.dT [(ks, u)]))
  | .addL a b, ρ, S, Q => wE G X a ρ S fun v S1 => wE G X b ρ S1 fun w S2 => lAdd v w S2 Q
  | .revT a, ρ, S, Q => wE G X a ρ S fun v S1 => ∃ xs, v = .tup xs ∧ Q (.tup xs.reverse) S1
  | .repr a, ρ, S, Q => G.rp = true ∧ wE G X a ρ S fun v S1 => vRepr v S1 Q
  | .ktup es, ρ, S, Q => wEs G X es ρ S fun vs S1 => vs.length ≤ sizeLine ∧ Q (.ptup vs) S1
  | .lrng1 a, ρ, S, Q => wE G X a ρ S fun v S1 => ∃ n, v = .int n ∧ -(2 ^ 62) ≤ n ∧ n ≤ 2 ^ 24 ∧ ∀ p, S1 p = none → Q (.ref p) (S1.upd p (.lst (rngV 0 n.toNat)))
  | .lrng2 a b, ρ, S, Q => wE G X a ρ S fun v S1 => wE G X b ρ S1 fun w S2 => ∃ i j, v = .int i ∧ w = .int j ∧ small62 i ∧ small62 j ∧ (j - i).toNat ≤ 2 ^ 24 ∧ ∀ p, S2 p = none → Q (.ref p) (S2.upd p (.lst (rngV i (j - i).toNat)))
  | .lrev a, ρ, S, Q => wE G X a ρ S fun v S1 => ∃ a xs, v = .ref a ∧ rdL S1 a xs ∧ ∀ p, S1 p = none → Q (.ref p) (S1.upd p (.lst xs.reverse))
  | .trev a, ρ, S, Q => wE G X a ρ S fun v S1 => ∃ a xs, v = .ref a ∧ rdL S1 a xs ∧ Q (.tup xs.reverse) S1
  | .sset a, ρ, S, Q => wE G X a ρ S fun v S1 => ∃ ns : List Int, v = .tup (ns.map .int) ∧ ns.length ≤ 1000 ∧ ∀ ns' : List Int, ns'.Pairwise (· < ·) → (∀ k : Int, k ∈ ns' ↔ k ∈ ns) → ∀ p, S1 p = none → Q (.ref p) (S1.upd p (.lst (ns'.map .int)))
  | .dix d k, ρ, S, Q => wE G X d ρ S fun v S1 => wE G X k ρ S1 fun w S2 => ∃ a x, v = .ref a ∧ DG S2 a w (some x) ∧ Q x S2
  | .dg1 d k, ρ, S, Q => wE G X d ρ S fun v S1 => ∃ a, v = .ref a ∧ isD S1 a ∧ wE G X k ρ S1 fun w S2 => ∃ o, DG S2 a w o ∧ Q (o.getD .non) S2
  | .dg2 d k x, ρ, S, Q => wE G X d ρ S fun v S1 => ∃ a, v = .ref a ∧ isD S1 a ∧ wE G X k ρ S1 fun w S2 => wE G X x ρ S2 fun u S3 => ∃ o, DG S3 a w o ∧ Q (o.getD u) S3
  | .dsd d k x, ρ, S, Q => wE G X d ρ S fun v S1 => ∃ a, v = .ref a ∧ isD S1 a ∧ wE G X k ρ S1 fun w S2 => wE G X x ρ S2 fun u S3 => ∃ kvs key, S3 a = some (.dK kvs) ∧ w = kval key ∧ kvs.length < sizeLine ∧ (∀ y, vlK kvs key = some y → Q y S3) ∧ (vlK kvs key = none → Q u (S3.upd a (.dK (ptK kvs key u))))
  | .dpop d k, ρ, S, Q => wE G X d ρ S fun v S1 => ∃ a, v = .ref a ∧ isD S1 a ∧ wE G X k ρ S1 fun w S2 => ∃ kvs key x, S2 a = some (.dK kvs) ∧ w = kval key ∧ vlK kvs key = some x ∧ Q x (S2.upd a (.dK (drK kvs key)))
  | .din neg k d, ρ, S, Q => wE G X k ρ S fun w S1 => wE G X d ρ S1 fun v S2 => ∃ a o, v = .ref a ∧ DG S2 a w o ∧ Q (.bl (neg ^^ o.isSome)) S2
  | .lockE e, ρ, S, Q => ∃ a, (∃ kvs, S a = some (.dK kvs) ∧ wE G noX e ρ (S.upd a (.fK kvs)) fun v S1 => S1 a = some (.fK kvs) ∧ Q v (S1.upd a (.dK kvs))) ∨ ∃ kvs, S a = some (.dT kvs) ∧ wE G noX e ρ (S.upd a (.fT kvs)) fun v S1 => S1 a = some (.fT kvs) ∧ Q v (S1.upd a (.dT kvs))
def wEs (G : Gam) (X : XPost) : List E → Loc → Sto → (List Val → Sto → Prop) → Prop
  | [], _, S, Q => Q [] S
  | e :: es, ρ, S, Q => wE G X e ρ S fun v S1 => wEs G X es ρ S1 fun vs S2 => Q (v :: vs) S2
def wAndV (G : Gam) (X : XPost) : List E → Loc → Sto → Post → Prop
  | [], _, S, Q => False
  | e :: es, ρ, S, Q => wE G X e ρ S fun v S1 => if es.isEmpty = true then Q v S1 else ∃ b, v = .bl b ∧ if b = true then wAndV G X es ρ S1 Q else Q (.bl false) S1
def wOrV (G : Gam) (X : XPost) : List E → Loc → Sto → Post → Prop
  | [], _, S, Q => False
  | e :: es, ρ, S, Q => wE G X e ρ S fun v S1 => if es.isEmpty = true then Q v S1 else ∃ b, v = .bl b ∧ if b = true then Q (.bl true) S1 else wOrV G X es ρ S1 Q
def wB (G : Gam) (X : XPost) : B → Loc → Sto → (Bool → Sto → Prop) → Prop
  | .val e, ρ, S, Q => wE G X e ρ S fun v S1 => wTru v S1 Q
  | .cmp op a b, ρ, S, Q => wE G X a ρ S fun v S1 => wE G X b ρ S1 fun w S2 => wCmp op v w S2 fun r S3 => ∃ k, r = .bl k ∧ Q k S3
  | .chain op op' a b c, ρ, S, Q => wE G X a ρ S fun v S1 => wE G X b ρ S1 fun w S2 => wCmp op v w S2 fun r S3 => ∃ k, r = .bl k ∧ if k = true then wE G X c ρ S3 fun u S4 => wCmp op' w u S4 fun r' S5 => ∃ k', r' = .bl k' ∧ Q k' S5 else Q false S3
  | .chain3 op op' op'' a b c d, ρ, S, Q => wE G X a ρ S fun v S1 => wE G X b ρ S1 fun w S2 => wCmp op v w S2 fun r S3 => ∃ k, r = .bl k ∧ if k = true then wE G X c ρ S3 fun u S4 => wCmp op' w u S4 fun r' S5 => ∃ k', r' = .bl k' ∧ if k' = true then wE G X d ρ S5 fun u2 S6 => wCmp op'' u u2 S6 fun r'' S7 => ∃ k'', r'' = .bl k'' ∧ Q k'' S7 else Q false S5 else Q false S3
  | .not b, ρ, S, Q => wB G X b ρ S fun k S1 => Q (!k) S1
  | .and bs, ρ, S, Q => wAnd G X bs ρ S Q
  | .or bs, ρ, S, Q => wOr G X bs ρ S Q
  | .din neg k d, ρ, S, Q => wE G X k ρ S fun w S1 => wE G X d ρ S1 fun v S2 => ∃ a o, v = .ref a ∧ DG S2 a w o ∧ Q (neg ^^ o.isSome) S2
def wAnd (G : Gam) (X : XPost) : List B → Loc → Sto → (Bool → Sto → Prop) → Prop
  | [], _, S, Q => Q true S
  | b :: bs, ρ, S, Q => wB G X b ρ S fun k S1 => if k = true then wAnd G X bs ρ S1 Q else Q false S1
def wOr (G : Gam) (X : XPost) : List B → Loc → Sto → (Bool → Sto → Prop) → Prop
  | [], _, S, Q => Q false S
  | b :: bs, ρ, S, Q => wB G X b ρ S fun k S1 => if k = true then Q true S1 else wOr G X bs ρ S1 Q
/-- a comprehension's tests, one after another -/
def wBs (G : Gam) (X : XPost) : List B → Loc → Sto → (Bool → Sto → Prop) → Prop
  | [], _, S, Q => Q true S
  | b :: bs, ρ, S, Q => wB G X b ρ S fun k S1 => if k = true then wBs G X bs ρ S1 Q else Q false S1
def wP (G : Gam) (X : XPost) : P → Loc → Sto → (Option Int → Sto → Prop) → Prop
  | .no, _, S, Q => Q none S
  | .at e, ρ, S, Q => wE G X e ρ S fun v S1 => ∃ i, v = .int i ∧ Q (some i) S1
def wTg (G : Gam) (X : XPost) : T → Val → Loc → Sto → (Loc → Sto → Prop) → Prop
  | .nm i, v, ρ, S, Q => Q (ρ.set i (some v)) S
  | .tup ts, v, ρ, S, Q => ∃ xs, valD S v xs ∧ xs.length = ts.length ∧ wTgs G X ts xs ρ S Q
  | .ix a i, v, ρ, S, Q => wE G X a ρ S fun o S1 => wE G X i ρ S1 fun k S2 => ∃ p xs j n, o = .ref p ∧ k = .int n ∧ S2 p = some (.lst xs) ∧ ixN xs.length n = some j ∧ Q ρ (S2.upd p (.lst (xs.set j v)))
  | .fld a f, v, ρ, S, Q => wE G X a ρ S fun o S1 => ∃ p C fs, o = .ref p ∧ S1 p = some (.ins C fs) ∧ G.fo C f = true ∧ fs.length < 1000 ∧ Q ρ (S1.upd p (.ins C (putV f v fs)))
  | .dix a i, v, ρ, S, Q => wE G X a ρ S fun o S1 => wE G X i ρ S1 fun k S2 => ∃ p, o = .ref p ∧ DP S2 p k v fun S3 => Q ρ S3
def wTgs (G : Gam) (X : XPost) : List T → List Val → Loc → Sto → (Loc → Sto → Prop) → Prop
  | [], vs, ρ, S, Q => vs = [] ∧ Q ρ S
  | t :: ts, vs, ρ, S, Q => ∃ v r, vs = v :: r ∧ wTg G X t v ρ S fun ρ' S' => wTgs G X ts r ρ' S' Q
def wI (G : Gam) (X : XPost) : I → Loc → Sto → (List Val → (Sto → Prop) → Sto → Prop) → Prop
  | .val e, ρ, S, R => wE G X e ρ S fun v S1 => match v with
    | .tup xs => R xs (fun _ => True) S1
    | .ref a => ∃ xs, rdL S1 a xs ∧ R xs (fun S' => rdL S' a xs) S1
    | .str z => R (z.cps.toList.map fun c => .str ⟨#[c]⟩) (fun _ => True) S1
    | _ => False
  | .rng1 a, ρ, S, R => wE G X a ρ S fun v S1 => ∃ j, v = .int j ∧ small62 j ∧ R (rngV 0 j.toNat) (fun _ => True) S1
  | .rvs1 a, ρ, S, R => wE G X a ρ S fun v S1 => ∃ j, v = .int j ∧ small62 j ∧ R (rngV 0 j.toNat).reverse (fun _ => True) S1
  | .rng2 a b, ρ, S, R => wE G X a ρ S fun v S1 => wE G X b ρ S1 fun w S2 => ∃ i j, v = .int i ∧ w = .int j ∧ small62 i ∧ small62 j ∧ R (rngV i (j - i).toNat) (fun _ => True) S2
  | .keys e, ρ, S, R => wE G X e ρ S fun v S1 => ∃ a, v = .ref a ∧ ((∃ kvs, S1 a = some (.fK kvs) ∧ R (kvs.map fun kv => kval kv.1) (fun S' => S' a = some (.fK kvs)) S1) ∨ ∃ kvs, S1 a = some (.fT kvs) ∧ R (kvs.map fun kv => .ptup (kv.1.map kval)) (fun S' => S' a = some (.fT kvs)) S1)
  | .keysM e, ρ, S, R => wE G X e ρ S fun v S1 => ∃ a kvs, v = .ref a ∧ S1 a = some (.fK kvs) ∧ R (kvs.map fun kv => kval kv.1) (fun S' => S' a = some (.fK kvs)) S1
  | .zip a b, ρ, S, R => wE G X a ρ S fun v S1 => wE G X b ρ S1 fun w S2 => match v, w with
    | .tup xs, .tup ys => R (List.zipWith (fun x y => .ptup [x, y]) xs ys) (fun _ => True) S2
    | .ref a, .ref b => ∃ xs ys, rdL S2 a xs ∧ rdL S2 b ys ∧ R (List.zipWith (fun x y => .ptup [x, y]) xs ys) (fun S' => rdL S' a xs ∧ rdL S' b ys) S2
    | _, _ => False
  | .rvs a, ρ, S, R => wE G X a ρ S fun v S1 => match v with
    | .tup xs => R xs.reverse (fun _ => True) S1
    | .ref a => ∃ xs, rdL S1 a xs ∧ R xs.reverse (fun S' => rdL S' a xs) S1
    | _ => False
  | _, _, _, _ => False
end

/-- what is wanted behind a statement; xc: an error of a class by its name -/
structure En where
  nx : Loc → Sto → Prop
  rt : Post
  bk : Loc → Sto → Prop := fun _ _ => False
  ct : Loc → Sto → Prop := fun _ _ => False
  xc : Str → Loc → Sto → Prop := fun _ _ _ => False

/-- a for's turns -/
def forW (keep : Sto → Prop) (turn : Val → Loc → Sto → En → Prop) (D : En) : List Val → Loc → Sto → Prop
  | [], ρ, S => keep S ∧ D.nx ρ S
  | x :: xs, ρ, S => keep S ∧ turn x ρ S { D with nx := forW keep turn D xs, ct := forW keep turn D xs, bk := D.nx }

/-- tests of a caught error -/
inductive HE where
  | bl (b : Bool) | is (y : Str) | v (i : Nat) | not (a : HE) | and (a b : HE)
/-- what a clause's suite does -/
inductive HK where
  | ret (h : HE) | setB (i : Nat) (h : HE) | setN (i : Nat) | setS (i : Nat) (x : Str)
/-- a clause: its class, its name's slot, its suite -/
structure Hd where
  y : Str
  n : Option Nat
  k : HK
def hE (f : Str → Option Bool) (ρ : Loc) : HE → Option Bool
  | .bl b => some b
  | .is y => f y
  | .v i => match ρ[i]? with
    | some (some (.bl b)) => some b
    | _ => none
  | .not a => (hE f ρ a).map (!·)
  | .and a b => match hE f ρ a with
    | some true => hE f ρ b
    | some false => some false
    | none => none
/-- what stands behind an except -/
inductive Hk where
  | retB (b : Bool)
  deriving DecidableEq
inductive C where
  | asg (t : T) (e : E) | par (is : List Nat) (es : List E) | aug (i : Nat) (op : Operator) (e : E)
  | ex (e : E) | ret (e : E) | retN
  | ite (c : B) (p q : List C) | whil (c : B) (p : List C) | loop (t : T) (it : I) (p : List C)
  | brk | cnt | pass
  | rais (x : Str)
  | lock (c : C)
  | augI (a i : E) (op : Operator) (e : E)
  | tryR (p : List C) (y : Str) (h : Hk)
  | tryM (p : List C) (hs : List Hd)

def setAll (ρ : Loc) : List Nat → List Val → Loc
  | i :: is, v :: vs => setAll (ρ.set i (some v)) is vs
  | _, _ => ρ
/-- name op= e -/
def aAdd : Val → Val → Sto → Post → Prop
  | .int i, .int j, S, Q => Q (.int (i + j)) S
  | .ref a, .ref b, S, Q => ∃ xs ys, S a = some (.lst xs) ∧ S b = some (.lst ys) ∧ xs.length + ys.length ≤ sizeLine ∧ Q (.ref a) (S.upd a (.lst (xs ++ ys)))
  | _, _, _, _ => False
def wAug : Operator → Val → Val → Sto → Post → Prop
  | .Add => aAdd | .Sub => bSub
  | _ => fun _ _ _ _ => False
def wHK (f : Str → Option Bool) (D : En) (ρ : Loc) (S : Sto) : HK → Prop
  | .ret h => ∃ b, hE f ρ h = some b ∧ D.rt (.bl b) S
  | .setB i h => ∃ b, hE f ρ h = some b ∧ D.nx (ρ.set i (some (.bl b))) S
  | .setN i => D.nx (ρ.set i (some .non)) S
  | .setS i x => D.nx (ρ.set i (some (.str x))) S
/-- the clauses, one after another, for an error of the class c -/
def wHs (G : Gam) (D : En) (c : Str) (ρ : Loc) (S : Sto) : List Hd → Prop
  | [] => D.xc c ρ S
  | h :: hs => ∃ b, G.exm c h.y = some b ∧ if b = true then (match h.n with
      | none => wHK (fun _ => none) D ρ S h.k
      | some n => wHK (G.exi c) { D with nx := fun ρ' S' => D.nx (ρ'.set n none) S' } (ρ.set n none) S h.k) else wHs G D c ρ S hs
mutual
def wC (G : Gam) : C → En → Loc → Sto → Prop
  | .asg t e, D, ρ, S => wE G (fun c S => D.xc c ρ S) e ρ S fun v S1 => wTg G noX t v ρ S1 D.nx
  | .par is es, D, ρ, S => wEs G (fun c S => D.xc c ρ S) es ρ S fun vs S1 => D.nx (setAll ρ is vs) S1
  | .aug i op e, D, ρ, S => ∃ v, ρ[i]? = some (some v) ∧ wE G (fun c S => D.xc c ρ S) e ρ S fun w S1 => wAug op v w S1 fun r S2 => D.nx (ρ.set i (some r)) S2
  | .ex e, D, ρ, S => wE G (fun c S => D.xc c ρ S) e ρ S fun _ S1 => D.nx ρ S1
  | .ret e, D, ρ, S => wE G (fun c S => D.xc c ρ S) e ρ S D.rt
  | .retN, D, ρ, S => D.rt .non S
  | .ite c p q, D, ρ, S => wB G (fun c S => D.xc c ρ S) c ρ S fun k S1 => if k = true then wCs G p D ρ S1 else wCs G q D ρ S1
  | .whil c p, D, ρ, S => ∃ W : Nat → Loc → Sto → Prop, (∃ m, W m ρ S) ∧ ∀ m ρ S, W m ρ S → wB G (fun c S => D.xc c ρ S) c ρ S fun k S1 =>
      if k = true then wCs G p { D with nx := fun ρ' S' => ∃ m', m' < m ∧ W m' ρ' S', ct := fun ρ' S' => ∃ m', m' < m ∧ W m' ρ' S', bk := D.nx } ρ S1 else D.nx ρ S1
  | .loop t it p, D, ρ, S => wI G (fun c S => D.xc c ρ S) it ρ S fun xs keep S1 => forW keep (fun x ρ1 S2 D' => wTg G noX t x ρ1 S2 fun ρ2 S3 => wCs G p D' ρ2 S3) D xs ρ S1
  | .brk, D, ρ, S => D.bk ρ S
  | .cnt, D, ρ, S => D.ct ρ S
  | .pass, D, ρ, S => D.nx ρ S
  | .rais x, D, ρ, S => D.xc x ρ S
  | .lock c, D, ρ, S => ∃ a, (∃ kvs, S a = some (.dK kvs) ∧ wC G c { nx := fun ρ' S' => S' a = some (.fK kvs) ∧ D.nx ρ' (S'.upd a (.dK kvs)), rt := fun v S' => S' a = some (.fK kvs) ∧ D.rt v (S'.upd a (.dK kvs)), bk := fun ρ' S' => S' a = some (.fK kvs) ∧ D.bk ρ' (S'.upd a (.dK kvs)), ct := fun ρ' S' => S' a = some (.fK kvs) ∧ D.ct ρ' (S'.upd a (.dK kvs)) } ρ (S.upd a (.fK kvs)))
      ∨ ∃ kvs, S a = some (.dT kvs) ∧ wC G c { nx := fun ρ' S' => S' a = some (.fT kvs) ∧ D.nx ρ' (S'.upd a (.dT kvs)), rt := fun v S' => S' a = some (.fT kvs) ∧ D.rt v (S'.upd a (.dT kvs)), bk := fun ρ' S' => S' a = some (.fT kvs) ∧ D.bk ρ' (S'.upd a (.dT kvs)), ct := fun ρ' S' => S' a = some (.fT kvs) ∧ D.ct ρ' (S'.upd a (.dT kvs)) } ρ (S.upd a (.fT kvs))
  | .augI a i op e, D, ρ, S => wE G noX a ρ S fun o S1 => wE G noX i ρ S1 fun k S2 => ∃ p xs j n x, o = .ref p ∧ k = .int n ∧ rdL S2 p xs ∧ ixN xs.length n = some j ∧ xs[j]? = some x ∧ wE G noX e ρ S2 fun w S3 => wAug op x w S3 fun r S4 => ∃ ys j', S4 p = some (.lst ys) ∧ ixN ys.length n = some j' ∧ D.nx ρ (S4.upd p (.lst (ys.set j' r)))
  | .tryM p hs, D, ρ, S => wCs G p { D with xc := fun c ρ' S' => wHs G D c ρ' S' hs } ρ S
  | .tryR p y h, D, ρ, S => wCs G p { D with xc := fun c ρ' S' => ∃ b, G.exm c y = some b ∧ if b = true then (match h with | .retB k => D.rt (.bl k) S') else D.xc c ρ' S' } ρ S
def wCs (G : Gam) : List C → En → Loc → Sto → Prop
  | [], D, ρ, S => D.nx ρ S
  | c :: cs, D, ρ, S => wC G c { D with nx := fun ρ' S' => wCs G cs D ρ' S' } ρ S
end
end M

namespace M
open PySem PySem.Spec PyProof.Rows L2
section
variable {S : Sto} {Q Q' : Post}
theorem lAdd_mono (h : ∀ v S', Q v S' → Q' v S') (v w : Val) (S : Sto) : lAdd v w S Q → lAdd v w S Q' := by
  unfold lAdd; split
  · exact fun ⟨xs, ys, a, b, c, q⟩ => ⟨xs, ys, a, b, c, fun p hp => h _ _ (q p hp)⟩
  · exact fun z => z
theorem bAdd_mono (h : ∀ v S', Q v S' → Q' v S') (v w : Val) (S : Sto) : bAdd v w S Q → bAdd v w S Q' := by
  unfold bAdd; split
  · exact h _ _
  · exact h _ _
  · exact fun q => ⟨q.1, h _ _ q.2⟩
  · exact fun q => ⟨q.1, h _ _ q.2⟩
  · exact fun ⟨xs, ys, a, b, c, q⟩ => ⟨xs, ys, a, b, c, fun p hp => h _ _ (q p hp)⟩
  · exact id
theorem bSub_mono (h : ∀ v S', Q v S' → Q' v S') (v w : Val) (S : Sto) : bSub v w S Q → bSub v w S Q' := by
  unfold bSub; split
  · exact h _ _
  · exact id
theorem bMul_mono (h : ∀ v S', Q v S' → Q' v S') (v w : Val) (S : Sto) : bMul v w S Q → bMul v w S Q' := by
  unfold bMul; split
  · exact fun q => ⟨q.1, h _ _ q.2⟩
  · exact fun ⟨xs, a, b, c, d, q⟩ => ⟨xs, a, b, c, d, fun p hp => h _ _ (q p hp)⟩
  · exact fun ⟨a, b, c, q⟩ => ⟨a, b, c, h _ _ q⟩
  · exact id
theorem wBin_mono (h : ∀ v S', Q v S' → Q' v S') (op : Operator) (v w : Val) (S : Sto) : wBin op v w S Q → wBin op v w S Q' := by
  cases op <;> simp only [wBin]
  case Add => exact bAdd_mono h v w S
  case Sub => exact bSub_mono h v w S
  case Mult => exact bMul_mono h v w S
  case FloorDiv => unfold bDiv; split <;> first | exact id | exact fun q => ⟨q.1, h _ _ q.2⟩
  case Mod => unfold bMod; split <;> first | exact id | exact fun q => ⟨q.1, h _ _ q.2⟩
  case Pow => unfold bPow; split <;> first | exact id | exact fun q => ⟨q.1, h _ _ q.2⟩
  case LShift => unfold bShl; split <;> first | exact id | exact fun q => ⟨q.1, h _ _ q.2⟩
  case RShift => unfold bShr; split <;> first | exact id | exact fun q => ⟨q.1, h _ _ q.2⟩
  case BitAnd => unfold bAnd; split <;> first | exact id | exact h _ _
  case BitXor => unfold bXor; split <;> first | exact id | exact h _ _
  all_goals exact id
theorem aAdd_mono (h : ∀ v S', Q v S' → Q' v S') (v w : Val) (S : Sto) : aAdd v w S Q → aAdd v w S Q' := by
  unfold aAdd; split
  · exact h _ _
  · exact fun ⟨xs, ys, a, b, c, q⟩ => ⟨xs, ys, a, b, c, h _ _ q⟩
  · exact id
theorem wAug_mono (h : ∀ v S', Q v S' → Q' v S') (op : Operator) (v w : Val) (S : Sto) : wAug op v w S Q → wAug op v w S Q' := by
  cases op <;> simp only [wAug]
  case Add => exact aAdd_mono h v w S
  case Sub => exact bSub_mono h v w S
  all_goals exact id
theorem cEq_mono (n : Bool) (h : ∀ v S', Q v S' → Q' v S') (v w : Val) (S : Sto) : cEq n v w S Q → cEq n v w S Q' := by
  unfold cEq; split
  · exact h _ _
  · rintro (⟨x, y, a, b, q⟩ | ⟨d, e, a, b, c, f, q⟩)
    · exact .inl ⟨x, y, a, b, h _ _ q⟩
    · exact .inr ⟨d, e, a, b, c, f, h _ _ q⟩
theorem cInt_mono (f : Int → Int → Bool) (h : ∀ v S', Q v S' → Q' v S') (v w : Val) (S : Sto) : cInt f v w S Q → cInt f v w S Q' := by
  unfold cInt; split
  · exact h _ _
  · exact id
theorem cIn_mono (n : Bool) (h : ∀ v S', Q v S' → Q' v S') (v w : Val) (S : Sto) : cIn n v w S Q → cIn n v w S Q' := by
  unfold cIn; split
  · exact fun ⟨xs, d, e, l, a, b, c, f, q⟩ => ⟨xs, d, e, l, a, b, c, f, h _ _ q⟩
  · exact fun ⟨a, b, q⟩ => ⟨a, b, h _ _ q⟩
  · exact id
theorem cIs_mono (n : Bool) (h : ∀ v S', Q v S' → Q' v S') (v w : Val) (S : Sto) : cIs n v w S Q → cIs n v w S Q' := by
  unfold cIs; split <;> first | exact h _ _ | exact id
theorem wCmp_mono (h : ∀ v S', Q v S' → Q' v S') (op : CmpOp) (v w : Val) (S : Sto) : wCmp op v w S Q → wCmp op v w S Q' := by
  cases op <;> simp only [wCmp]
  case Eq => exact cEq_mono _ h v w S
  case NotEq => exact cEq_mono _ h v w S
  case In => exact cIn_mono _ h v w S
  case NotIn => exact cIn_mono _ h v w S
  case Is => exact cIs_mono _ h v w S
  case IsNot => exact cIs_mono _ h v w S
  all_goals exact cInt_mono _ h v w S
theorem wTru_mono {Q Q' : Bool → Sto → Prop} (h : ∀ v S', Q v S' → Q' v S') (v : Val) (S : Sto) : wTru v S Q → wTru v S Q' := by
  unfold wTru; split <;> first | exact h _ _ | exact id | exact fun ⟨xs, a, q⟩ => ⟨xs, a, h _ _ q⟩
theorem vIx_mono (h : ∀ v S', Q v S' → Q' v S') (v w : Val) (S : Sto) : vIx v w S Q → vIx v w S Q' := by
  unfold vIx; split
  · exact fun ⟨x, a, q⟩ => ⟨x, a, h _ _ q⟩
  · exact fun ⟨xs, x, a, b, q⟩ => ⟨xs, x, a, b, h _ _ q⟩
  · exact fun ⟨x, a, b, q⟩ => ⟨x, a, b, h _ _ q⟩
  · exact fun ⟨x, a, q⟩ => ⟨x, a, h _ _ q⟩
  · exact id
theorem vSl_mono (h : ∀ v S', Q v S' → Q' v S') (v : Val) (l u : Option Int) (S : Sto) : vSl v l u S Q → vSl v l u S Q' := by
  unfold vSl; split
  · exact h _ _
  · exact fun ⟨xs, a, q⟩ => ⟨xs, a, fun p hp => h _ _ (q p hp)⟩
  · exact fun ⟨a, q⟩ => ⟨a, h _ _ q⟩
  · exact id
theorem vFld_mono (fo : Str → Str → Bool) (f : Str) (h : ∀ v S', Q v S' → Q' v S') (v : Val) (S : Sto) : vFld fo f v S Q → vFld fo f v S Q' := by
  unfold vFld; split
  · exact fun ⟨C, fs, x, a, b, c, q⟩ => ⟨C, fs, x, a, b, c, h _ _ q⟩
  · exact id
theorem wBlt_mono (h : ∀ v S', Q v S' → Q' v S') (b : Blt) (vs : List Val) (S : Sto) : wBlt b vs S Q → wBlt b vs S Q' := by
  unfold wBlt; split
  case h_2 => split <;> first | exact h _ _ | exact id
  all_goals first | exact h _ _ | exact id | exact fun ⟨a, q⟩ => ⟨a, h _ _ q⟩ | exact fun ⟨xs, a, q⟩ => ⟨xs, a, h _ _ q⟩ | exact fun ⟨xs, a, q⟩ => ⟨xs, a, fun p hp => h _ _ (q p hp)⟩ | exact fun ⟨ns, a, q⟩ => ⟨ns, a, fun ns' b c p hp => h _ _ (q ns' b c p hp)⟩ | exact fun ⟨ns, a, k, q⟩ => ⟨ns, a, k, fun ns' b c p hp => h _ _ (q ns' b c p hp)⟩ | exact fun ⟨ns, a, k, q⟩ => ⟨ns, a, k, fun m b c => h _ _ (q m b c)⟩
theorem wMth_mono (h : ∀ v S', Q v S' → Q' v S') (m : Mth) (v : Val) (vs : List Val) (S : Sto) : wMth m v vs S Q → wMth m v vs S Q' := by
  unfold wMth; split
  · exact fun ⟨xs, a, b, q⟩ => ⟨xs, a, b, h _ _ q⟩
  · exact fun ⟨xs, x, a, b, q⟩ => ⟨xs, x, a, b, h _ _ q⟩
  · exact fun ⟨xs, x, a, b, c, d, q⟩ => ⟨xs, x, a, b, c, d, h _ _ q⟩
  · exact fun ⟨xs, a, b, c, d, q⟩ => ⟨xs, a, b, c, d, h _ _ q⟩
  · exact fun ⟨xs, ys, a, b, c, q⟩ => ⟨xs, ys, a, b, c, h _ _ q⟩
  · exact fun ⟨xs, a, q⟩ => ⟨xs, a, h _ _ q⟩
  · exact fun ⟨xs, j, a, b, c, q⟩ => ⟨xs, j, a, b, c, h _ _ q⟩
  · exact fun ⟨xs, j, a, b, c, q⟩ => ⟨xs, j, a, b, c, h _ _ q⟩
  · exact fun ⟨xs, a, q⟩ => ⟨xs, a, h _ _ q⟩
  · exact fun ⟨xs, j, a, b, c, q⟩ => ⟨xs, j, a, b, c, h _ _ q⟩
  · exact fun ⟨ys, a, b, q⟩ => ⟨ys, a, b, h _ _ q⟩
  · exact id
theorem DP_mono {Q Q' : Sto → Prop} {S : Sto} {a : Addr} {w v : Val} (h : ∀ S', Q S' → Q' S') : DP S a w v Q → DP S a w v Q' := by
  rintro (⟨kvs, k, a, b, c, q⟩ | ⟨kvs, k, a, b, c, q⟩)
  · exact .inl ⟨kvs, k, a, b, c, h _ q⟩
  · exact .inr ⟨kvs, k, a, b, c, h _ q⟩
theorem compW_mono {keep : Sto → Prop} {turn turn' : Val → Sto → (Option Val → Sto → Prop) → Prop} (ht : ∀ x S R R', (∀ o S', R o S' → R' o S') → turn x S R → turn' x S R') (h : ∀ v S', Q v S' → Q' v S') :
    ∀ (xs acc : List Val) (S : Sto), compW keep turn xs acc S Q → compW keep turn' xs acc S Q'
  | [], acc, S, q => ⟨q.1, fun p hp => h _ _ (q.2 p hp)⟩
  | x :: xs, acc, S, q => by
    refine ⟨q.1, ht x S _ _ (fun o S' r => ?_) q.2⟩
    cases o with
    | none => exact compW_mono ht h xs acc S' r
    | some v => exact ⟨r.1, compW_mono ht h xs _ S' r.2⟩
end

mutual
theorem wE_mono (G : Gam) (X : XPost) : ∀ (e : E) {ρ : Loc} {S : Sto} {Q Q' : Post}, (∀ v S', Q v S' → Q' v S') → wE G X e ρ S Q → wE G X e ρ S Q'
  | .v i, _, _, _, _, h, q => by simp only [wE] at q ⊢; exact let ⟨v, a, q⟩ := q; ⟨v, a, h _ _ q⟩
  | .int i, _, _, _, _, h, q => by simp only [wE] at q ⊢; exact h _ _ q
  | .bl i, _, _, _, _, h, q => by simp only [wE] at q ⊢; exact h _ _ q
  | .non, _, _, _, _, h, q => by simp only [wE] at q ⊢; exact h _ _ q
  | .str i, _, _, _, _, h, q => by simp only [wE] at q ⊢; exact h _ _ q
  | .g x, _, _, _, _, h, q => by simp only [wE] at q ⊢; exact let ⟨v, a, q⟩ := q; ⟨v, a, h _ _ q⟩
  | .bin op a b, _, _, _, _, h, q => by
    simp only [wE] at q ⊢
    exact wE_mono G X a (fun v S1 q => wE_mono G X b (fun w S2 q => wBin_mono h op v w S2 q) q) q
  | .neg a, _, _, _, _, h, q => by
    simp only [wE] at q ⊢
    exact wE_mono G X a (fun v S1 ⟨i, e, q⟩ => ⟨i, e, h _ _ q⟩) q
  | .cmp op a b, _, _, _, _, h, q => by
    simp only [wE] at q ⊢
    exact wE_mono G X a (fun v S1 q => wE_mono G X b (fun w S2 q => wCmp_mono h op v w S2 q) q) q
  | .chain op op' a b c, _, _, _, _, h, q => by
    simp only [wE] at q ⊢
    refine wE_mono G X a (fun v S1 q => wE_mono G X b (fun w S2 q => wCmp_mono (fun r S3 ⟨k, e, q⟩ => ⟨k, e, ?_⟩) op v w S2 q) q) q
    cases k with
    | true => simp only [if_true] at q ⊢; exact wE_mono G X c (fun u S4 q => wCmp_mono h op' w u S4 q) q
    | false => simp only [Bool.false_eq_true, if_false] at q ⊢; exact h _ _ q
  | .and es, _, _, _, _, h, q => by simp only [wE] at q ⊢; exact wAndV_mono G X es h q
  | .or es, _, _, _, _, h, q => by simp only [wE] at q ⊢; exact wOrV_mono G X es h q
  | .not a, _, _, _, _, h, q => by
    simp only [wE] at q ⊢
    exact wE_mono G X a (fun v S1 ⟨i, e, q⟩ => ⟨i, e, h _ _ q⟩) q
  | .ife t a b, _, _, _, _, h, q => by
    simp only [wE] at q ⊢
    refine wB_mono G X t (fun k S1 q => ?_) q
    cases k with
    | true => simp only [if_true] at q ⊢; exact wE_mono G X a h q
    | false => simp only [Bool.false_eq_true, if_false] at q ⊢; exact wE_mono G X b h q
  | .tup es, _, _, _, _, h, q => by simp only [wE] at q ⊢; exact wEs_mono G X es (fun vs S1 ⟨a, q⟩ => ⟨a, h _ _ q⟩) q
  | .lst es, _, _, _, _, h, q => by simp only [wE] at q ⊢; exact wEs_mono G X es (fun vs S1 ⟨a, q⟩ => ⟨a, fun p hp => h _ _ (q p hp)⟩) q
  | .ix a i, _, _, _, _, h, q => by
    simp only [wE] at q ⊢
    exact wE_mono G X a (fun v S1 q => wE_mono G X i (fun w S2 q => vIx_mono h v w S2 q) q) q
  | .sl a lo hi, _, _, _, _, h, q => by
    simp only [wE] at q ⊢
    exact wE_mono G X a (fun v S1 q => wP_mono G X lo (fun l S2 q => wP_mono G X hi (fun u S3 q => vSl_mono h v l u S3 q) q) q) q
  | .rev a, _, _, _, _, h, q => by
    simp only [wE] at q ⊢
    exact wE_mono G X a (fun v S1 ⟨a, xs, e, f, q⟩ => ⟨a, xs, e, f, fun p hp => h _ _ (q p hp)⟩) q
  | .fld a f, _, _, _, _, h, q => by
    simp only [wE] at q ⊢
    exact wE_mono G X a (fun v S1 q => vFld_mono _ f h v S1 q) q
  | .call f es, _, _, _, _, h, q => by
    simp only [wE] at q ⊢
    exact let ⟨sp, e, q⟩ := q; ⟨sp, e, wEs_mono G X es (fun vs S1 q => q.mono h fun _ _ x => x) q⟩
  | .new f es, _, _, _, _, h, q => by
    simp only [wE] at q ⊢
    exact let ⟨sp, e, q⟩ := q; ⟨sp, e, wEs_mono G X es (fun vs S1 q p hp => (q p hp).mono (fun v S2 z => ⟨z.1, h _ _ z.2⟩) fun _ _ x => x) q⟩
  | .meth o m es, _, _, _, _, h, q => by
    simp only [wE] at q ⊢
    exact wE_mono G X o (fun v S0 ⟨a, C, fs, sp, e1, e2, e3, e4, q⟩ => ⟨a, C, fs, sp, e1, e2, e3, e4, wEs_mono G X es (fun vs S1 q => q.mono h fun _ _ x => x) q⟩) q
  | .blt b es, _, _, _, _, h, q => by simp only [wE] at q ⊢; exact wEs_mono G X es (fun vs S1 q => wBlt_mono h b vs S1 q) q
  | .mth m o es, _, _, _, _, h, q => by
    simp only [wE] at q ⊢
    exact wE_mono G X o (fun v S1 ⟨t, q⟩ => ⟨t, wEs_mono G X es (fun vs S2 q => wMth_mono h m v vs S2 q) q⟩) q
  | .isi a t, _, _, _, _, h, q => by
    simp only [wE] at q ⊢
    exact wE_mono G X a (fun v S1 ⟨n, k, e1, e2, q⟩ => ⟨n, k, e1, e2, h _ _ q⟩) q
  | .isiT a ts, _, _, _, _, h, q => by
    simp only [wE] at q ⊢
    exact wE_mono G X a (fun v S1 ⟨n, e1, e2, q⟩ => ⟨n, e1, e2, h _ _ q⟩) q
  | .lc own t it ifs e, _, _, _, _, h, q => by
    simp only [wE] at q ⊢
    refine wI_mono G X it (fun xs keep S1 q => compW_mono (fun x S2 R R' hR q => ?_) h xs [] S1 q) q
    refine wTg_mono G _ t (fun ρ' S3 q => wBs_mono G _ ifs (fun k S4 q => ?_) q) q
    cases k with
    | true => simp only [if_true] at q ⊢; exact wE_mono G _ e (fun v S5 q => hR _ _ q) q
    | false => simp only [Bool.false_eq_true, if_false] at q ⊢; exact hR _ _ q
  | .dK0, _, _, _, _, h, q => by simp only [wE] at q ⊢; exact fun p hp => h _ _ (q p hp)
  | .dT0, _, _, _, _, h, q => by simp only [wE] at q ⊢; exact fun p hp => h _ _ (q p hp)
  | .dT1 k v, _, _, _, _, h, q => by
    simp only [wE] at q ⊢
    exact fun p hp => wE_mono G X k (fun w S1 q => wE_mono G X v (fun u S2 ⟨ks, e1, e2, q⟩ => ⟨ks, e1, e2, h _ _ q⟩) q) (q p hp)
  | .addL a b, _, _, _, _, h, q => by
    simp only [wE] at q ⊢
    exact wE_mono G X a (fun v S1 q => wE_mono G X b (fun w S2 q => lAdd_mono h v w S2 q) q) q
  | .revT a, _, _, _, _, h, q => by simp only [wE] at q ⊢; exact wE_mono G X a (fun v S1 ⟨xs, e, q⟩ => ⟨xs, e, h _ _ q⟩) q
  | .repr a, _, _, _, _, h, q => by
    simp only [wE, vRepr] at q ⊢
    exact ⟨q.1, wE_mono G X a (fun v S1 ⟨d, a, b, c, e, f, q⟩ => ⟨d, a, b, c, e, f, h _ _ q⟩) q.2⟩
  | .ktup es, _, _, _, _, h, q => by simp only [wE] at q ⊢; exact wEs_mono G X es (fun vs S1 ⟨a, q⟩ => ⟨a, h _ _ q⟩) q
  | .lrng1 a, _, _, _, _, h, q => by simp only [wE] at q ⊢; exact wE_mono G X a (fun v S1 ⟨n, a, b, c, q⟩ => ⟨n, a, b, c, fun p hp => h _ _ (q p hp)⟩) q
  | .lrng2 a b, _, _, _, _, h, q => by simp only [wE] at q ⊢; exact wE_mono G X a (fun v S1 q => wE_mono G X b (fun w S2 ⟨i, j, a, b, c, d, e, q⟩ => ⟨i, j, a, b, c, d, e, fun p hp => h _ _ (q p hp)⟩) q) q
  | .lrev a, _, _, _, _, h, q => by simp only [wE] at q ⊢; exact wE_mono G X a (fun v S1 ⟨a, xs, e, f, q⟩ => ⟨a, xs, e, f, fun p hp => h _ _ (q p hp)⟩) q
  | .trev a, _, _, _, _, h, q => by simp only [wE] at q ⊢; exact wE_mono G X a (fun v S1 ⟨a, xs, e, f, q⟩ => ⟨a, xs, e, f, h _ _ q⟩) q
  | .sset a, _, _, _, _, h, q => by simp only [wE] at q ⊢; exact wE_mono G X a (fun v S1 ⟨ns, a, b, q⟩ => ⟨ns, a, b, fun n1 h1 h2 p hp => h _ _ (q n1 h1 h2 p hp)⟩) q
  | .dix d k, _, _, _, _, h, q => by simp only [wE] at q ⊢; exact wE_mono G X d (fun v S1 q => wE_mono G X k (fun w S2 ⟨a, x, e1, e2, q⟩ => ⟨a, x, e1, e2, h _ _ q⟩) q) q
  | .dg1 d k, _, _, _, _, h, q => by simp only [wE] at q ⊢; exact wE_mono G X d (fun v S1 ⟨a, e1, e2, q⟩ => ⟨a, e1, e2, wE_mono G X k (fun w S2 ⟨o, e3, q⟩ => ⟨o, e3, h _ _ q⟩) q⟩) q
  | .dg2 d k x, _, _, _, _, h, q => by simp only [wE] at q ⊢; exact wE_mono G X d (fun v S1 ⟨a, e1, e2, q⟩ => ⟨a, e1, e2, wE_mono G X k (fun w S2 q => wE_mono G X x (fun u S3 ⟨o, e3, q⟩ => ⟨o, e3, h _ _ q⟩) q) q⟩) q
  | .dsd d k x, _, _, _, _, h, q => by simp only [wE] at q ⊢; exact wE_mono G X d (fun v S1 ⟨a, e1, e2, q⟩ => ⟨a, e1, e2, wE_mono G X k (fun w S2 q => wE_mono G X x (fun u S3 ⟨kvs, key, e3, e4, e5, q1, q2⟩ => ⟨kvs, key, e3, e4, e5, fun y hy => h _ _ (q1 y hy), fun hn => h _ _ (q2 hn)⟩) q) q⟩) q
  | .dpop d k, _, _, _, _, h, q => by simp only [wE] at q ⊢; exact wE_mono G X d (fun v S1 ⟨a, e1, e2, q⟩ => ⟨a, e1, e2, wE_mono G X k (fun w S2 ⟨kvs, key, x, e3, e4, e5, q⟩ => ⟨kvs, key, x, e3, e4, e5, h _ _ q⟩) q⟩) q
  | .din neg k d, _, _, _, _, h, q => by simp only [wE] at q ⊢; exact wE_mono G X k (fun v S1 q => wE_mono G X d (fun w S2 ⟨a, x, e1, e2, q⟩ => ⟨a, x, e1, e2, h _ _ q⟩) q) q
  | .lockE e, _, _, _, _, h, q => by
    simp only [wE] at q ⊢
    obtain ⟨a, ⟨kvs, hs, q⟩ | ⟨kvs, hs, q⟩⟩ := q
    · exact ⟨a, .inl ⟨kvs, hs, wE_mono G _ e (fun v S1 q => ⟨q.1, h _ _ q.2⟩) q⟩⟩
    · exact ⟨a, .inr ⟨kvs, hs, wE_mono G _ e (fun v S1 q => ⟨q.1, h _ _ q.2⟩) q⟩⟩
theorem wEs_mono (G : Gam) (X : XPost) : ∀ (es : List E) {ρ : Loc} {S : Sto} {Q Q' : List Val → Sto → Prop}, (∀ v S', Q v S' → Q' v S') → wEs G X es ρ S Q → wEs G X es ρ S Q'
  | [], _, _, _, _, h, q => by simp only [wEs] at q ⊢; exact h _ _ q
  | e :: es, _, _, _, _, h, q => by simp only [wEs] at q ⊢; exact wE_mono G X e (fun v S1 q => wEs_mono G X es (fun vs S2 q => h _ _ q) q) q
theorem wAndV_mono (G : Gam) (X : XPost) : ∀ (es : List E) {ρ : Loc} {S : Sto} {Q Q' : Post}, (∀ v S', Q v S' → Q' v S') → wAndV G X es ρ S Q → wAndV G X es ρ S Q'
  | [], _, _, _, _, h, q => by simp only [wAndV] at q
  | e :: es, _, _, _, _, h, q => by
    simp only [wAndV] at q ⊢
    refine wE_mono G X e (fun v S1 q => ?_) q
    split at q
    · rename_i c; rw [if_pos c]; exact h _ _ q
    · rename_i c; rw [if_neg c]
      obtain ⟨b, e, q⟩ := q
      refine ⟨b, e, ?_⟩
      cases b with
      | true => simp only [if_true] at q ⊢; exact wAndV_mono G X es h q
      | false => simp only [Bool.false_eq_true, if_false] at q ⊢; exact h _ _ q
theorem wOrV_mono (G : Gam) (X : XPost) : ∀ (es : List E) {ρ : Loc} {S : Sto} {Q Q' : Post}, (∀ v S', Q v S' → Q' v S') → wOrV G X es ρ S Q → wOrV G X es ρ S Q'
  | [], _, _, _, _, h, q => by simp only [wOrV] at q
  | e :: es, _, _, _, _, h, q => by
    simp only [wOrV] at q ⊢
    refine wE_mono G X e (fun v S1 q => ?_) q
    split at q
    · rename_i c; rw [if_pos c]; exact h _ _ q
    · rename_i c; rw [if_neg c]
      obtain ⟨b, e, q⟩ := q
      refine ⟨b, e, ?_⟩
      cases b with
      | false => simp only [Bool.false_eq_true, if_false] at q ⊢; exact wOrV_mono G X es h q
      | true => simp only [if_true] at q ⊢; exact h _ _ q
theorem wB_mono (G : Gam) (X : XPost) : ∀ (b : B) {ρ : Loc} {S : Sto} {Q Q' : Bool → Sto → Prop}, (∀ v S', Q v S' → Q' v S') → wB G X b ρ S Q → wB G X b ρ S Q'
  | .val e, _, _, _, _, h, q => by simp only [wB] at q ⊢; exact wE_mono G X e (fun v S1 q => wTru_mono h v S1 q) q
  | .cmp op a b, _, _, _, _, h, q => by
    simp only [wB] at q ⊢
    exact wE_mono G X a (fun v S1 q => wE_mono G X b (fun w S2 q => wCmp_mono (fun r S3 ⟨k, e, q⟩ => ⟨k, e, h _ _ q⟩) op v w S2 q) q) q
  | .chain op op' a b c, _, _, _, _, h, q => by
    simp only [wB] at q ⊢
    refine wE_mono G X a (fun v S1 q => wE_mono G X b (fun w S2 q => wCmp_mono (fun r S3 ⟨k, e, q⟩ => ⟨k, e, ?_⟩) op v w S2 q) q) q
    cases k with
    | true => simp only [if_true] at q ⊢; exact wE_mono G X c (fun u S4 q => wCmp_mono (fun r S5 ⟨k, e, q⟩ => ⟨k, e, h _ _ q⟩) op' w u S4 q) q
    | false => simp only [Bool.false_eq_true, if_false] at q ⊢; exact h _ _ q
  | .chain3 op op' op'' a b c d, _, _, _, _, h, q => by
    simp only [wB] at q ⊢
    refine wE_mono G X a (fun v S1 q => wE_mono G X b (fun w S2 q => wCmp_mono (fun r S3 ⟨k, e, q⟩ => ⟨k, e, ?_⟩) op v w S2 q) q) q
    cases k with
    | true =>
      simp only [if_true] at q ⊢
      refine wE_mono G X c (fun u S4 q => wCmp_mono (fun r S5 ⟨k2, e2, q⟩ => ⟨k2, e2, ?_⟩) op' w u S4 q) q
      cases k2 with
      | true => simp only [if_true] at q ⊢; exact wE_mono G X d (fun u2 S6 q => wCmp_mono (fun r S7 ⟨k3, e3, q⟩ => ⟨k3, e3, h _ _ q⟩) op'' u u2 S6 q) q
      | false => simp only [Bool.false_eq_true, if_false] at q ⊢; exact h _ _ q
    | false => simp only [Bool.false_eq_true, if_false] at q ⊢; exact h _ _ q
  | .not b, _, _, _, _, h, q => by simp only [wB] at q ⊢; exact wB_mono G X b (fun k S1 q => h _ _ q) q
  | .and bs, _, _, _, _, h, q => by simp only [wB] at q ⊢; exact wAnd_mono G X bs h q
  | .or bs, _, _, _, _, h, q => by simp only [wB] at q ⊢; exact wOr_mono G X bs h q
  | .din neg k d, _, _, _, _, h, q => by simp only [wB] at q ⊢; exact wE_mono G X k (fun v S1 q => wE_mono G X d (fun w S2 ⟨a, x, e1, e2, q⟩ => ⟨a, x, e1, e2, h _ _ q⟩) q) q
theorem wAnd_mono (G : Gam) (X : XPost) : ∀ (bs : List B) {ρ : Loc} {S : Sto} {Q Q' : Bool → Sto → Prop}, (∀ v S', Q v S' → Q' v S') → wAnd G X bs ρ S Q → wAnd G X bs ρ S Q'
  | [], _, _, _, _, h, q => by simp only [wAnd] at q ⊢; exact h _ _ q
  | b :: bs, _, _, _, _, h, q => by
    simp only [wAnd] at q ⊢
    refine wB_mono G X b (fun k S1 q => ?_) q
    cases k with
    | true => simp only [if_true] at q ⊢; exact wAnd_mono G X bs h q
    | false => simp only [Bool.false_eq_true, if_false] at q ⊢; exact h _ _ q
theorem wOr_mono (G : Gam) (X : XPost) : ∀ (bs : List B) {ρ : Loc} {S : Sto} {Q Q' : Bool → Sto → Prop}, (∀ v S', Q v S' → Q' v S') → wOr G X bs ρ S Q → wOr G X bs ρ S Q'
  | [], _, _, _, _, h, q => by simp only [wOr] at q ⊢; exact h _ _ q
  | b :: bs, _, _, _, _, h, q => by
    simp only [wOr] at q ⊢
    refine wB_mono G X b (fun k S1 q => ?_) q
    cases k with
    | false => simp only [Bool.false_eq_true, if_false] at q ⊢; exact wOr_mono G X bs h q
    | true => simp only [if_true] at q ⊢; exact h _ _ q
theorem wBs_mono (G : Gam) (X : XPost) : ∀ (bs : List B) {ρ : Loc} {S : Sto} {Q Q' : Bool → Sto → Prop}, (∀ v S', Q v S' → Q' v S') → wBs G X bs ρ S Q → wBs G X bs ρ S Q'
  | [], _, _, _, _, h, q => by simp only [wBs] at q ⊢; exact h _ _ q
  | b :: bs, _, _, _, _, h, q => by
    simp only [wBs] at q ⊢
    refine wB_mono G X b (fun k S1 q => ?_) q
    cases k with
    | true => simp only [if_true] at q ⊢; exact wBs_mono G X bs h q
    | false => simp only [Bool.false_eq_true, if_false] at q ⊢; exact h _ _ q
theorem wP_mono (G : Gam) (X : XPost) : ∀ (p : P) {ρ : Loc} {S : Sto} {Q Q' : Option Int → Sto → Prop}, (∀ v S', Q v S' → Q' v S') → wP G X p ρ S Q → wP G X p ρ S Q'
  | .no, _, _, _, _, h, q => by simp only [wP] at q ⊢; exact h _ _ q
  | .at e, _, _, _, _, h, q => by simp only [wP] at q ⊢; exact wE_mono G X e (fun v S1 ⟨i, e, q⟩ => ⟨i, e, h _ _ q⟩) q
theorem wTg_mono (G : Gam) (X : XPost) : ∀ (t : T) {v : Val} {ρ : Loc} {S : Sto} {Q Q' : Loc → Sto → Prop}, (∀ v S', Q v S' → Q' v S') → wTg G X t v ρ S Q → wTg G X t v ρ S Q'
  | .nm i, _, _, _, _, _, h, q => by simp only [wTg] at q ⊢; exact h _ _ q
  | .tup ts, _, _, _, _, _, h, q => by simp only [wTg] at q ⊢; exact let ⟨xs, a, b, q⟩ := q; ⟨xs, a, b, wTgs_mono G X ts h q⟩
  | .ix a i, _, _, _, _, _, h, q => by
    simp only [wTg] at q ⊢
    exact wE_mono G X a (fun o S1 q => wE_mono G X i (fun k S2 ⟨p, xs, j, n, a, b, c, d, q⟩ => ⟨p, xs, j, n, a, b, c, d, h _ _ q⟩) q) q
  | .fld a f, _, _, _, _, _, h, q => by
    simp only [wTg] at q ⊢
    exact wE_mono G X a (fun o S1 ⟨p, C, fs, a, b, c, d, q⟩ => ⟨p, C, fs, a, b, c, d, h _ _ q⟩) q
  | .dix a i, _, _, _, _, _, h, q => by
    simp only [wTg] at q ⊢
    exact wE_mono G X a (fun o S1 q => wE_mono G X i (fun k S2 ⟨p, e, q⟩ => ⟨p, e, DP_mono (fun S3 q => h _ _ q) q⟩) q) q
theorem wTgs_mono (G : Gam) (X : XPost) : ∀ (ts : List T) {vs : List Val} {ρ : Loc} {S : Sto} {Q Q' : Loc → Sto → Prop}, (∀ v S', Q v S' → Q' v S') → wTgs G X ts vs ρ S Q → wTgs G X ts vs ρ S Q'
  | [], _, _, _, _, _, h, q => by simp only [wTgs] at q ⊢; exact ⟨q.1, h _ _ q.2⟩
  | t :: ts, _, _, _, _, _, h, q => by simp only [wTgs] at q ⊢; exact let ⟨v, r, a, q⟩ := q; ⟨v, r, a, wTg_mono G X t (fun ρ' S' q => wTgs_mono G X ts h q) q⟩
theorem wI_mono (G : Gam) (X : XPost) : ∀ (it : I) {ρ : Loc} {S : Sto} {R R' : List Val → (Sto → Prop) → Sto → Prop}, (∀ xs k S', R xs k S' → R' xs k S') → wI G X it ρ S R → wI G X it ρ S R'
  | .val e, _, _, _, _, h, q => by
    simp only [wI] at q ⊢
    refine wE_mono G X e (fun v S1 q => ?_) q
    split at q
    · exact h _ _ _ q
    · exact let ⟨xs, a, q⟩ := q; ⟨xs, a, h _ _ _ q⟩
    · exact h _ _ _ q
    · exact q
  | .rng1 a, _, _, _, _, h, q => by simp only [wI] at q ⊢; exact wE_mono G X a (fun v S1 ⟨j, a, b, q⟩ => ⟨j, a, b, h _ _ _ q⟩) q
  | .rng2 a b, _, _, _, _, h, q => by simp only [wI] at q ⊢; exact wE_mono G X a (fun v S1 q => wE_mono G X b (fun v S1 ⟨i, j, a, b, c, d, q⟩ => ⟨i, j, a, b, c, d, h _ _ _ q⟩) q) q
  | .rng3 .., _, _, _, _, h, q => by simp only [wI] at q
  | .zip a b, _, _, _, _, h, q => by
    simp only [wI] at q ⊢
    refine wE_mono G X a (fun v S1 q => wE_mono G X b (fun w S2 q => ?_) q) q
    split at q
    · exact h _ _ _ q
    · obtain ⟨xs, ys, l1, l2, q⟩ := q; exact ⟨xs, ys, l1, l2, h _ _ _ q⟩
    · exact q
  | .rvs a, _, _, _, _, h, q => by
    simp only [wI] at q ⊢
    refine wE_mono G X a (fun v S1 q => ?_) q
    split at q
    · exact h _ _ _ q
    · obtain ⟨xs, l1, q⟩ := q; exact ⟨xs, l1, h _ _ _ q⟩
    · exact q
  | .rvs1 a, _, _, _, _, h, q => by simp only [wI] at q ⊢; exact wE_mono G X a (fun v S1 ⟨j, a, b, q⟩ => ⟨j, a, b, h _ _ _ q⟩) q
  | .rvs2 .., _, _, _, _, h, q => by simp only [wI] at q
  | .enum .., _, _, _, _, h, q => by simp only [wI] at q
  | .keys e, _, _, _, _, h, q => by
    simp only [wI] at q ⊢
    refine wE_mono G X e (fun v S1 ⟨a, e1, q⟩ => ⟨a, e1, ?_⟩) q
    rcases q with ⟨kvs, hs, q⟩ | ⟨kvs, hs, q⟩
    · exact .inl ⟨kvs, hs, h _ _ _ q⟩
    · exact .inr ⟨kvs, hs, h _ _ _ q⟩
  | .keysM e, _, _, _, _, h, q => by
    simp only [wI] at q ⊢
    exact wE_mono G X e (fun v S1 ⟨a, kvs, e1, e2, q⟩ => ⟨a, kvs, e1, e2, h _ _ _ q⟩) q
end
end M

namespace M
open PySem PySem.Spec PyProof.Rows L2
/-- a tuple without a dict of its own -/
def SqN (K : PySem.W.Frag) (H : Hp) (p : Addr) (xs : List V) : Prop :=
  (∃ o : Obj, H p = some (.frz o (.tup xs)) ∧ o.dict = none) ∨ ∃ (o : Obj) (its : Array Value) (n : Nat), K.lookup p = some o ∧ o.cls = .type "tuple" ∧ o.data = .seq its n ∧ its.size ≤ sizeLine ∧ Vals xs its.toList ∧ o.dict = none
theorem SqN.sq {K : PySem.W.Frag} {H : Hp} {p : Addr} {xs : List V} (h : SqN K H p xs) : SqT K H p xs := by
  rcases h with ⟨o, h, _⟩ | ⟨o, its, n, a, b, c, d, e, _⟩
  · exact .inl (.inr ⟨o, h⟩)
  · exact .inr ⟨o, its, n, a, b, c, d, e⟩
mutual
def RepV (K : PySem.W.Frag) (H : Hp) : Val → V → Prop
  | .non, x => x = .non
  | .bl b, x => x = .bl b
  | .int i, x => x = .int i
  | .str s, x => x = .str s
  | .ref a, x => x = .ref a
  | .tup vs, x => ∃ p xs, x = .ref p ∧ SqN K H p xs ∧ RepVs K H vs xs
  | .ptup vs, x => ∃ p xs, x = .ref p ∧ H p = some (.tup xs) ∧ RepVs K H vs xs
def RepVs (K : PySem.W.Frag) (H : Hp) : List Val → List V → Prop
  | [], xs => xs = []
  | v :: vs, xs => ∃ y ys, xs = y :: ys ∧ RepV K H v y ∧ RepVs K H vs ys
end
def RepK {κ : Type} (K : PySem.W.Frag) (H : Hp) (kvs : List (κ × Val)) (us : List (κ × V)) : Prop := Paired (fun (p : κ × Val) (q : κ × V) => p.1 = q.1 ∧ RepV K H p.2 q.2) kvs us
def RepA (K : PySem.W.Frag) (H : Hp) (a : Addr) : MO → Prop
  | .lst vs => ∃ xs, H a = some (.lst xs) ∧ RepVs K H vs xs
  | .ro vs => ∃ xs, Rd H a (.lst xs) ∧ RepVs K H vs xs
  | .dK kvs => ∃ us, H a = some (.dK us) ∧ RepK K H kvs us
  | .dT kvs => ∃ us, H a = some (.dT us) ∧ RepK K H kvs us
  | .ins C fs => ∃ dx us, H a = some (.ins (He.ga K C) dx us) ∧ RepK K H fs us
  | .fK kvs => ∃ o us, H a = some (.frz o (.dK us)) ∧ RepK K H kvs us
  | .fT kvs => ∃ o us, H a = some (.frz o (.dT us)) ∧ RepK K H kvs us
def Cor (K : PySem.W.Frag) (S : Sto) (H : Hp) : Prop := ∀ a o, S a = some o → RepA K H a o
def CorL (K : PySem.W.Frag) (H : Hp) (ρ : Loc) (σ : L2.St) : Prop := σ.length = ρ.length ∧ ∀ (i : Nat) (v : Val), ρ[i]? = some (some v) → ∃ x, σ[i]? = some (some x) ∧ RepV K H v x
/-- how a store and its heap may go on -/
structure Evo (S : Sto) (H : Hp) (S' : Sto) (H' : Hp) : Prop where
  tup : ∀ p xs, H p = some (.tup xs) → H' p = some (.tup xs)
  frz : ∀ p o u, H p = some (.frz o u) → H' p = some (.frz o u)
  frame : ∀ a o, H a = some o → S a = none → H' a = some o ∧ S' a = none
theorem Evo.refl {S : Sto} {H : Hp} : Evo S H S H := ⟨fun _ _ h => h, fun _ _ _ h => h, fun _ _ h n => ⟨h, n⟩⟩
theorem Evo.trans {S S1 S2 : Sto} {H H1 H2 : Hp} (a : Evo S H S1 H1) (b : Evo S1 H1 S2 H2) : Evo S H S2 H2 :=
  ⟨fun p xs h => b.tup p xs (a.tup p xs h), fun p o u h => b.frz p o u (a.frz p o u h), fun c o h n => let ⟨h1, n1⟩ := a.frame c o h n; b.frame c o h1 n1⟩
section
variable {K : PySem.W.Frag} {S S' : Sto} {H H' : Hp}
theorem SqN.evo {a : Addr} {xs : List V} (hf : ∀ p o u, H p = some (.frz o u) → H' p = some (.frz o u)) (h : SqN K H a xs) : SqN K H' a xs := by
  rcases h with ⟨o, h, d⟩ | h
  · exact .inl ⟨o, hf _ _ _ h, d⟩
  · exact .inr h
theorem SqT.evo {a : Addr} {xs : List V} (ht : ∀ p xs, H p = some (.tup xs) → H' p = some (.tup xs)) (hf : ∀ p o u, H p = some (.frz o u) → H' p = some (.frz o u)) (h : SqT K H a xs) : SqT K H' a xs := by
  rcases h with (h | ⟨o, h⟩) | h
  · exact .inl (.inl (ht _ _ h))
  · exact .inl (.inr ⟨o, hf _ _ _ h⟩)
  · exact .inr h
mutual
theorem RepV.evo' (ht : ∀ p xs, H p = some (.tup xs) → H' p = some (.tup xs)) (hf : ∀ p o u, H p = some (.frz o u) → H' p = some (.frz o u)) : ∀ (v : Val) {x : V}, RepV K H v x → RepV K H' v x
  | .non, _, h => by simp only [RepV] at h ⊢; exact h
  | .bl b, _, h => by simp only [RepV] at h ⊢; exact h
  | .int i, _, h => by simp only [RepV] at h ⊢; exact h
  | .str s, _, h => by simp only [RepV] at h ⊢; exact h
  | .ref a, _, h => by simp only [RepV] at h ⊢; exact h
  | .tup vs, _, h => by
    simp only [RepV] at h ⊢
    obtain ⟨p, xs, e, q, r⟩ := h
    exact ⟨p, xs, e, SqN.evo hf q, RepVs.evo' ht hf vs r⟩
  | .ptup vs, _, h => by
    simp only [RepV] at h ⊢
    obtain ⟨p, xs, e, q, r⟩ := h
    exact ⟨p, xs, e, ht _ _ q, RepVs.evo' ht hf vs r⟩
theorem RepVs.evo' (ht : ∀ p xs, H p = some (.tup xs) → H' p = some (.tup xs)) (hf : ∀ p o u, H p = some (.frz o u) → H' p = some (.frz o u)) : ∀ (vs : List Val) {xs : List V}, RepVs K H vs xs → RepVs K H' vs xs
  | [], _, h => by simp only [RepVs] at h ⊢; exact h
  | v :: vs, _, h => by
    simp only [RepVs] at h ⊢
    obtain ⟨y, ys, e, a, b⟩ := h
    exact ⟨y, ys, e, RepV.evo' ht hf v a, RepVs.evo' ht hf vs b⟩
end
theorem RepV.evo {v : Val} {x : V} (h : RepV K H v x) (e : Evo S H S' H') : RepV K H' v x := RepV.evo' e.tup e.frz v h
theorem RepVs.evo {v : List Val} {x : List V} (h : RepVs K H v x) (e : Evo S H S' H') : RepVs K H' v x := RepVs.evo' e.tup e.frz v h
theorem RepK.evo' {κ : Type} {kvs : List (κ × Val)} {us : List (κ × V)} (h : RepK K H kvs us) (ht : ∀ p xs, H p = some (.tup xs) → H' p = some (.tup xs)) (hf : ∀ p o u, H p = some (.frz o u) → H' p = some (.frz o u)) : RepK K H' kvs us :=
  Paired.mapP h fun _ _ q => ⟨q.1, RepV.evo' ht hf _ q.2⟩
theorem CorL.evo {ρ : Loc} {σ : L2.St} (h : CorL K H ρ σ) (e : Evo S H S' H') : CorL K H' ρ σ := ⟨h.1, fun i v q => let ⟨x, a, b⟩ := h.2 i v q; ⟨x, a, b.evo e⟩⟩
theorem RepVs.length : ∀ {vs : List Val} {xs : List V}, RepVs K H vs xs → xs.length = vs.length
  | [], _, h => by simp only [RepVs] at h; subst h; rfl
  | v :: vs, _, h => by
    simp only [RepVs] at h
    obtain ⟨y, ys, e, a, b⟩ := h
    subst e
    simp only [List.length_cons, RepVs.length b]
theorem RepVs.get : ∀ {vs : List Val} {xs : List V} {i : Nat} {v : Val}, RepVs K H vs xs → vs[i]? = some v → ∃ x, xs[i]? = some x ∧ RepV K H v x
  | [], _, _, _, _, h => by simp at h
  | v :: vs, _, i, w, h, e => by
    simp only [RepVs] at h
    obtain ⟨y, ys, e1, a, b⟩ := h
    subst e1
    cases i with
    | zero => simp only [List.getElem?_cons_zero, Option.some.injEq] at e ⊢; subst e; exact ⟨y, rfl, a⟩
    | succ i => simp only [List.getElem?_cons_succ] at e ⊢; exact RepVs.get b e
theorem RepVs.getR : ∀ {vs : List Val} {xs : List V} {i : Nat} {x : V}, RepVs K H vs xs → xs[i]? = some x → ∃ v, vs[i]? = some v ∧ RepV K H v x
  | [], _, _, _, h, e => by simp only [RepVs] at h; subst h; simp at e
  | v :: vs, _, i, w, h, e => by
    simp only [RepVs] at h
    obtain ⟨y, ys, e1, a, b⟩ := h
    subst e1
    cases i with
    | zero => simp only [List.getElem?_cons_zero, Option.some.injEq] at e ⊢; subst e; exact ⟨v, rfl, a⟩
    | succ i => simp only [List.getElem?_cons_succ] at e ⊢; exact RepVs.getR b e
theorem RepVs.cons {v : Val} {x : V} {vs : List Val} {xs : List V} (a : RepV K H v x) (b : RepVs K H vs xs) : RepVs K H (v :: vs) (x :: xs) := by
  simp only [RepVs]; exact ⟨x, xs, rfl, a, b⟩
theorem RepVs.nil : RepVs K H [] [] := by simp only [RepVs]
theorem RepVs.append : ∀ {vs ws : List Val} {xs ys : List V}, RepVs K H vs xs → RepVs K H ws ys → RepVs K H (vs ++ ws) (xs ++ ys)
  | [], _, _, _, a, b => by simp only [RepVs] at a; subst a; exact b
  | v :: vs, _, _, _, a, b => by
    simp only [RepVs] at a
    obtain ⟨y, ys, e, p, q⟩ := a
    subst e
    exact RepVs.cons p (RepVs.append q b)
theorem RepVs.take : ∀ {vs : List Val} {xs : List V} (n : Nat), RepVs K H vs xs → RepVs K H (vs.take n) (xs.take n)
  | _, _, 0, _ => by simp only [List.take_zero]; exact RepVs.nil
  | [], _, n + 1, a => by simp only [RepVs] at a; subst a; simp only [List.take_nil]; exact RepVs.nil
  | v :: vs, _, n + 1, a => by
    simp only [RepVs] at a
    obtain ⟨y, ys, e, p, q⟩ := a
    subst e
    exact RepVs.cons p (RepVs.take n q)
theorem RepVs.drop : ∀ {vs : List Val} {xs : List V} (n : Nat), RepVs K H vs xs → RepVs K H (vs.drop n) (xs.drop n)
  | _, _, 0, a => a
  | [], _, n + 1, a => by simp only [RepVs] at a; subst a; simp only [List.drop_nil]; exact RepVs.nil
  | v :: vs, _, n + 1, a => by
    simp only [RepVs] at a
    obtain ⟨y, ys, e, p, q⟩ := a
    subst e
    exact RepVs.drop n q
theorem RepVs.set : ∀ {vs : List Val} {xs : List V} {v : Val} {x : V} (n : Nat), RepVs K H vs xs → RepV K H v x → RepVs K H (vs.set n v) (xs.set n x)
  | [], _, _, _, n, a, _ => by simp only [RepVs] at a; subst a; exact RepVs.nil
  | v :: vs, _, w, z, 0, a, b => by
    simp only [RepVs] at a
    obtain ⟨y, ys, e, p, q⟩ := a
    subst e
    exact RepVs.cons b q
  | v :: vs, _, w, z, n + 1, a, b => by
    simp only [RepVs] at a
    obtain ⟨y, ys, e, p, q⟩ := a
    subst e
    exact RepVs.cons p (RepVs.set n q b)
theorem RepVs.reverse : ∀ {vs : List Val} {xs : List V}, RepVs K H vs xs → RepVs K H vs.reverse xs.reverse
  | [], _, a => by simp only [RepVs] at a; subst a; exact RepVs.nil
  | v :: vs, _, a => by
    simp only [RepVs] at a
    obtain ⟨y, ys, e, p, q⟩ := a
    subst e
    rw [List.reverse_cons, List.reverse_cons]
    exact RepVs.append (RepVs.reverse q) (RepVs.cons p RepVs.nil)
theorem RepVs.dropLast {vs : List Val} {xs : List V} (h : RepVs K H vs xs) : RepVs K H vs.dropLast xs.dropLast := by
  rw [List.dropLast_eq_take, List.dropLast_eq_take, h.length]; exact h.take _
theorem RepVs.rep {vs : List Val} {xs : List V} (h : RepVs K H vs xs) : ∀ n : Nat, RepVs K H (List.replicate n vs).flatten (List.replicate n xs).flatten
  | 0 => RepVs.nil
  | n + 1 => by rw [List.replicate_succ, List.replicate_succ, List.flatten_cons, List.flatten_cons]; exact RepVs.append h (RepVs.rep h n)
theorem RepVs.erase : ∀ {vs : List Val} {xs : List V} (n : Nat), RepVs K H vs xs → RepVs K H (vs.eraseIdx n) (xs.eraseIdx n)
  | [], _, n, a => by simp only [RepVs] at a; subst a; exact RepVs.nil
  | v :: vs, _, 0, a => by
    simp only [RepVs] at a
    obtain ⟨y, ys, e, p, q⟩ := a
    subst e
    exact q
  | v :: vs, _, n + 1, a => by
    simp only [RepVs] at a
    obtain ⟨y, ys, e, p, q⟩ := a
    subst e
    exact RepVs.cons p (RepVs.erase n q)
theorem RepVs.atI {vs : List Val} {xs : List V} {i : Int} {v : Val} (h : RepVs K H vs xs) (e : L2.atI vs i = some v) : ∃ x, L2.atI xs i = some x ∧ RepV K H v x := by
  unfold L2.atI at e ⊢
  rw [h.length]
  cases q : ixN vs.length i with
  | none => rw [q] at e; cases e
  | some j => rw [q] at e; exact h.get e
theorem RepVs.cut {vs : List Val} {xs : List V} (h : RepVs K H vs xs) (lo hi : Option Int) : RepVs K H (M.cut vs lo hi) (cutV xs lo hi) := by
  unfold M.cut cutV; rw [h.length]; exact (h.drop _).take _
theorem Cor.free {a : Addr} (c : Cor K S H) (h : H a = none) : S a = none := by
  cases q : S a with
  | none => rfl
  | some o =>
    have r := c a o q
    cases o <;> simp only [RepA] at r
    · obtain ⟨xs, e, _⟩ := r; rw [h] at e; cases e
    · obtain ⟨xs, e | ⟨_, e⟩, _⟩ := r <;> (rw [h] at e; cases e)
    · obtain ⟨xs, e, _⟩ := r; rw [h] at e; cases e
    · obtain ⟨xs, e, _⟩ := r; rw [h] at e; cases e
    · obtain ⟨_, xs, e, _⟩ := r; rw [h] at e; cases e
    · obtain ⟨_, xs, e, _⟩ := r; rw [h] at e; cases e
    · obtain ⟨_, xs, e, _⟩ := r; rw [h] at e; cases e
theorem RepA.ext {a : Addr} {o : MO} (h : RepA K H a o) (he : ∀ u, H a = some u → H' a = some u) (ht : ∀ p xs, H p = some (.tup xs) → H' p = some (.tup xs)) (hf : ∀ p o u, H p = some (.frz o u) → H' p = some (.frz o u)) : RepA K H' a o := by
  cases o <;> simp only [RepA] at h ⊢
  · obtain ⟨xs, e, r⟩ := h; exact ⟨xs, he _ e, RepVs.evo' ht hf _ r⟩
  · obtain ⟨xs, e, r⟩ := h
    refine ⟨xs, ?_, RepVs.evo' ht hf _ r⟩
    rcases e with e | ⟨o, e⟩
    · exact .inl (he _ e)
    · exact .inr ⟨o, he _ e⟩
  · obtain ⟨xs, e, r⟩ := h; exact ⟨xs, he _ e, r.evo' ht hf⟩
  · obtain ⟨xs, e, r⟩ := h; exact ⟨xs, he _ e, r.evo' ht hf⟩
  · obtain ⟨dx, xs, e, r⟩ := h; exact ⟨dx, xs, he _ e, r.evo' ht hf⟩
  · obtain ⟨dx, xs, e, r⟩ := h; exact ⟨dx, xs, he _ e, r.evo' ht hf⟩
  · obtain ⟨dx, xs, e, r⟩ := h; exact ⟨dx, xs, he _ e, r.evo' ht hf⟩
/-- keys as values -/
theorem rep_kval {k : Key} : RepV K H (kval k) (kV k) := by cases k <;> simp only [kval, RepV] <;> rfl
theorem rep_kvals : ∀ {ks : List Key}, RepVs K H (ks.map kval) (ks.map kV)
  | [] => RepVs.nil
  | k :: ks => RepVs.cons rep_kval rep_kvals
theorem kval_rep {k : Key} {x : V} (h : RepV K H (kval k) x) : x = kV k := by
  cases k <;> simp only [kval, RepV] at h <;> subst h <;> rfl
theorem kvals_rep : ∀ {ks : List Key} {xs : List V}, RepVs K H (ks.map kval) xs → xs = ks.map kV
  | [], _, h => by simpa only [List.map_nil, RepVs] using h
  | k :: ks, _, h => by
    simp only [List.map_cons, RepVs] at h
    obtain ⟨y, ys, rfl, a, b⟩ := h
    rw [kval_rep a, kvals_rep b]; rfl
/-- a new object of the heap alone (a tuple) -/
theorem Evo.more (he : ∀ b u, H b = some u → H' b = some u) : Evo S H S H' := ⟨fun p xs h => he _ _ h, fun p o u h => he _ _ h, fun a o h n => ⟨he _ _ h, n⟩⟩
theorem Cor.more (c : Cor K S H) (he : ∀ b u, H b = some u → H' b = some u) : Cor K S H' := fun a o q => (c a o q).ext (fun u h => he _ _ h) (fun p xs h => he _ _ h) fun p o u h => he _ _ h
theorem upd_keep {p : Addr} {o : HO} (hp : H p = none) : ∀ b u, H b = some u → upd H p o b = some u := fun b u h => by
  rw [upd_ne (ne_of_none h hp)]; exact h
theorem Evo.tupN {p : Addr} {xs : List V} (hp : H p = none) : Evo S H S (upd H p (.tup xs)) := Evo.more (upd_keep hp)
theorem Cor.tupN {p : Addr} {xs : List V} (c : Cor K S H) (hp : H p = none) : Cor K S (upd H p (.tup xs)) := c.more (upd_keep hp)
/-- a new object of both -/
theorem Evo.newO {p : Addr} {o : MO} {u : HO} (hp : H p = none) : Evo S H (S.upd p o) (upd H p u) :=
  ⟨fun q xs h => upd_keep hp _ _ h, fun q a b h => upd_keep hp _ _ h, fun a b h n => ⟨upd_keep hp _ _ h, by rw [Sto.upd_ne (ne_of_none h hp)]; exact n⟩⟩
theorem Cor.newO {p : Addr} {o : MO} {u : HO} (c : Cor K S H) (hp : H p = none) (r : RepA K (upd H p u) p o) : Cor K (S.upd p o) (upd H p u) := fun a b q => by
  by_cases e : a = p
  · subst e; rw [Sto.upd_same] at q; cases q; exact r
  · rw [Sto.upd_ne e] at q
    exact c.more (upd_keep hp) a b q
theorem Cor.newL {p : Addr} {vs : List Val} {xs : List V} (c : Cor K S H) (hp : H p = none) (r : RepVs K H vs xs) : Cor K (S.upd p (.lst vs)) (upd H p (.lst xs)) :=
  c.newO hp (by simp only [RepA]; exact ⟨xs, upd_same, RepVs.evo' (fun _ _ h => upd_keep hp _ _ h) (fun _ _ _ h => upd_keep hp _ _ h) _ r⟩)
/-- an object changed in both: it is no tuple, nothing locked -/
def Chg : HO → Prop
  | .tup _ => False
  | .frz _ _ => False
  | _ => True
theorem chg_tup {p : Addr} {u u' : HO} (hp : H p = some u) (hc : Chg u) : ∀ q xs, H q = some (.tup xs) → upd H p u' q = some (.tup xs) := fun q xs h => by
  have : q ≠ p := fun e => by subst e; rw [hp] at h; cases h; exact hc
  rw [upd_ne this]; exact h
theorem chg_frz {p : Addr} {u u' : HO} (hp : H p = some u) (hc : Chg u) : ∀ q o w, H q = some (.frz o w) → upd H p u' q = some (.frz o w) := fun q o w h => by
  have : q ≠ p := fun e => by subst e; rw [hp] at h; cases h; exact hc
  rw [upd_ne this]; exact h
theorem Evo.chg {p : Addr} {o o' : MO} {u u' : HO} (hs : S p = some o) (hp : H p = some u) (hc : Chg u) : Evo S H (S.upd p o') (upd H p u') :=
  ⟨chg_tup hp hc, chg_frz hp hc, fun a b h n => by
    have : a ≠ p := fun e => by subst e; rw [hs] at n; cases n
    rw [upd_ne this, Sto.upd_ne this]; exact ⟨h, n⟩⟩
theorem Cor.chg {p : Addr} {o o' : MO} {u u' : HO} (c : Cor K S H) (hs : S p = some o) (hp : H p = some u) (hc : Chg u) (r : RepA K (upd H p u') p o') : Cor K (S.upd p o') (upd H p u') := fun a b q => by
  by_cases e : a = p
  · subst e; rw [Sto.upd_same] at q; cases q; exact r
  · rw [Sto.upd_ne e] at q
    exact (c a b q).ext (fun w h => by rw [upd_ne e]; exact h) (chg_tup hp hc) (chg_frz hp hc)
def RepO (K : PySem.W.Frag) (H : Hp) : Option Val → Option V → Prop
  | none, r => r = none
  | some v, r => ∃ x, r = some x ∧ RepV K H v x
section
variable {κ : Type} [DecidableEq κ]
theorem RepK.val {kvs : List (κ × Val)} {us : List (κ × V)} (h : RepK K H kvs us) (k : κ) : RepO K H (vlK kvs k) (valV us k) := by
  unfold RepK at h
  induction h with
  | nil => exact rfl
  | @cons p q ps qs hh t ih =>
    obtain ⟨h1, h2⟩ := hh
    by_cases e : p.1 = k
    · have e' : q.1 = k := h1.symm.trans e
      have b : vlK (p :: ps) k = some p.2 := by simp [vlK, List.find?_cons, e]
      rw [b, valV_pos e']
      exact ⟨_, rfl, h2⟩
    · have e' : ¬ q.1 = k := fun z => e (h1.trans z)
      have b : vlK (p :: ps) k = vlK ps k := by simp [vlK, List.find?_cons, e]
      rw [b, valV_neg e']
      exact ih
theorem RepK.anyK {kvs : List (κ × Val)} {us : List (κ × V)} (h : RepK K H kvs us) (k : κ) : (kvs.any fun kv => decide (kv.1 = k)) = us.any fun kv => decide (kv.1 = k) := by
  unfold RepK at h
  induction h with
  | nil => rfl
  | cons hh t ih => rw [List.any_cons, List.any_cons, ih, hh.1]
theorem RepK.snocK {kvs : List (κ × Val)} {us : List (κ × V)} {k : κ} {v : Val} {x : V} (h : RepK K H kvs us) (r : RepV K H v x) : RepK K H (kvs ++ [(k, v)]) (us ++ [(k, x)]) := by
  unfold RepK at h ⊢
  induction h with
  | nil => exact .cons ⟨rfl, r⟩ .nil
  | cons hh t ih => exact .cons hh ih
theorem RepK.mapK {kvs : List (κ × Val)} {us : List (κ × V)} {k : κ} {v : Val} {x : V} (h : RepK K H kvs us) (r : RepV K H v x) : RepK K H (kvs.map fun kv => if kv.1 = k then (kv.1, v) else kv) (us.map fun kv => if kv.1 = k then (kv.1, x) else kv) := by
  unfold RepK at h ⊢
  induction h with
  | nil => exact .nil
  | @cons p q ps qs hh t ih =>
    rw [List.map_cons, List.map_cons]
    refine .cons ?_ ih
    obtain ⟨h1, h2⟩ := hh
    by_cases e : p.1 = k
    · rw [if_pos e, if_pos (h1.symm.trans e)]; exact ⟨h1, r⟩
    · rw [if_neg e, if_neg (fun z => e (h1.trans z))]; exact ⟨h1, h2⟩
theorem RepK.putK' {kvs : List (κ × Val)} {us : List (κ × V)} {k : κ} {v : Val} {x : V} (h : RepK K H kvs us) (r : RepV K H v x) : RepK K H (ptK kvs k v) (putK us k x) := by
  unfold ptK putK
  rw [h.anyK k]
  split
  · exact h.mapK r
  · exact h.snocK r
theorem RepK.dropK' {kvs : List (κ × Val)} {us : List (κ × V)} {k : κ} (h : RepK K H kvs us) : RepK K H (drK kvs k) (dropK us k) := by
  unfold RepK at h ⊢
  unfold drK dropK
  induction h with
  | nil => exact .nil
  | @cons p q ps qs hh t ih =>
    obtain ⟨h1, h2⟩ := hh
    rw [List.filter_cons, List.filter_cons]
    by_cases e : p.1 = k
    · have a : ¬ decide (p.1 ≠ k) = true := by simp [e]
      have b : ¬ decide (q.1 ≠ k) = true := by simp [h1.symm.trans e]
      rw [if_neg a, if_neg b]; exact ih
    · have e' : ¬ q.1 = k := fun z => e (h1.trans z)
      have a : decide (p.1 ≠ k) = true := by simp [e]
      have b : decide (q.1 ≠ k) = true := by simp [e']
      rw [if_pos a, if_pos b]; exact .cons ⟨h1, h2⟩ ih
theorem RepK.length' {kvs : List (κ × Val)} {us : List (κ × V)} (h : RepK K H kvs us) : us.length = kvs.length := (Paired.length h).symm
end
theorem Cor.rdK {a : Addr} {kvs : List (Key × Val)} (c : Cor K S H) (h : rdK S a kvs) : ∃ us, Rd H a (.dK us) ∧ RepK K H kvs us := by
  rcases h with h | h
  · have := c a _ h
    simp only [RepA] at this
    obtain ⟨us, e, r⟩ := this
    exact ⟨us, .inl e, r⟩
  · have := c a _ h
    simp only [RepA] at this
    obtain ⟨o, us, e, r⟩ := this
    exact ⟨us, .inr ⟨o, e⟩, r⟩
theorem Cor.rdT {a : Addr} {kvs : List (List Key × Val)} (c : Cor K S H) (h : rdT S a kvs) : ∃ us, Rd H a (.dT us) ∧ RepK K H kvs us := by
  rcases h with h | h
  · have := c a _ h
    simp only [RepA] at this
    obtain ⟨us, e, r⟩ := this
    exact ⟨us, .inl e, r⟩
  · have := c a _ h
    simp only [RepA] at this
    obtain ⟨o, us, e, r⟩ := this
    exact ⟨us, .inr ⟨o, e⟩, r⟩
/-- what a dict holds, over heaps -/
theorem Cor.dget {a : Addr} {w : Val} {o : Option Val} {y : V} (c : Cor K S H) (h : DG S a w o) (rw' : RepV K H w y) : ∃ r, DGet H a y r ∧ RepO K H o r := by
  rcases h with ⟨kvs, k, hs, rfl, rfl⟩ | ⟨kvs, ks, hs, rfl, rfl⟩
  · obtain ⟨us, e, r⟩ := c.rdK hs
    have := kval_rep rw'; subst this
    exact ⟨_, .inl ⟨us, k, e, rfl, rfl⟩, r.val k⟩
  · obtain ⟨us, e, r⟩ := c.rdT hs
    simp only [RepV] at rw'
    obtain ⟨p, xs, rfl, hp, rk⟩ := rw'
    have := kvals_rep rk; subst this
    exact ⟨_, .inr ⟨us, ks, p, e, rfl, hp, rfl⟩, r.val ks⟩
theorem Cor.isD {a : Addr} (c : Cor K S H) (h : isD S a) : IsD H a := by
  rcases h with ⟨kvs, h⟩ | ⟨kvs, h⟩
  · obtain ⟨us, e, _⟩ := c.rdK h; exact .inl ⟨us, e⟩
  · obtain ⟨us, e, _⟩ := c.rdT h; exact .inr ⟨us, e⟩
theorem Cor.dput {a : Addr} {w v : Val} {y x : V} {Q : Sto → Prop} (c : Cor K S H) (h : DP S a w v Q) (ry : RepV K H w y) (rx : RepV K H v x) : ∃ H' S', DPut H a y x H' ∧ Evo S H S' H' ∧ Cor K S' H' ∧ Q S' := by
  rcases h with ⟨kvs, k, hs, rfl, hl, q⟩ | ⟨kvs, ks, hs, rfl, hl, q⟩
  · have := c a _ hs
    simp only [RepA] at this
    obtain ⟨us, e, r⟩ := this
    have := kval_rep ry; subst this
    refine ⟨_, _, .inl ⟨us, k, e, rfl, by rw [r.length']; exact hl, rfl⟩, .chg hs e trivial, c.chg hs e trivial ?_, q⟩
    simp only [RepA]
    exact ⟨_, upd_same, (r.putK' rx).evo' (chg_tup e trivial) (chg_frz e trivial)⟩
  · have := c a _ hs
    simp only [RepA] at this
    obtain ⟨us, e, r⟩ := this
    simp only [RepV] at ry
    obtain ⟨p, xs, rfl, hp, rk⟩ := ry
    have := kvals_rep rk; subst this
    refine ⟨_, _, .inr ⟨us, ks, p, e, rfl, hp, by rw [r.length']; exact hl, rfl⟩, .chg hs e trivial, c.chg hs e trivial ?_, q⟩
    simp only [RepA]
    exact ⟨_, upd_same, (r.putK' rx).evo' (chg_tup e trivial) (chg_frz e trivial)⟩
/-- an object locked in both -/
theorem Evo.lockO {a : Addr} {o o' : MO} {u : HO} {od : Obj} (hs : S a = some o) (hh : H a = some u) (hc : Chg u) : Evo S H (S.upd a o') (upd H a (.frz od u)) := .chg hs hh hc
/-- .. and unlocked again -/
theorem Evo.unlockO {a : Addr} {o o1 o2 : MO} {u : HO} {od : Obj} (hs : S a = some o) (hh : H a = some u) (hc : Chg u) (e : Evo (S.upd a o1) (upd H a (.frz od u)) S' H') : Evo S H (S'.upd a o2) (upd H' a u) := by
  refine ⟨fun p xs h => ?_, fun p q v h => ?_, fun p v h n => ?_⟩
  · have ne : p ≠ a := fun z => by subst z; rw [hh] at h; cases h; exact hc
    rw [upd_ne ne]
    exact e.tup p xs (by rw [upd_ne ne]; exact h)
  · have ne : p ≠ a := fun z => by subst z; rw [hh] at h; cases h; exact hc
    rw [upd_ne ne]
    exact e.frz p q v (by rw [upd_ne ne]; exact h)
  · have ne : p ≠ a := fun z => by subst z; rw [hs] at n; cases n
    rw [upd_ne ne, Sto.upd_ne ne]
    exact e.frame p v (by rw [upd_ne ne]; exact h) (by rw [Sto.upd_ne ne]; exact n)
theorem upd_frz_tup {a : Addr} {u : HO} {od : Obj} (hh : H a = some (.frz od u)) (hc : Chg u) : ∀ p xs, H p = some (.tup xs) → upd H a u p = some (.tup xs) := fun p xs h => by
  have ne : p ≠ a := fun z => by subst z; rw [hh] at h; cases h
  rw [upd_ne ne]; exact h
theorem RepV.unfrz {a : Addr} {u : HO} {od : Obj} (hh : H a = some (.frz od u)) (hc : Chg u) (hv : ∀ xs, u ≠ .tup xs) : ∀ (v : Val) {x : V}, RepV K H v x → RepV K (upd H a u) v x := by
  intro v x h
  have sq : ∀ {p : Addr} {xs : List V}, SqN K H p xs → SqN K (upd H a u) p xs := fun {p xs} h => by
    rcases h with ⟨o, h, d⟩ | h
    · have ne : p ≠ a := fun z => by subst z; rw [hh] at h; cases h; exact hv _ rfl
      exact .inl ⟨o, by rw [upd_ne ne]; exact h, d⟩
    · exact .inr h
  have both : (∀ (v : Val) {x : V}, RepV K H v x → RepV K (upd H a u) v x) ∧ ∀ (vs : List Val) {xs : List V}, RepVs K H vs xs → RepVs K (upd H a u) vs xs := by
    refine ⟨fun v => ?_, fun vs => ?_⟩
    · exact Val.rec (motive_1 := fun v => ∀ {x : V}, RepV K H v x → RepV K (upd H a u) v x) (motive_2 := fun vs => ∀ {xs : List V}, RepVs K H vs xs → RepVs K (upd H a u) vs xs)
        (fun h => by simp only [RepV] at h ⊢; exact h) (fun b {x} h => by simp only [RepV] at h ⊢; exact h) (fun b {x} h => by simp only [RepV] at h ⊢; exact h) (fun b {x} h => by simp only [RepV] at h ⊢; exact h)
        (fun xs ih {x} h => by simp only [RepV] at h ⊢; obtain ⟨p, ys, e, q, r⟩ := h; exact ⟨p, ys, e, sq q, ih r⟩) (fun b {x} h => by simp only [RepV] at h ⊢; exact h)
        (fun xs ih {x} h => by simp only [RepV] at h ⊢; obtain ⟨p, ys, e, q, r⟩ := h; exact ⟨p, ys, e, upd_frz_tup hh hc _ _ q, ih r⟩)
        (fun {xs} h => by simp only [RepVs] at h ⊢; exact h) (fun v vs iv ivs {xs} h => by simp only [RepVs] at h ⊢; obtain ⟨y, ys, e, p, q⟩ := h; exact ⟨y, ys, e, iv p, ivs q⟩) v
    · exact Val.rec_1 (motive_1 := fun v => ∀ {x : V}, RepV K H v x → RepV K (upd H a u) v x) (motive_2 := fun vs => ∀ {xs : List V}, RepVs K H vs xs → RepVs K (upd H a u) vs xs)
        (fun h => by simp only [RepV] at h ⊢; exact h) (fun b {x} h => by simp only [RepV] at h ⊢; exact h) (fun b {x} h => by simp only [RepV] at h ⊢; exact h) (fun b {x} h => by simp only [RepV] at h ⊢; exact h)
        (fun xs ih {x} h => by simp only [RepV] at h ⊢; obtain ⟨p, ys, e, q, r⟩ := h; exact ⟨p, ys, e, sq q, ih r⟩) (fun b {x} h => by simp only [RepV] at h ⊢; exact h)
        (fun xs ih {x} h => by simp only [RepV] at h ⊢; obtain ⟨p, ys, e, q, r⟩ := h; exact ⟨p, ys, e, upd_frz_tup hh hc _ _ q, ih r⟩)
        (fun {xs} h => by simp only [RepVs] at h ⊢; exact h) (fun v vs iv ivs {xs} h => by simp only [RepVs] at h ⊢; obtain ⟨y, ys, e, p, q⟩ := h; exact ⟨y, ys, e, iv p, ivs q⟩) vs
  exact both.1 v h
theorem Cor.lst {a : Addr} {vs : List Val} (c : Cor K S H) (h : S a = some (.lst vs)) : ∃ xs, H a = some (.lst xs) ∧ RepVs K H vs xs := by
  have := c a _ h; simpa only [RepA] using this
theorem Cor.rd {a : Addr} {vs : List Val} (c : Cor K S H) (h : rdL S a vs) : ∃ xs, SqL K H a xs ∧ RepVs K H vs xs := by
  rcases h.cases with h | h
  · obtain ⟨xs, e, r⟩ := c.lst h; exact ⟨xs, .of e, r⟩
  · have := c a _ h
    simp only [RepA] at this
    obtain ⟨xs, e, r⟩ := this
    exact ⟨xs, .inl e, r⟩
theorem Cor.setL {a : Addr} {vs ws : List Val} {xs ys : List V} (c : Cor K S H) (h : S a = some (.lst vs)) (e : H a = some (.lst xs)) (r : RepVs K H ws ys) : Cor K (S.upd a (.lst ws)) (upd H a (.lst ys)) :=
  c.chg h e trivial (by simp only [RepA]; exact ⟨ys, upd_same, RepVs.evo' (chg_tup e trivial) (chg_frz e trivial) _ r⟩)
end
end M

set_option maxHeartbeats 4000000
namespace M
open PySem PySem.Spec PyProof.Rows L2
theorem tup_once (a : Addr) (vs : Array Value) (m : Nat) (od : Option Addr) (ss : Array (Option Value)) (j : Int) (t : Tok) (lo : (decide (j < -(2 ^ 63)) || decide (j ≥ 2 ^ 63)) = false) (one : (vs.isEmpty || j == 1) = true) :
    Meets (Builtin.«tuple.__mul__» ⟨[.ref a, .int j t], []⟩) (fun _ R s => s.heap.get? a = some { cls := .type "tuple", dict := od, data := .seq vs m, slots := ss } ∧ R (.ok (.ret (Value.ref a))) s) :=
  .of_wp fun prog w A R s h => by
    obtain ⟨hp, g, d, tk, os⟩ := s
    obtain ⟨ha, h⟩ := h
    have f1 := AutoSeq1.idx_int
    wp_walk using wpAny_loadPart' ha
    repeat (first
      | (refine wpAny_ite_false (decide_eq_false (by rw [lo]; exact Bool.false_ne_true)) ?_; wp_walk using wpAny_loadPart' ha)
      | (refine wpAny_ite_true (decide_eq_true one) ?_; wp_walk using wpAny_loadPart' ha))
    exact ⟨_, rfl, h⟩
section
variable {X : Cx}
/-- the object of a tuple, new -/
abbrev tupO1 (its : List Value) : Obj := { cls := .type "tuple", data := .seq its.toArray }
theorem op_mulN : OpR X (binaryOp .Mult) (fun x y H Q => ∃ a j xs, x = .ref a ∧ y = .int j ∧ SqT X.K H a xs ∧ 1 ≤ j ∧ j ≤ 1000 ∧ xs.length ≤ 1000 ∧ (xs = [] ∨ j = 1 → Q (.ref a) H) ∧
    (xs ≠ [] → 2 ≤ j → ∀ (p : Addr) (o : Obj), H p = none → o.dict = none → Q (.ref p) (upd H p (.frz o (.tup (List.replicate j.toNat xs).flatten))))) := by
  intro pins s σ H x y v u Q I rx ry h
  obtain ⟨a, j, xs, rfl, rfl, hT, j1, j2, hl, q1, q2⟩ := h
  cases rx
  obtain ⟨t, rfl⟩ := ry
  obtain ⟨vs, r, ⟨⟨c, od, da, ss⟩, ho, hc, m, hd⟩, _⟩ := I.tuple hT
  simp only at hc hd
  subst hc hd
  have el : vs.length = xs.length := r.length.symm
  have lo : (decide (j < -(2 ^ 63)) || decide (j ≥ 2 ^ 63)) = false := by rw [Bool.or_eq_false_iff]; exact ⟨decide_eq_false (by omega), decide_eq_false (by omega)⟩
  refine wpAny_binaryOp_repeat_ref (T := "tuple") (U := "int") (by decide) ⟨_, ho, rfl⟩ (fun s' => typeIs_int s' j t) noFill_tuple_mul F.fills_int_mul F.slot_int_rmul repeat_tuple F.slot_int_index.lookup ?_
  refine call_meets F.slot_int_rmul (typeIs_int s j t) F.entry_int_rmul (F.args_int_rmul_2 _ _) (int_rmul_tuple j t a vs.toArray m od ss) ⟨ho, rfl, ⟨_, ho, rfl⟩, ?_⟩
  by_cases e : xs = [] ∨ j = 1
  · have one : (vs.toArray.isEmpty || j == 1) = true := by
      rcases e with e | e
      · rw [e] at el
        have : vs = [] := List.eq_nil_of_length_eq_zero el
        rw [this]; rfl
      · rw [e]; simp
    exact call_meets F.slot_tuple_mul ⟨_, ho, rfl⟩ F.entry_tuple_mul (F.args_tuple_mul_2 _ _) (tup_once a vs.toArray m od ss j t lo one) ⟨ho, ⟨.ref a, H, I, rfl, q1 e⟩⟩
  · have ex : xs ≠ [] := fun z => e (.inl z)
    have ej : 2 ≤ j := by have : j ≠ 1 := fun z => e (.inr z); omega
    obtain ⟨v0, vr, rfl⟩ : ∃ v0 vr, vs = v0 :: vr := by
      cases vs with
      | nil => exact absurd (List.eq_nil_of_length_eq_zero el.symm) ex
      | cons v0 vr => exact ⟨v0, vr, rfl⟩
    have j2n : j.toNat ≤ 1000 := by omega
    have len2 : (List.replicate j.toNat (v0 :: vr)).flatten.length ≤ sizeLine := by
      have h1 := Nat.mul_le_mul j2n hl
      rw [PyProof.Rows.lm_len_rep_flat, el, sizeLine_eq]; omega
    have sz1 : (((v0 :: vr).toArray.size : Nat) : Int) * j ≤ 1000000 := by
      have h2 : ((xs.length : Nat) : Int) * j ≤ 1000 * j := Int.mul_le_mul_of_nonneg_right (by omega) (by omega)
      rw [List.size_toArray, el]; omega
    have t1 : ((v0 :: vr).toArray.isEmpty || j == 1) = false := by
      have : (j == 1) = false := beq_eq_false_iff_ne.mpr (by omega)
      rw [this]; rfl
    have t2 : (decide (j ≤ 0) || (v0 :: vr).toArray.isEmpty) = false := by
      rw [decide_eq_false (by omega)]; rfl
    have t4 : Builtin.Tuple.tupleTooMany ((((v0 :: vr).toArray.size : Nat) : Int) * j) = false := by
      unfold Builtin.Tuple.tupleTooMany
      rw [sizeLine_eq]
      exact decide_eq_false (by omega)
    refine call_meets F.slot_tuple_mul ⟨_, ho, rfl⟩ F.entry_tuple_mul (F.args_tuple_mul_2 _ _) (tuple_mulW a (v0 :: vr).toArray m od ss j t lo t1 t2 (by omega) t4 (by rw [size_rep, List.size_toArray]; exact len2)) ⟨ho, ?_⟩
    rw [size_rep]
    have hz : (List.replicate j.toNat xs).flatten.length ≤ sizeLine := by
      rw [PyProof.Rows.lm_len_rep_flat, ← el, ← PyProof.Rows.lm_len_rep_flat]; exact len2
    have I2 : Inv X pins σ (upd H s.heap.objs.size (.frz (tupO1 (List.replicate j.toNat (v0 :: vr)).flatten) (.tup (List.replicate j.toNat xs).flatten))) { s with heap := s.heap.push (tupO1 (List.replicate j.toNat (v0 :: vr)).flatten) } :=
      I.laid (t' := s.toks) (fun b u e => Heap.get?_push_of_some _ e) (Nat.le_refl _) ⟨Heap.get?_push_size _ rfl, hz, _, r.rep j.toNat, IsTup.new _ _⟩
    exact ⟨.ref s.heap.objs.size, _, I2, rfl, q2 ex ej _ _ (I.hok.fresh (Nat.le_refl _)) rfl⟩
end
end M

set_option maxHeartbeats 2000000
namespace SrtO
open PySem PySem.Spec PyProof.Rows Srt
section
variable {prog : Program} {w : World} {A : Around} {E : Value → Shared → Prop} {s : Shared}
theorem sorted_col {x : Value} {C : Shared → List Value → Prop} {Q : Value → Shared → Prop} (hcol : ∀ Q' : List Value → Shared → Prop, (∀ s1 vs, C s1 vs → Q' vs s1) → wpAny (model prog w) A.in1 (collect x) Q' E s)
    (h : ∀ s1 vs, C s1 vs → vs.length ≤ sizeLine ∧ ∃ ltv, Swo ltv ∧ (2 ≤ vs.length → SortableO prog w A.in1.in1 { s1 with heap := s1.heap.push (seqObj "list" vs.toArray 0) } s1.heap.objs.size vs ltv) ∧
      ∀ out : List Value, Srtd ltv out → Stb ltv out vs → Q (.ref s1.heap.objs.size) { s1 with heap := sortedHeap (s1.heap.push (seqObj "list" vs.toArray 0)) s1.heap.objs.size vs out.toArray }) :
    wpAny (model prog w) A (call (.builtin "sorted") [x]) Q E s := by
  refine Calls.call_function_entry kind_sorted plain_sorted entry_sorted (args_sorted1 _) ?_
  unfold Builtin.«sorted»
  refine wpAny_bind (m := checkCount "sorted" 1 1 _) (wpAny_pure ?_)
  refine wpAny_bind (hcol _ fun s1 vs c => ?_)
  obtain ⟨hz, ltv, O, hS, q⟩ := h s1 vs c
  refine wpAny_bind (wpAny_newList ?_ hz)
  have hoL : (s1.heap.push (seqObj "list" vs.toArray 0)).get? s1.heap.objs.size = some (seqObj "list" vs.toArray 0) := Heap.get?_push_size _ rfl
  refine wpAny_bind (wpAny_holding (wpAny_call_entry slot_list_sort ⟨_, hoL, rfl⟩ entry_list_sort (list_sort_ord O hoL hz hS fun out hs hb => ⟨_, rfl, ?_⟩) (args_list_sort _)))
  exact wpAny_pure ⟨_, rfl, q out hs hb⟩
end
end SrtO
namespace L2
open PySem PySem.Spec PyProof.Rows
section
variable {X : Cx}
/-- what is laid behind a sort -/
theorem sorted_laid {vs : List Value} {out : List Value} {pins : List (Addr × Obj)} {σ : St} {H : Hp} {s s1 : Shared} {zs : List V} (I : Inv X pins σ H s) (k : ∀ b u, s.heap.get? b = some u → s1.heap.get? b = some u) (hsz : s.heap.objs.size ≤ s1.heap.objs.size) (g : s1.gens = s.gens) (o : s1.os = s.os)
    (hz : zs.length ≤ sizeLine) (hv : Vals zs out) : Inv X pins σ (upd H s1.heap.objs.size (.lst zs)) { s1 with heap := sortedHeap (s1.heap.push (seqObj "list" vs.toArray 0)) s1.heap.objs.size vs out.toArray } := by
  have hoL : (s1.heap.push (seqObj "list" vs.toArray 0)).get? s1.heap.objs.size = some (seqObj "list" vs.toArray 0) := Heap.get?_push_size _ rfl
  obtain ⟨c, hc⟩ := sortedHeap_at (vs := vs) (out := out.toArray) hoL
  have kk : ∀ b u, s.heap.get? b = some u → (sortedHeap (s1.heap.push (seqObj "list" vs.toArray 0)) s1.heap.objs.size vs out.toArray).get? b = some u := fun b u e => by
    have q := k b u e
    have hlt := Heap.lt_size q
    rw [sortedHeap_old (Nat.ne_of_lt hlt) (by rw [size_push']; exact Nat.lt_succ_of_lt hlt)]
    exact Heap.get?_push_of_some _ q
  have J : Inv X pins σ (upd H s1.heap.objs.size (.lst zs)) { s with heap := sortedHeap (s1.heap.push (seqObj "list" vs.toArray 0)) s1.heap.objs.size vs out.toArray, gens := s1.gens, drawn := s1.drawn, toks := s1.toks } :=
    I.call (ch := []) (Un.laid kk hsz (I.hok.fresh hsz)) (I.hok.laid kk hsz ⟨hz, out, c, hv, hc⟩) (by rw [g]; exact I.bare) (fun _ z => nomatch z)
  have e : ({ s1 with heap := sortedHeap (s1.heap.push (seqObj "list" vs.toArray 0)) s1.heap.objs.size vs out.toArray } : Shared) = { s with heap := sortedHeap (s1.heap.push (seqObj "list" vs.toArray 0)) s1.heap.objs.size vs out.toArray, gens := s1.gens, drawn := s1.drawn, toks := s1.toks } := by
    cases s1
    cases s
    cases o
    rfl
  rw [e]; exact J
/-- sorted(t), ints -/
def rSortedTI (K : PySem.W.Frag) : List V → Hp → VK → Prop := fun vs H Q => ∃ (a : Addr) (ns : List Int), vs = [V.ref a] ∧ SqT K H a (ns.map V.int) ∧
  ∀ (ns' : List Int) (p : Addr), ns'.Perm ns → ns'.Pairwise (· ≤ ·) → H p = none → Q (.ref p) (upd H p (.lst (ns'.map V.int)))
theorem cr_sortedTI : CallR X (.builtin "sorted") (rSortedTI X.K) := by
  intro pins s σ H vs us Q I r h
  obtain ⟨a, ns, rfl, hs, q⟩ := h
  obtain ⟨its, rv, hl, hz⟩ := I.tuple hs
  rw [Vals.ref1 r]
  have hi := rv.ints
  obtain ⟨o, ho, hc, n, hd⟩ := hl
  refine SrtO.sorted_col (C := fun s1 vs => vs = its ∧ ∃ h', (∀ b o', s.heap.get? b = some o' → h'.get? b = some o') ∧ s1 = { s with heap := h' }) (fun Q' hq => ?_) ?_
  · exact wpAny_collect_seq a (.inr rfl) ho hc hd (fun h' k => hq _ _ ⟨by simp, h', k, rfl⟩) (by rw [List.size_toArray, ← rv.length]; exact hz)
  · rintro s1 vs ⟨rfl, h', k, rfl⟩
    have I1 : Inv X pins σ H { s with heap := h' } := I.kept (t' := s.toks) k
    refine ⟨by rw [← rv.length]; exact hz, _, SrtO.swo_int, fun h2 => SrtO.ints_sortable hi h2, fun out h1 h2 => ?_⟩
    obtain ⟨k1, k2, k3⟩ := SrtO.ints_out hi h1 h2
    refine ⟨.ref _, _, sorted_laid (s1 := { s with heap := h' }) I1 (fun _ _ z => z) (Nat.le_refl _) rfl rfl (zs := (out.map SrtO.iv).map V.int) ?_ (vals_of_ints k1), rfl, q _ _ k2 k3 (I1.hok.fresh (Nat.le_refl _))⟩
    rw [List.length_map, k2.length_eq]
    rw [List.length_map] at hz
    exact hz
/-- sorted(a set of ints), any number -/
theorem sorted_setI {pins : List (Addr × Obj)} {s : Shared} {σ : St} {H : Hp} {a : Addr} {S : Int → Bool} {n : Nat} {Q : VK} (I : Inv X pins σ H s) (hh : X.A.handled = none) (R : SetR X.w s.heap a S n) (hn : n ≤ sizeLine)
    (q : ∀ (ns : List Int) (p : Addr), ns.Pairwise (· < ·) → (∀ k : Int, k ∈ ns ↔ S k = true) → H p = none → Q (.ref p) (upd H p (.lst (ns.map V.int)))) :
    wpAny (model X.prog X.w) X.A (call (.builtin "sorted") [.ref a]) (EP X pins σ Q) X.xe s := by
  obtain ⟨o, es, ep, t, ho, hex, hd, g, nd, hm, hb, hf, hn', hr, hl⟩ := R
  refine SrtO.sorted_col (C := fun s1 vs => (∀ b o, s.heap.get? b = some o → s1.heap.get? b = some o) ∧ s.heap.objs.size ≤ s1.heap.objs.size ∧ s1.gens = s.gens ∧ s1.os = s.os ∧ vs.Perm (es.toList.map (·.2))) (fun Q' hq => ?_) ?_
  · exact collect_set (A := X.A.in1) hh ⟨o, ho, hex.1, hd⟩ hf hb hr hl fun s1 vs k1 hz g1 o1 pm => hq _ _ ⟨k1, hz, g1, o1, pm⟩
  · rintro s1 vs ⟨k1, hz, g1, o1, pm⟩
    have hvl : vs.length = n := by rw [pm.length_eq, List.length_map, Array.length_toList]; exact hn'
    have hI : IntsAre vs (vs.map SrtO.iv) := SrtO.ints_iv fun v hv => by
      obtain ⟨e, he, q⟩ := List.mem_map.mp (pm.mem_iff.mp hv)
      obtain ⟨k, tk, h1, _⟩ := g e he
      exact ⟨k, tk, by rw [← q]; exact h1⟩
    have pk : (vs.map SrtO.iv).Perm (es.toList.map keyOf) := by
      have q := pm.map SrtO.iv
      rw [List.map_map] at q
      have ee : es.toList.map (SrtO.iv ∘ fun x => x.2) = es.toList.map keyOf := List.map_congr_left fun e he => by
        obtain ⟨k, tk, h1, _⟩ := g e he
        show SrtO.iv e.2 = keyOf e
        unfold keyOf
        rw [h1] <;> rfl
      rw [ee] at q
      exact q
    refine ⟨by rw [hvl]; exact hn, _, SrtO.swo_int, fun h2 => SrtO.ints_sortable hI h2, fun out h1 h2 => ?_⟩
    obtain ⟨a1, a2, a3⟩ := SrtO.ints_out hI h1 h2
    have pn : (out.map SrtO.iv).Perm (es.toList.map keyOf) := a2.trans pk
    have nd2 := pn.nodup_iff.mpr nd
    refine ⟨.ref _, _, sorted_laid I k1 hz g1 o1 (zs := (out.map SrtO.iv).map V.int) ?_ (vals_of_ints a1), rfl, q _ _ ?_ (fun k => by rw [pn.mem_iff, ← hm k]) (I.hok.fresh hz)⟩
    · rw [List.length_map, a2.length_eq, List.length_map, hvl]; exact hn
    · refine List.Pairwise.imp_of_mem (R := fun x y => x ≤ y ∧ x ≠ y) (fun {x y} _ _ z => by omega) ?_
      exact List.Pairwise.and a3 nd2
/-- t.index(i), ints -/
theorem mt_tup_indexI : MtR X "tuple.index" (fun x xs H Q => ∃ (p : Addr) (ns : List Int) (k : Int) (j : Nat), x = .ref p ∧ xs = [.int k] ∧ SqT X.K H p (ns.map V.int) ∧ ns[j]? = some k ∧ (∀ m : Nat, m < j → ns[m]? ≠ some k) ∧ Q (.int (j : Nat)) H) := by
  intro pins s σ H x xs v us Q I rx rs h
  obtain ⟨p, ns, z, j, rfl, rfl, hq, hy, hno, q⟩ := h
  cases rx
  obtain ⟨u, rfl, t, rfl⟩ := vals1 rs
  obtain ⟨its, r, pl, hz⟩ := I.tuple hq
  obtain ⟨⟨cls, dd, dt, sl⟩, ho, hc, n, hd⟩ := pl
  simp only at hc hd
  subst hc hd
  have fl : (ns.map V.int).all flatV = true := by rw [List.all_map]; exact List.all_eq_true.mpr fun _ _ => rfl
  have hl : its.toArray.size = ns.length := by rw [List.size_toArray, ← r.length, List.length_map]
  have hj : j < its.toArray.size := by rw [hl]; exact (List.getElem?_eq_some_iff.mp hy).1
  have ent : ∀ (m : Nat) (hm : m < its.toArray.size), ∃ i t', ns[m]? = some i ∧ its.toArray[m] = Value.int i t' := fun m hm => by
    have hm' : m < ns.length := by rw [← hl]; exact hm
    obtain ⟨w, hw, t', hw'⟩ := r.get (i := m) (x := .int ns[m]) (by simp [hm'])
    refine ⟨ns[m], t', List.getElem?_eq_getElem hm', ?_⟩
    rw [← hw', ← (List.getElem?_eq_some_iff.mp hw).2]
    simp
  refine call_meets PySem.F.slot_tuple_index ⟨_, ho, rfl⟩ PySem.F.entry_tuple_index (PySem.F.args_tuple_index_2 _ _) (TI.tuple_indexAt p its.toArray n dd sl (.int z t) (eqU (.int z)) j hj ?_ ?_)
    ⟨ho, fun w hw => mem_eqAt (x := .int z) ⟨t, rfl⟩ rfl r fl w (by simpa using hw), ⟨.int (j : Nat), H, I.tok _, ⟨_, rfl⟩, q⟩⟩
  · obtain ⟨i, t', h1, h2⟩ := ent j hj
    rw [hy] at h1; cases h1
    rw [h2, eqU_of (y := .int z) ⟨t', rfl⟩ rfl]
    simp [eqV]
  · intro m hm hmj
    obtain ⟨i, t', h1, h2⟩ := ent m hm
    rw [h2, eqU_of (y := .int i) ⟨t', rfl⟩ rfl]
    have := hno m hmj
    rw [h1] at this
    simp [eqV]
    intro h; exact this (by rw [h])
/-- sorted(set(t)), ints -/
def tSortSet (K : PySem.W.Frag) (te : TE) : TE := fun σ H Q => te σ H fun v H1 => ∃ (a : Addr) (ns : List Int), v = .ref a ∧ SqT K H1 a (ns.map V.int) ∧ ns.length ≤ 1000 ∧
  ∀ (ns' : List Int) (p : Addr), ns'.Pairwise (· < ·) → (∀ k : Int, k ∈ ns' ↔ k ∈ ns) → H1 p = none → Q (.ref p) (upd H1 p (.lst (ns'.map V.int)))
theorem pe_sortSet {e : Expr} {te : TE} {p p2 pos pos2 : Pos} (hc : X.calm = true) (hg : Gl X "sorted") (hm : X.mg "sorted" = none) (hg2 : Gl X "set") (hm2 : X.mg "set" = none) (he : PE X e te)
    (hs : starEach [e] X.env = (false, eval e X.env) :: starEach [] X.env := by rfl)
    (hs2 : starEach [.Call (.Name "set" p2) [e] [] pos2] X.env = (false, eval (.Call (.Name "set" p2) [e] [] pos2) X.env) :: starEach [] X.env := by rfl) :
    PE X (.Call (.Name "sorted" p) [.Call (.Name "set" p2) [e] [] pos2] [] pos) (tSortSet X.K te) := by
  refine ⟨fun pins s σ H Q I h => ?_⟩
  refine Call_ (ld_blt I hg hm boot_sorted ?_)
  refine PyProof.Rows.callWith_builtin1 (PyProof.Rows.args_cons ?_ hs2) hs2 rfl
  refine Call_ (ld_blt I hg2 hm2 PyProof.Rows.boot_set ?_)
  refine PyProof.Rows.callWith_type1 (PyProof.Rows.args_cons (thn (he.run pins s σ H _ I h) fun u s1 ⟨v, H1, I1, r1, q1⟩ => PyProof.Rows.args_nil ?_) hs) hs rfl
  obtain ⟨a, ns, ev, hq, hl, q⟩ := q1
  subst ev
  obtain rfl : u = Value.ref a := r1
  obtain ⟨its, rv, pt, hz⟩ := I1.tuple hq
  have hi : IntsAre its.toArray.toList ns := ints_of_vals rv
  refine call_set_tupI ns (I1.ok.hd hc) (show s1.heap.IsTuple a its.toArray from pt) hi (by unfold scanBound; omega) fun h' tk c R hcn k => PyProof.Rows.args_nil ?_
  have I2 : Inv X pins σ H1 { s1 with heap := h', toks := tk } := I1.kept k
  exact sorted_setI I2 (I1.ok.hd hc) R (by rw [sizeLine_eq]; omega) fun ns' p h1 h2 hp => q ns' p h1 (fun k => by rw [h2 k, decide_eq_true_eq]) hp
end
end L2

set_option maxHeartbeats 2000000
namespace M
open PySem PySem.Spec PyProof.Rows L2
section
variable {X : Cx}
/-- the object of a new tuple -/
abbrev tupO (its : List Value) : Obj := { cls := .type "tuple", data := .seq its.toArray }
theorem laidN {pins : List (Addr × Obj)} {σ : L2.St} {H : Hp} {s : Shared} {xs : List V} {its : List Value} (I : Inv X pins σ H s) (hz : xs.length ≤ sizeLine) (r : Vals xs its) :
    Inv X pins σ (upd H s.heap.objs.size (.frz (tupO its) (.tup xs))) { s with heap := s.heap.push (tupO its) } :=
  I.laid (t' := s.toks) (fun b u e => Heap.get?_push_of_some _ e) (Nat.le_refl _) ⟨Heap.get?_push_size _ rfl, hz, its, r, IsTup.new _ _⟩
theorem pe_tupN {es : List Expr} {x1 : Nat} {pos : Pos} {t : TA} (h : PA X es t) : PE X (.Tuple es x1 pos) (fun σ H Q => t σ H fun xs H1 => xs.length ≤ sizeLine ∧ ∀ (p : Addr) (o : Obj), H1 p = none → o.dict = none → Q (.ref p) (upd H1 p (.frz o (.tup xs)))) := by
  refine ⟨fun pins s σ H Q I hq => ?_⟩
  refine wpAny_Tuple_spliced (thn (h.run pos pins s σ H _ I hq) fun us s1 ⟨xs, H1, I1, r, z, q⟩ => ⟨by rw [← r.length]; exact z, ?_⟩)
  exact ⟨.ref s1.heap.objs.size, _, laidN I1 z r, rfl, q _ _ (I1.hok.fresh (Nat.le_refl _)) rfl⟩
theorem call_tupN : CallR X (.type "tuple") (fun xs H Q => ∃ p ys, xs = [.ref p] ∧ ((SqL X.K H p ys ∧ ∀ (l : Addr) (o : Obj), H l = none → o.dict = none → Q (.ref l) (upd H l (.frz o (.tup ys)))) ∨ (SqT X.K H p ys ∧ Q (.ref p) H))) := by
  intro pins s σ H xs us Q I r h
  obtain ⟨p, ys, rfl, h⟩ := h
  obtain ⟨u, rfl, rx⟩ := vals1 r
  cases rx
  rcases h with ⟨hq, q⟩ | ⟨hq, q⟩
  · obtain ⟨its, r', pl, hz⟩ := I.list hq
    have hlen := r'.length
    refine call_tuple_list pl.isList (fun h' kp => ?_) (by simp only [List.size_toArray] <;> omega)
    have I1 : Inv X pins σ H { s with heap := h' } := I.kept (t' := s.toks) kp
    exact ⟨.ref h'.objs.size, _, laidN I1 hz r', rfl, q _ _ (I1.hok.fresh (Nat.le_refl _)) rfl⟩
  · obtain ⟨its, r', pl, hz⟩ := I.tuple hq
    exact call_tuple_same pl ⟨.ref p, H, I, rfl, q⟩
theorem op_catN : OpR X (binaryOp .Add) (fun x y H Q => ∃ a b xs ys, x = .ref a ∧ y = .ref b ∧ SqT X.K H a xs ∧ SqT X.K H b ys ∧ xs.length + ys.length ≤ sizeLine ∧
    (xs = [] → Q (.ref b) H) ∧ (xs ≠ [] → ys = [] → Q (.ref a) H) ∧ (xs ≠ [] → ys ≠ [] → ∀ (p : Addr) (o : Obj), H p = none → o.dict = none → Q (.ref p) (upd H p (.frz o (.tup (xs ++ ys)))))) := by
  intro pins s σ H x y v u Q I rx ry h
  obtain ⟨a, b, xs, ys, rfl, rfl, ha, hb, hz, q0, q1, q2⟩ := h
  by_cases hx : xs = []
  · exact op_catA pins s σ H _ _ v u Q I rx ry ⟨a, b, xs, ys, rfl, rfl, ha, hb, hz, q0, q1, fun e => absurd hx e⟩
  · cases rx
    cases ry
    obtain ⟨its, r1, p1, _⟩ := I.tuple ha
    obtain ⟨its2, r2, p2, _⟩ := I.tuple hb
    refine HT.cat_tup p1 p2 (fun z => hx (r1.nil_iff.mp z)) (fun z => ⟨.ref a, H, I, rfl, q1 hx (r2.nil_iff.mp z)⟩) (fun z => ?_) (by rw [← r1.length, ← r2.length]; exact hz)
    exact ⟨.ref s.heap.objs.size, _, laidN I (by rw [List.length_append]; exact hz) (r1.append r2), rfl, q2 hx (fun w => z (r2.nil_iff.mpr w)) _ _ (I.hok.fresh (Nat.le_refl _)) rfl⟩
theorem op_catL : OpR X (binaryOp .Add) (fun x y H Q => ∃ l b xs zs, x = .ref l ∧ y = .ref b ∧ SqL X.K H l xs ∧ SqL X.K H b zs ∧ xs.length + zs.length ≤ sizeLine ∧ ∀ p, H p = none → Q (.ref p) (upd H p (.lst (xs ++ zs)))) := by
  intro pins s σ H x y v u Q I rx ry h
  obtain ⟨l, b, xs, zs, rfl, rfl, hH, hB, hz, q⟩ := h
  cases rx
  cases ry
  obtain ⟨its, r, p1, hl⟩ := I.list hH
  obtain ⟨its2, r2, p2, hl2⟩ := I.list hB
  obtain ⟨⟨cls, dd, data, sl⟩, ho, hc, n, hd⟩ := id p1.isList
  obtain ⟨⟨cls2, dd2, data2, sl2⟩, ho2, hc2, n2, hd2⟩ := id p2.isList
  simp only at hc hd hc2 hd2
  subst hc hd hc2 hd2
  have e := r.length
  have e' := r2.length
  refine concat_meets ⟨_, ho, rfl⟩ ⟨_, ho2, rfl⟩ noFill_list_add seq_list_add PySem.F.slot_list_add PySem.F.entry_list_add (PySem.F.args_list_add_2 _ _) (list_addW l b its.toArray its2.toArray n n2 dd dd2 sl sl2 (by simp; omega)) ⟨ho, ho2, ?_⟩
  have ea : its.toArray ++ its2.toArray = (its ++ its2).toArray := by simp
  rw [ea]
  exact ⟨.ref _, _, I.lnew (t' := s.toks) (r.append r2) (by rw [List.length_append]; omega), rfl, q _ I.fresh⟩
theorem sl_tupN : SlR X (fun x lo hi H Q => ∃ a xs, x = .ref a ∧ SqT X.K H a xs ∧
    (HT.sIx xs.length 0 lo = 0 ∧ HT.sIx xs.length xs.length hi = xs.length → Q (.ref a) H) ∧ (¬ (HT.sIx xs.length 0 lo = 0 ∧ HT.sIx xs.length xs.length hi = xs.length) → ∀ (p : Addr) (o : Obj), H p = none → o.dict = none → Q (.ref p) (upd H p (.frz o (.tup (cutV xs lo hi)))))) := by
  intro pins s σ H x v vl vu lo hi sl Q I rx hs pl pu h
  obtain ⟨a, xs, rfl, hx, q1, q2⟩ := h
  by_cases hw : HT.sIx xs.length 0 lo = 0 ∧ HT.sIx xs.length xs.length hi = xs.length
  · exact sl_tupA pins s σ H _ v vl vu lo hi sl Q I rx hs pl pu ⟨a, xs, rfl, hx, q1, fun e => absurd hw e⟩
  · cases rx
    obtain ⟨its, r, ht, hz⟩ := I.tuple hx
    have hlen : its.toArray.size = xs.length := by rw [List.size_toArray]; exact r.length.symm
    refine ⟨"tuple", _, PyProof.Rows.slot_tuple_getitem.lookup, ht.typeIs, ?_⟩
    refine HT.getItem_tuple_cut ht hs pl pu (by rw [hlen]; exact hw) ?_ (by rw [hlen]; exact hz)
    rw [hlen]
    exact ⟨.ref s.heap.objs.size, _, laidN I (Nat.le_trans (cutV_length xs lo hi) hz) ((r.drop (HT.sIx xs.length 0 lo)).take (HT.sIx xs.length xs.length hi - HT.sIx xs.length 0 lo)), rfl, q2 hw _ _ (I.hok.fresh (Nat.le_refl _)) rfl⟩
theorem pe_tupRevN {e : Expr} {te : TE} {p p2 pos pos2 : Pos} (hc : X.calm = true) (hg : Gl X "tuple") (hm : X.mg "tuple" = none) (hg2 : Gl X "reversed") (hm2 : X.mg "reversed" = none) (he : PE X e te)
    (hs : starEach [e] X.env = (false, eval e X.env) :: starEach [] X.env)
    (hs2 : starEach [.Call (.Name "reversed" p2) [e] [] pos2] X.env = (false, eval (.Call (.Name "reversed" p2) [e] [] pos2) X.env) :: starEach [] X.env := by rfl) :
    PE X (.Call (.Name "tuple" p) [.Call (.Name "reversed" p2) [e] [] pos2] [] pos) (fun σ H Q => te σ H fun v H1 => ∃ (a : Addr) (xs : List V), v = .ref a ∧ SqL X.K H1 a xs ∧ ∀ (q : Addr) (o : Obj), H1 q = none → o.dict = none → Q (.ref q) (upd H1 q (.frz o (.tup xs.reverse)))) := by
  refine ⟨fun pins s σ H Q I h => ?_⟩
  refine Call_ (ld_blt I hg hm boot_tuple (PyProof.Rows.callWith_type1 (args_cons (Call_ (ld_blt I hg2 hm2 PyProof.Rows.boot_reversed (PyProof.Rows.callWith_type1 (args_cons (thn (he.run pins s σ H _ I h) fun u s1 ⟨v, H1, I1, r1, q1⟩ => args_nil ?_) hs) hs rfl))) hs2) hs2 rfl))
  obtain ⟨a, xs, ev, hq, q⟩ := q1
  subst ev
  obtain rfl : u = Value.ref a := r1
  obtain ⟨its, rv, p', hz⟩ := I1.list hq
  refine call_reversed_list p'.isList (args_nil ?_)
  have I2 : Inv X pins σ H1 { s1 with heap := s1.heap.push (revObj a ((its.toArray.size : Int) - 1)) } := I1.kept (t' := s1.toks) fun b o e => Heap.get?_push_of_some _ e
  obtain ⟨f0, f1, f2, f3, f4, f5⟩ := I1.fpOk (H' := H1) (b := s1.heap.objs.size) (Nat.le_refl _) (I1.hok.fresh (Nat.le_refl _))
  have hl := p'.isList
  obtain ⟨ol, hol, _⟩ := id hl
  have hne : a ≠ s1.heap.objs.size := Nat.ne_of_lt (Heap.lt_size hol)
  refine RT.call_tuple_rev (s := { s1 with heap := s1.heap.push (revObj a ((its.toArray.size : Int) - 1)) }) (I1.ok.hd hc) ⟨_, Heap.get?_push_size _ rfl, rfl, rfl⟩ (hl.push _) hne (by rw [List.size_toArray, ← rv.length]; exact hz) fun h' tk acc hk hi => ?_
  have I3 : Inv X pins σ H1 { s1 with heap := h', toks := tk } := I2.turned (t' := tk) (fun b o hb e => hk b o hb e) f0 f1 f3 f4 f5
  have := laidN I3 (xs := xs.reverse) (its := acc.toList) (by rw [List.length_reverse]; exact hz) (RT.vals_rev rv hi)
  refine ⟨.ref h'.objs.size, _, ?_, rfl, q _ (tupO acc.toList) (I3.hok.fresh (Nat.le_refl _)) rfl⟩
  simpa using this
end
section
variable {prog : Program} {w : World} {A : Around} {E : Value → Shared → Prop} {s : Shared}
/-- a list is filled from a backward walk -/
theorem fill_rev {R : Result → Shared → Prop} {it l S : Addr} {items : Array Value} {c0 : Nat} {res : Value} (hh : A.handled = none) (hit : s.heap.IsRevIter it l ((items.size : Int) - 1)) (hl : s.heap.IsList l items) (hne : l ≠ it) (hn : items.size ≤ sizeLine)
    (hS : s.heap.get? S = some { cls := .type "list", data := .seq #[] c0 }) (hSi : S ≠ it) (hSl : S ≠ l)
    (hR : ∀ (h' : Heap) (tk c' : Nat) (acc : Array Value), (∀ b o, b ≠ it → b ≠ S → s.heap.get? b = some o → h'.get? b = some o) → h'.get? S = some { cls := .type "list", dict := none, data := .seq acc c', slots := #[] } →
      ItemsOf (fun i v => items[items.size - 1 - i]? = some v) acc items.size → R (.ok (.ret res)) { s with heap := h', toks := tk }) :
    wpAny (model prog w) A.in1 (Builtin.List.listExtendWith (.ref S) (.ref it) res)
      (fun f s' => match f with | .done f => R (.ok f) s' | .again c' => c'.quiet = true ∧ codeAny (model prog w) A c' R s') (fun e s' => R (.error e) s') s := by
  have W := (Walks.listRev (prog := prog) (w := w) (A := A.in1) hh it l hne items).toS
  have hSf : S ∉ [it, l] := fun hm => by
    rcases List.mem_cons.mp hm with e | hm
    · exact hSi e
    · exact hSl (List.mem_singleton.mp hm)
  have hT : s.TypeIs (.ref it) "list_reverseiterator" := hit.typeIs
  unfold Builtin.List.listExtendWith
  refine wpAny_bind (wpAny_typeOf hT ?_)
  rw [if_neg (by rw [show Builtin.List.listSameRef (.ref S) (.ref it) = false from by simp [Builtin.List.listSameRef, hSi]]; decide)]
  refine wpAny_bind (wpAny_pyIter_revIter hit ?_)
  refine wpAny_bind (wpAny_holding ?_)
  unfold Builtin.List.listLengthHint
  refine wpAny_bind (wpAny_specialOf hT RT.nolen_lri ?_)
  show wpAny _ A.in1 (specialOf (Value.ref it) (Str.ofString "__length_hint__") >>= _) _ _ _
  refine wpAny_bind (wpAny_specialOf hT RT.hint_lri ?_)
  generalize hid : ("list_reverseiterator.__length_hint__" : String) = id0
  wp_delta
  rw [show splitId id0 = some ("list_reverseiterator", "__length_hint__") from by subst hid; decide +kernel]
  subst hid
  refine wpAny_bind (wpAny_isInstance (b := true) hT (by rw [isSubtype_type]; kernel_rfl) ?_)
  refine wpAny_pure ?_
  rw [if_neg (by decide)]
  refine wpAny_pure ⟨plainId_quiet F.plain_extend_loop _, codeAny_extend_loopS W hn S hSf res items.size 0 _ _ _ rfl (Nat.zero_le _) ⟨Nat.zero_le _, by rw [show ((items.size : Nat) : Int) - 1 - ((0 : Nat) : Int) = (items.size : Int) - 1 from by omega]; exact hit, hl⟩ hS (ItemsOf.nil _) fun s' acc' c' hm hS' hacc => ?_⟩
  rw [Moved.eq_with hm]
  refine hR s'.heap s'.toks c' acc' (fun b o hb hb2 e => hm.heap b o (fun hmem => ?_) e) hS' hacc
  rcases List.mem_cons.mp hmem with e' | hmem
  · exact hb2 e'
  · exact hb (List.mem_singleton.mp hmem)
theorem call_list_rev {Q : Value → Shared → Prop} {it l : Addr} {items : Array Value} (hh : A.handled = none) (hit : s.heap.IsRevIter it l ((items.size : Int) - 1)) (hl : s.heap.IsList l items) (hne : l ≠ it) (hn : items.size ≤ sizeLine)
    (hQ : ∀ (h' : Heap) (tk c' : Nat) (acc : Array Value), (∀ b o, b ≠ it → s.heap.get? b = some o → h'.get? b = some o) → h'.get? s.heap.objs.size = some { cls := .type "list", dict := none, data := .seq acc c', slots := #[] } →
      ItemsOf (fun i v => items[items.size - 1 - i]? = some v) acc items.size → Q (.ref s.heap.objs.size) { s with heap := h', toks := tk }) :
    wpAny (model prog w) A (call (.type "list") [.ref it]) Q E s := by
  refine callType_codes (Q₁ := fun obj s₁ => obj = .ref s.heap.objs.size ∧ s₁ = { s with heap := s.heap.push { cls := .type "list", data := .seq #[] } }) F.called_list (F.typeCall_list_1 _) F.entry_list_init
    (code_list_new _ ⟨rfl, rfl⟩) fun obj s₁ h₁ => ?_
  obtain ⟨rfl, rfl⟩ := h₁
  obtain ⟨oi, hoi, _⟩ := id hit
  obtain ⟨ol, hol, _⟩ := id hl
  have hS : (s.heap.push { cls := .type "list", data := .seq #[] }).get? s.heap.objs.size = some { cls := .type "list", data := .seq #[] } := Heap.get?_push_size _ rfl
  have n1 : s.heap.objs.size ≠ it := Nat.ne_of_gt (Heap.lt_size hoi)
  have n2 : s.heap.objs.size ≠ l := Nat.ne_of_gt (Heap.lt_size hol)
  have hit1 : (s.heap.push { cls := .type "list", data := .seq #[] }).IsRevIter it l ((items.size : Int) - 1) := hit.at fun o e => Heap.get?_push_of_some _ e
  have hl1 : (s.heap.push { cls := .type "list", data := .seq #[] }).IsList l items := hl.push _
  refine ⟨⟨_, hS, rfl⟩, F.args_list_init_2 _ _, ?_⟩
  show wpAny _ _ (do let old ← Builtin.List.listItems (.ref s.heap.objs.size); Builtin.List.listUpdate (.ref s.heap.objs.size) (fun _ => #[]); letGo old.toList.reverse; Builtin.List.listExtendWith (.ref s.heap.objs.size) (.ref it) .none) _ _ _
  refine wpAny_bind ?_
  unfold Builtin.List.listItems
  refine wpAny_bind (wpAny_seqItems hS rfl (wpAny_pure ?_))
  show wpAny _ _ (updateSeq s.heap.objs.size (fun _ => #[]) >>= fun _ => letGo (#[] : Array Value).toList.reverse >>= fun _ => Builtin.List.listExtendWith (.ref s.heap.objs.size) (.ref it) .none) _ _ _
  refine wpAny_bind (wpAny_updateSeq hS rfl ?_)
  have hS2 := Heap.get?_update_self (Obj.mapSeq (fun _ => (#[] : Array Value))) hS rfl
  have oth : ∀ b o, b ≠ s.heap.objs.size → (s.heap.push { cls := .type "list", data := .seq #[] }).get? b = some o → ((s.heap.push { cls := .type "list", data := .seq #[] }).update s.heap.objs.size (Obj.mapSeq (fun _ => (#[] : Array Value)))).get? b = some o :=
    fun b o hb e => (Heap.get?_update_other _ _ (Ne.symm hb)).trans e
  refine wpAny_bind (wpAny_letGo ?_)
  obtain ⟨o1, e1, f1⟩ := id hit1
  obtain ⟨o2, e2, f2⟩ := id hl1
  refine fill_rev (A := A.in1) hh ⟨o1, oth it _ (Ne.symm n1) e1, f1⟩ ⟨o2, oth l _ (Ne.symm n2) e2, f2⟩ hne hn hS2 n1 n2 fun h' tk c' acc hk hS' hi => ?_
  refine ⟨rfl, hQ h' tk c' acc (fun b o hb e => ?_) hS' hi⟩
  have hbs : b ≠ s.heap.objs.size := Nat.ne_of_lt (Heap.lt_size e)
  exact hk b o hb hbs (oth b o hbs (Heap.get?_push_of_some _ e))
end
section
variable {X : Cx}
theorem pe_lstRevN {e : Expr} {te : TE} {p p2 pos pos2 : Pos} (hc : X.calm = true) (hg : Gl X "list") (hm : X.mg "list" = none) (hg2 : Gl X "reversed") (hm2 : X.mg "reversed" = none) (he : PE X e te)
    (hs : starEach [e] X.env = (false, eval e X.env) :: starEach [] X.env)
    (hs2 : starEach [.Call (.Name "reversed" p2) [e] [] pos2] X.env = (false, eval (.Call (.Name "reversed" p2) [e] [] pos2) X.env) :: starEach [] X.env := by rfl) :
    PE X (.Call (.Name "list" p) [.Call (.Name "reversed" p2) [e] [] pos2] [] pos) (fun σ H Q => te σ H fun v H1 => ∃ (a : Addr) (xs : List V), v = .ref a ∧ SqL X.K H1 a xs ∧ ∀ q : Addr, H1 q = none → Q (.ref q) (upd H1 q (.lst xs.reverse))) := by
  refine ⟨fun pins s σ H Q I h => ?_⟩
  refine Call_ (ld_blt I hg hm boot_list (PyProof.Rows.callWith_type1 (args_cons (Call_ (ld_blt I hg2 hm2 PyProof.Rows.boot_reversed (PyProof.Rows.callWith_type1 (args_cons (thn (he.run pins s σ H _ I h) fun u s1 ⟨v, H1, I1, r1, q1⟩ => args_nil ?_) hs) hs rfl))) hs2) hs2 rfl))
  obtain ⟨a, xs, ev, hq, q⟩ := q1
  subst ev
  obtain rfl : u = Value.ref a := r1
  obtain ⟨its, rv, p', hz⟩ := I1.list hq
  refine call_reversed_list p'.isList (args_nil ?_)
  have I2 : Inv X pins σ H1 { s1 with heap := s1.heap.push (revObj a ((its.toArray.size : Int) - 1)) } := I1.kept (t' := s1.toks) fun b o e => Heap.get?_push_of_some _ e
  have hl := p'.isList
  obtain ⟨ol, hol, _⟩ := id hl
  have hne : a ≠ s1.heap.objs.size := Nat.ne_of_lt (Heap.lt_size hol)
  have hz2 : (s1.heap.push (revObj a ((its.toArray.size : Int) - 1))).objs.size = s1.heap.objs.size + 1 := Heap.size_push ..
  refine call_list_rev (s := { s1 with heap := s1.heap.push (revObj a ((its.toArray.size : Int) - 1)) }) (I1.ok.hd hc) ⟨_, Heap.get?_push_size _ rfl, rfl, rfl⟩ (hl.push _) hne (by rw [List.size_toArray, ← rv.length]; exact hz) fun h' tk c' acc hk hS hi => ?_
  have k1 : ∀ b o, s1.heap.get? b = some o → h'.get? b = some o := fun b o e => hk b o (Nat.ne_of_lt (Heap.lt_size e)) (Heap.get?_push_of_some _ e)
  have hfr : H1 (s1.heap.push (revObj a ((its.toArray.size : Int) - 1))).objs.size = none := I2.hok.fresh (Nat.le_refl _)
  refine ⟨.ref _, _, I1.laid (t' := tk) k1 (by rw [hz2]; exact Nat.le_succ _) (show ObjOk X.prog X.w _ _ _ (.lst xs.reverse) from ⟨by rw [List.length_reverse]; exact hz, acc.toList, c', RT.vals_rev rv hi, by rw [Array.toArray_toList]; exact hS⟩), rfl, q _ hfr⟩
end
section
variable {X : Cx}
/-- t.m(e): a method of a tuple -/
def tBMN (K : PySem.W.Frag) (r : V → List V → Hp → VK → Prop) (to : TE) (t : TA) : TE := fun σ H Q => to σ H fun x H1 => (∃ p xs, x = .ref p ∧ SqN K H1 p xs) ∧ t σ H1 fun xs H2 => r x xs H2 Q
theorem pe_bmN {o e : Expr} {es : List Expr} {to : TE} {t : TA} {name : Str} {apos cpos : Pos} {id : String} {r : V → List V → Hp → VK → Prop} (pa : PlainAttrs "tuple") (slot : Slot "tuple" name id) (hty : typeOf (.builtin id) = pure (.type "method_descriptor")) (hm : MtR X id r) (ho : PE X o to) (ha : PA X (e :: es) t)
    (hbase : attributeBase o name X.env (eval o X.env) = eval o X.env)
    (hfew : ((backTo cpos (starEach (e :: es) X.env)).all (fun x => !x.1) && (backToKw cpos (keywordEach [] X.env)).all (fun x => x.1.isSome)
      && decide ((e :: es).length + ([] : List Keyword).length + (if ([] : List Keyword).isEmpty then 0 else 1) < 30)) = true)
    (hline : (apos.endLine == cpos.line) = true) (hs : starEach (e :: es) X.env = (false, eval e X.env) :: starEach es X.env) (hplain : (backTo cpos (starEach es X.env)).any (·.1) = false) :
    PE X (.Call (.Attribute o name apos) (e :: es) [] cpos) (tBMN X.K r to t) := by
  refine ⟨fun pins s σ H Q I h => ?_⟩
  refine wpAny_Call_method_late hbase hfew hline rfl (thn (ho.run pins s σ H _ I h) fun v s1 ⟨x, H1, I1, r1, ⟨p, xs, ex, hn⟩, q1⟩ => ?_)
  subst ex
  obtain rfl : v = Value.ref p := r1
  have hx : ∃ ob, s1.heap.get? p = some ob ∧ ob.cls = .type "tuple" ∧ ob.dict = none := by
    rcases hn with ⟨o, h, hd⟩ | ⟨o, its, n, hk, hcl, _, _, _, hd⟩
    · obtain ⟨e1, _, its, _, o', e2, hcl, _⟩ := I1.hok p _ h
      rw [e1] at e2; cases e2
      exact ⟨o, e1, hcl, hd⟩
    · exact ⟨o, I1.kIn p o hk, hcl, hd⟩
  obtain ⟨ob, e1, e2, e3⟩ := hx
  refine ⟨"tuple", id, pa, slot, hty, ⟨ob, e1, e2⟩, fun a ea => by cases ea; exact ⟨ob, e1, e3⟩, ?_⟩
  have hA := ha.run cpos pins s1 σ H1 _ I1 q1
  rw [hs] at hA ⊢
  refine Calls.callWith_builtin (by show (false || (backTo cpos (starEach es X.env)).any (·.1)) = false; rw [hplain] <;> rfl) (Calls.evalArgs_plain ?_)
  exact thn hA fun us s2 ⟨vs, H2, I2, r2, q2⟩ => hm pins s2 σ H2 (.ref p) vs (.ref p) us Q I2 rfl r2 q2
end
end M

set_option maxHeartbeats 1000000
namespace M
open PySem PySem.Spec PyProof.Rows L2 HT
section
variable {prog : Program} {w : World} {A : Around} {E : Value → Shared → Prop} {s : Shared}
theorem sliceApplied_rev {sl : Addr} {vl vu vs : Value} {n : Nat} {Q : Int × Int × Nat → Shared → Prop} (hs : s.heap.IsSliceOf sl vl vu vs) (pl : IsPart vl none) (pu : IsPart vu none) (ps : IsPart vs (some (-1)))
    (h : Q ((n : Int) - 1, -1, n) s) : wpAny (model prog w) A (Builtin.Slice.sliceApplied (.ref sl) (pure (n : Int))) Q E s := by
  obtain ⟨os, hos, hcs, hds⟩ := id hs
  unfold Builtin.Slice.sliceApplied Builtin.Slice.sliceFields
  refine wpAny_bind (wpAny_bind (wpAny_field hos hds (x := vl) rfl (wpAny_bind (wpAny_field hos hds (x := vu) rfl (wpAny_bind (wpAny_field hos hds (x := vs) rfl (wpAny_pure ?_)))))))
  refine wpAny_bind (slicePart_ ps ?_)
  show wpAny _ _ (if ((-1 : Int) == 0) = true then _ else _) _ _ s
  rw [if_neg (by decide)]
  refine wpAny_bind (slicePart_ pl (wpAny_bind (slicePart_ pu (wpAny_bind (wpAny_pure ?_)))))
  show wpAny _ _ (pure ((n : Int) - 1, (-1 : Int), Builtin.Slice.slicePlaces ((n : Int) - 1) (-1) (-1))) _ _ s
  have e : Builtin.Slice.slicePlaces ((n : Int) - 1) (-1) (-1) = n := by
    unfold Builtin.Slice.slicePlaces
    rw [if_neg (by decide)]
    split
    · rw [show -(-1 : Int) = 1 from rfl, Int.ediv_one]; omega
    · omega
  rw [e]
  exact wpAny_pure h
theorem pick_rev (xs : Array Value) : ((List.range xs.size).filterMap fun (m : Nat) => xs[((xs.size : Int) - 1 + (m : Int) * (-1)).toNat]?).toArray = xs.toList.reverse.toArray := by
  congr 1
  have e : ∀ k, k ≤ xs.size → (List.range k).filterMap (fun (m : Nat) => xs[((xs.size : Int) - 1 + (m : Int) * (-1)).toNat]?) = xs.toList.reverse.take k := by
    intro k
    induction k with
    | zero => intro _; rfl
    | succ k ih =>
      intro hk
      rw [List.range_succ, List.filterMap_append, ih (by omega), List.take_add_one]
      congr 1
      have e1 : ((xs.size : Int) - 1 + (k : Int) * (-1)).toNat = xs.size - 1 - k := by omega
      have e2 : xs[xs.size - 1 - k]? = some xs[xs.size - 1 - k] := by simp
      rw [List.getElem?_reverse (by rw [Array.length_toList]; omega)]
      simp only [List.filterMap_cons, List.filterMap_nil, e1, e2, Array.length_toList]
      rw [Array.getElem?_toList, e2]; rfl
  rw [e _ (Nat.le_refl _), List.take_of_length_le (by simp)]
theorem getItem_tuple_rev {t sl : Addr} {items : Array Value} {vl vu vs : Value} {Q : Value → Shared → Prop} (ht : IsTup s.heap t items) (hs : s.heap.IsSliceOf sl vl vu vs) (pl : IsPart vl none) (pu : IsPart vu none) (ps : IsPart vs (some (-1)))
    (h : Q (.ref s.heap.objs.size) { s with heap := s.heap.push { cls := .type "tuple", data := .seq items.toList.reverse.toArray } })
    (hsz : items.size ≤ sizeLine) : wpAny (model prog w) A (getItem (.ref t) (.ref sl)) Q E s := by
  have htake : sizeOk (.seq items.toList.reverse.toArray) := by
    show items.toList.reverse.toArray.size ≤ sizeLine
    rw [List.size_toArray, List.length_reverse, Array.length_toList]
    exact hsz
  obtain ⟨os, hos, hcs, hds⟩ := id hs
  have hTs : s.TypeIs (.ref sl) "slice" := ⟨os, hos, hcs⟩
  unfold getItem
  try with_reducible refine wpAny_holding ?_
  first | refine wpAny_bind (wpAny_pure ?_) | skip
  refine wpAny_bind (wpAny_sequenceKey ht.typeIs (by decide) ?_)
  refine wpAny_bind (wpAny_callSpecial?_slot (name := Str.ofString "__getitem__") ht.typeIs PyProof.Rows.slot_tuple_getitem
    (wpAny_call_entry PyProof.Rows.slot_tuple_getitem ht.typeIs entry_tuple_getitem ?_ (args_tuple_getitem _ _)))
  show wpAny _ _ (Builtin.Tuple.tupleItemsOf (.ref t) >>= _) _ _ s
  refine wpAny_bind (tupleItemsOf_ ht ?_)
  refine wpAny_bind (wpAny_typeOf hTs ?_)
  rw [if_pos (by decide)]
  refine wpAny_bind (sliceApplied_rev hs pl pu ps ?_)
  show wpAny _ _ (if ((((items.size : Nat) : Int) - 1) == 0 && (-1 : Int) == 1 && items.size == items.size) = true then _ else _) _ _ s
  rw [if_neg (by simp), pick_rev]
  first
    | exact wpAny_bind (m := Builtin.Tuple.tupleExact _) (wpAny_newObj_type (wpAny_pure ⟨_, rfl, wpAny_pure h⟩) htake)
    | exact wpAny_bind (m := Builtin.Tuple.tupleExact _) (wpAny_newObj_type (wpAny_bind (wpAny_pure (wpAny_pure ⟨_, rfl, wpAny_pure h⟩))) htake)
    | exact wpAny_bind (wpAny_bind (m := Builtin.Tuple.tupleExact _) (wpAny_newObj_type (wpAny_pure (wpAny_pure ⟨_, rfl, wpAny_pure h⟩)) htake))
    | exact wpAny_bind (wpAny_bind (m := Builtin.Tuple.tupleExact _) (wpAny_newObj_type (wpAny_pure ⟨_, rfl, wpAny_pure h⟩) htake))
end
section
variable {X : Cx}
def tRevT (K : PySem.W.Frag) (te : TE) : TE := fun σ H Q => te σ H fun x H1 => ∃ a xs, x = .ref a ∧ SqT K H1 a xs ∧ ∀ (p : Addr) (o : Obj), H1 p = none → o.dict = none → Q (.ref p) (upd H1 p (.frz o (.tup xs.reverse)))
theorem pe_revT {e : Expr} {te : TE} {k : Nat} {p1 p2 p3 pos : Pos} (he : PE X e te) : PE X (.Subscript e (.Slice none none (some (.UnaryOp .USub (.Constant (.int 1) k p1) p2)) p3) pos) (tRevT X.K te) := by
  refine ⟨fun pins s σ H Q I h => ?_⟩
  refine Subscript_ (thn (he.run pins s σ H _ I h) fun v s1 ⟨x, H1, I1, r1, q1⟩ => ?_)
  obtain ⟨a, xs, ex, hx, q⟩ := q1
  subst ex
  cases r1
  have hst : PO X (some (.UnaryOp .USub (.Constant (.int 1) k p1) p2)) (tPart (tUn (rU fun i => .int (-i)) (tC (.int 1)))) := po_some (pe_un un_neg pe_int)
  refine wpAny_Slice (thn (po_none.run pins s1 σ H1 (fun o H2 => o = none ∧ H2 = H1) I1 ⟨rfl, rfl⟩) fun vl s2 ⟨l, H2, I2, pl, el, e2⟩ => ?_)
  subst el e2
  refine thn (po_none.run pins s2 σ H2 (fun o H3 => o = none ∧ H3 = H2) I2 ⟨rfl, rfl⟩) fun vu s3 ⟨u, H3, I3, pu, eu, e3⟩ => ?_
  subst eu e3
  refine thn (hst.run pins s3 σ H3 (fun o H4 => o = some (-1) ∧ H4 = H3) I3 ⟨1, rfl, -1, rfl, rfl, rfl⟩) fun vs s4 ⟨o, H4, I4, ps, eo, e4⟩ => ?_
  subst eo e4
  have I5 : Inv X pins σ H4 { s4 with heap := s4.heap.push { cls := .type "slice", data := .fields #[vl, vu, vs] } } := I4.kept (t' := s4.toks) fun b ob q => Heap.get?_push_of_some _ q
  obtain ⟨its, r, ht, hz⟩ := I5.tuple hx
  have hlen : its.toArray.size = xs.length := by rw [List.size_toArray]; exact r.length.symm
  show wpAny (model X.prog X.w) X.A (subscriptTail e (.Slice none none (some (.UnaryOp .USub (.Constant (.int 1) k p1) p2)) p3) (.ref a) (.ref s4.heap.objs.size)) (EP X pins σ Q) X.xe { s4 with heap := s4.heap.push { cls := .type "slice", data := .fields #[vl, vu, vs] } }
  refine tail_any (ops := [.ref a, .ref s4.heap.objs.size]) ht.typeIs PyProof.Rows.slot_tuple_getitem.lookup ?_ (by with_unfolding_all rfl)
  refine getItem_tuple_rev ht (Heap.IsSliceOf.new _ vl vu vs) pl pu ps ?_ (by rw [hlen]; exact hz)
  exact ⟨.ref _, _, laidN I5 (by rw [List.length_reverse]; exact hz) r.reverse, rfl, q _ _ (I5.hok.fresh (Nat.le_refl _)) rfl⟩
def tDispT (tk tv : TE) : TE := fun σ H Q => ∀ p, H p = none → tk σ (upd H p (.dT [])) fun x H1 => tv σ H1 fun y H2 => H2 p = some (.dT []) ∧ ∃ (ks : List Key) (b : Addr), x = .ref b ∧ H2 b = some (.tup (ks.map kV)) ∧ Q (.ref p) (upd H2 p (.dT [(ks, y)]))
theorem pe_dispT {k v : Expr} {tk tv : TE} {pos : Pos} (hu : X.A.units + 1 < cLine) (hk : PE X k tk) (hv : PE X v tv) : PE X (.Dict [some k] [v] pos) (tDispT tk tv) := by
  refine ⟨fun pins s σ H Q I q => ?_⟩
  have hn := I.hok.fresh (Nat.le_refl s.heap.objs.size)
  have I1 := I.laid (a := s.heap.objs.size) (o := .dT []) (h' := s.heap.push { cls := .type "dict", data := .dict #[] }) (t' := s.toks) (fun _ _ q => Heap.get?_push_of_some _ q) (Nat.le_refl _) (dt_empty s.heap I.big)
  have hpn := pairTrees_length [some k] [v] X.env pos rfl rfl
  rw [arm_eval_Dict, zip_pairTrees [some k] [v] X.env pos rfl rfl, dictDisplay_pairs _ (fun e => by rw [e] at hpn; cases hpn) (by rw [hpn]; simp)]
  refine wpAny_bind (wpAny_standAt (wpAny_bind (wpAny_subDictH (knd := tupleKind (mixKind X.prog X.w)) (Q := fun d s' => wpAny (model X.prog X.w) X.A (pure (Value.ref d)) (EP X pins σ Q) X.xe s') (by show X.A.units < cLine; omega) (by rw [hpn]; simp) ?_)))
  let R : List (V × V) → Hp → Prop := fun ps H2 => match ps with
    | [(x, y)] => H2 s.heap.objs.size = some (.dT []) ∧ ∃ (ks : List Key) (b : Addr), x = .ref b ∧ H2 b = some (.tup (ks.map kV)) ∧ Q (.ref s.heap.objs.size) (upd H2 s.heap.objs.size (.dT [(ks, y)]))
    | _ => False
  refine thn ((pps_cons hk hv pps_nil).run pins _ σ _ R I1 (q _ hn)) fun ws s2 ⟨ps, H2, I2, rel, q2⟩ => ?_
  match ps, q2 with
  | [(x, y)], q2 =>
  obtain ⟨e, ks, b, rfl, eb, q2⟩ := q2
  cases rel with
  | @cons pa wv pas ws h t =>
  cases t
  obtain ⟨kv, vv⟩ := wv
  obtain ⟨h1, h2⟩ := h
  obtain rfl : kv = Value.ref b := h1
  obtain ⟨z, hd, xs, rel, dd⟩ := dt_of I2.hok e
  cases rel
  refine ⟨[(ks, b, vv)], ⟨rfl, rfl, key_of I2.hok eb, trivial⟩, dd, fun h' tk dd' hs => wpAny_pure ⟨.ref s.heap.objs.size, _, ?_, rfl, q2⟩⟩
  obtain ⟨q, es, ep, hq, h2', h3, h4, _, h5⟩ := dd'
  have wr := d_write (ob := .dT [(ks, y)]) (t' := tk) I2 (by rw [e]; exact True.intro) hs ⟨q, hq⟩ ⟨show 1 ≤ sizeLine from by decide, hd, [(ks, b, vv)], ?_, q, es, ep, hq, h2', h3, h4, h5⟩
  · exact wr
  · refine .cons ⟨rfl, ?_, h2⟩ .nil
    rw [upd_ne (ne_of eb e (fun z => nomatch z))]
    exact eb
end
def tChain3 (r r' r'' : R2) (ta tb tc td : TE) : TT := fun σ H Q => ta σ H fun x H1 => tb σ H1 fun y H2 => r x y H2 fun z H3 => ∃ k, z = .bl k ∧
  (if k = true then tc σ H3 fun w' H4 => r' y w' H4 fun z' H5 => ∃ k', z' = .bl k' ∧
    (if k' = true then td σ H5 fun u' H6 => r'' w' u' H6 fun z'' H7 => ∃ k'', z'' = .bl k'' ∧ Q k'' H7 else Q false H5) else Q false H3)
theorem pt_chain3 {X : Cx} {a b c d : Expr} {ta tb tc td : TE} {pos : Pos} {op op' op'' : CmpOp} {r r' r'' : R2} (ho : OpR X (compareOp op) r) (ho' : OpR X (compareOp op') r') (ho'' : OpR X (compareOp op'') r'') (ha : PE X a ta) (hb : PE X b tb) (hc : PE X c tc) (hd : PE X d td)
    (hm : lastMarks [op, op', op''] [b, c, d] = false) : PT X (.Compare a [op, op', op''] [b, c, d] pos) (tChain3 r r' r'' ta tb tc td) := by
  refine ⟨fun pins s σ H Q I h => ?_⟩
  refine isTrue_chain (thn (ha.run pins s σ H _ I h) fun v s1 ⟨x, H1, I1, r1, q1⟩ => test_link (thn (hb.run pins s1 σ H1 _ I1 q1) fun u s2 ⟨y, H2, I2, r2, q2⟩ =>
    thn (ho pins s2 σ H2 x y v u _ I2 r1 r2 q2) fun d s3 ⟨z, H3, I3, r3, k, e, q3⟩ => ?_)) hm
  subst e
  cases r3
  refine wpAny_truthy_bool ?_
  cases k with
  | false => exact ite_ff ⟨H3, I3, q3⟩
  | true =>
    refine ite_tt (test_link (thn (hc.run pins s3 σ H3 _ I3 q3) fun w' s4 ⟨z', H4, I4, r4, q4⟩ => thn (ho' pins s4 σ H4 y z' u w' _ I4 r2 r4 q4) fun d' s5 ⟨z2, H5, I5, r5, k2, e2, q5⟩ => ?_))
    subst e2
    cases r5
    refine wpAny_truthy_bool ?_
    cases k2 with
    | false => exact ite_ff ⟨H5, I5, q5⟩
    | true =>
      refine ite_tt (test_last (thn (hd.run pins s5 σ H5 _ I5 q5) fun w2 s6 ⟨z3, H6, I6, r6, q6⟩ => thn (ho'' pins s6 σ H6 z' z3 w' w2 _ I6 r4 r6 q6) fun d2 s7 ⟨z4, H7, I7, r7, k3, e3, q7⟩ => ?_))
      subst e3
      cases r7
      exact wpAny_truthy_bool ⟨H7, I7, q7⟩
end M

set_option maxHeartbeats 1000000
namespace M
open PySem PySem.Spec L2
/-- a value wanted behind -/
def fin (K : PySem.W.Frag) (S : Sto) (H : Hp) (Q : VK) : Post := fun r S' => ∀ H' z, Evo S H S' H' → Cor K S' H' → RepV K H' r z → Q z H'
def l2 (K : PySem.W.Frag) (f : Val → Val → Sto → Post → Prop) : R2 := fun x y H Q => ∃ v w S, RepV K H v x ∧ RepV K H w y ∧ Cor K S H ∧ f v w S (fin K S H Q)
section
variable {K : PySem.W.Frag} {S : Sto} {H : Hp} {Q : VK}
theorem fin.int {i : Int} (c : Cor K S H) (h : fin K S H Q (.int i) S) : Q (.int i) H := h H _ .refl c (by simp only [RepV])
theorem fin.bl {i : Bool} (c : Cor K S H) (h : fin K S H Q (.bl i) S) : Q (.bl i) H := h H _ .refl c (by simp only [RepV])
theorem fin.str {i : Str} (c : Cor K S H) (h : fin K S H Q (.str i) S) : Q (.str i) H := h H _ .refl c (by simp only [RepV])
theorem fin.non (c : Cor K S H) (h : fin K S H Q .non S) : Q .non H := h H _ .refl c (by simp only [RepV])
theorem fin.tupN {vs : List Val} {xs : List V} {p : Addr} {o : Obj} (c : Cor K S H) (h : fin K S H Q (.tup vs) S) (r : RepVs K H vs xs) (hp : H p = none) (ho : o.dict = none) : Q (.ref p) (upd H p (.frz o (.tup xs))) :=
  h _ _ (.more (upd_keep hp)) (c.more (upd_keep hp)) (by simp only [RepV]; exact ⟨p, xs, rfl, .inl ⟨o, upd_same, ho⟩, RepVs.evo' (fun _ _ h => upd_keep hp _ _ h) (fun _ _ _ h => upd_keep hp _ _ h) _ r⟩)
theorem fin.ptupN {vs : List Val} {xs : List V} {p : Addr} (c : Cor K S H) (h : fin K S H Q (.ptup vs) S) (r : RepVs K H vs xs) (hp : H p = none) : Q (.ref p) (upd H p (.tup xs)) :=
  h _ _ (.tupN hp) (c.tupN hp) (by simp only [RepV]; exact ⟨p, xs, rfl, upd_same, RepVs.evo' (fun _ _ h => upd_keep hp _ _ h) (fun _ _ _ h => upd_keep hp _ _ h) _ r⟩)
theorem fin.lstN {vs : List Val} {xs : List V} {p : Addr} (c : Cor K S H) (h : ∀ p, S p = none → fin K S H Q (.ref p) (S.upd p (.lst vs))) (r : RepVs K H vs xs) (hp : H p = none) : Q (.ref p) (upd H p (.lst xs)) :=
  h p (c.free hp) _ _ (.newO hp) (c.newL hp r) (by simp only [RepV])
end
/-- ints by their sizes -/
theorem mulOk {i j : Int} (h : MulOk i j) : CMulX i j := by unfold MulOk bits at h; unfold CMulX; omega
section
variable {X : Cx}
theorem OpR.imp {f : Value → Value → Sem Value} {r : R2} {pins : List (Addr × Obj)} {s : Shared} {σ : L2.St} {H : Hp} {x y : V} {v u : Value} {Q : VK} (h : OpR X f r) (I : Inv X pins σ H s) (rx : RelV x v) (ry : RelV y u) (q : r x y H Q) :
    wpAny (model X.prog X.w) X.A (f v u) (EP X pins σ Q) X.xe s := h pins s σ H x y v u Q I rx ry q
theorem op_fdivM : OpR X (binaryOp .FloorDiv) (rI DivOk fun i j => .int (idiv i j)) := opI fun i j _ _ _ _ _ hc q => by
  refine PyProof.Rows.floordiv_int hc.1 ?_ (.inl hc.2)
  unfold idiv at q
  split at q
  · rename_i h
    rw [Int.fdiv_eq_ediv_of_nonneg _ (by omega)]; exact q
  · exact q
theorem op_modM : OpR X (binaryOp .Mod) (rI (fun _ j => j ≠ 0) fun i j => .int (imod i j)) := opI fun i j _ _ _ _ _ hc q => by
  refine PyProof.Rows.mod_int' hc ?_
  unfold imod at q
  split at q
  · rename_i h
    rw [Int.fmod_eq_emod_of_nonneg _ (by omega)]; exact q
  · exact q
theorem add_snd : OpR X (binaryOp .Add) (l2 X.K bAdd) := fun pins s σ H x y v u Q I rx ry ⟨a, b, S, ra, rb, c, q⟩ => by
  unfold bAdd at q
  split at q
  · simp only [RepV] at ra rb; subst ra; subst rb
    exact OpR.imp op_add I rx ry ⟨_, _, rfl, rfl, q.int c⟩
  · simp only [RepV] at ra rb; subst ra; subst rb
    exact OpR.imp op_add_ib I rx ry ⟨_, _, rfl, rfl, q.int c⟩
  · simp only [RepV] at ra rb; subst ra; subst rb
    exact OpR.imp op_add_str I rx ry ⟨_, _, rfl, rfl, q.1, q.2.str c⟩
  · simp only [RepV] at ra rb
    obtain ⟨p1, xs1, rfl, t1, r1⟩ := ra
    obtain ⟨p2, xs2, rfl, t2, r2⟩ := rb
    obtain ⟨hl, q⟩ := q
    refine OpR.imp op_catN I rx ry ⟨_, _, _, _, rfl, rfl, t1.sq, t2.sq, by rw [r1.length, r2.length]; exact hl, fun e => ?_, fun _ e => ?_, fun _ _ p o hp ho => q.tupN c (r1.append r2) hp ho⟩
    · refine q H _ .refl c ?_
      simp only [RepV]
      refine ⟨p2, xs2, rfl, t2, ?_⟩
      have := r1.append r2
      rw [e] at this; exact this
    · refine q H _ .refl c ?_
      simp only [RepV]
      refine ⟨p1, xs1, rfl, t1, ?_⟩
      have := r1.append r2
      rw [e, List.append_nil] at this; exact this
  · simp only [RepV] at ra rb; subst ra; subst rb
    obtain ⟨vs, ws, h1, h2, hl, q⟩ := q
    obtain ⟨xs, e1, r1⟩ := c.lst h1
    obtain ⟨ys, e2, r2⟩ := c.lst h2
    exact OpR.imp op_cat I rx ry ⟨_, _, xs, ys, rfl, rfl, e1, e2, by rw [r1.length, r2.length]; exact hl, fun p hp => fin.lstN c q (r1.append r2) hp⟩
  · exact q.elim
theorem addL_snd : OpR X (binaryOp .Add) (l2 X.K lAdd) := fun pins s σ H x y v u Q I rx ry ⟨a, b, S, ra, rb, c, q⟩ => by
  unfold lAdd at q
  split at q
  · simp only [RepV] at ra rb; subst ra; subst rb
    obtain ⟨vs, ws, h1, h2, hl, q⟩ := q
    obtain ⟨xs, e1, r1⟩ := c.rd h1
    obtain ⟨ys, e2, r2⟩ := c.rd h2
    exact OpR.imp op_catL I rx ry ⟨_, _, xs, ys, rfl, rfl, e1, e2, by rw [r1.length, r2.length]; exact hl, fun p hp => fin.lstN c q (r1.append r2) hp⟩
  · exact q.elim
theorem sub_snd : OpR X (binaryOp .Sub) (l2 X.K bSub) := fun pins s σ H x y v u Q I rx ry ⟨a, b, S, ra, rb, c, q⟩ => by
  unfold bSub at q
  split at q
  · simp only [RepV] at ra rb; subst ra; subst rb
    exact OpR.imp op_sub I rx ry ⟨_, _, rfl, rfl, q.int c⟩
  · exact q.elim
theorem mul_snd : OpR X (binaryOp .Mult) (l2 X.K bMul) := fun pins s σ H x y v u Q I rx ry ⟨a, b, S, ra, rb, c, q⟩ => by
  unfold bMul at q
  split at q
  · simp only [RepV] at ra rb; subst ra; subst rb
    exact OpR.imp op_mulX I rx ry ⟨_, _, rfl, rfl, mulOk q.1, q.2.int c⟩
  · simp only [RepV] at ra rb; subst ra; subst rb
    obtain ⟨vs, h1, k1, k2, hl, q⟩ := q
    obtain ⟨xs, e1, r1⟩ := c.lst h1
    exact OpR.imp op_rep I rx ry ⟨_, _, xs, rfl, rfl, e1, k1, k2, by rw [r1.length]; exact hl, fun p hp => fin.lstN c q (r1.rep _) hp⟩
  · rename_i xs j
    simp only [RepV] at ra rb; subst rb
    obtain ⟨p1, xs1, rfl, t1, r1⟩ := ra
    obtain ⟨k1, k2, hl, q⟩ := q
    refine OpR.imp op_mulN I rx ry ⟨_, _, xs1, rfl, rfl, t1.sq, k1, k2, by rw [r1.length]; exact hl, fun e => ?_, fun _ _ p o hp ho => q.tupN c (r1.rep _) hp ho⟩
    refine q H _ .refl c ?_
    simp only [RepV]
    refine ⟨p1, xs1, rfl, t1, ?_⟩
    have z := r1.rep j.toNat
    have : (List.replicate j.toNat xs1).flatten = xs1 := by
      rcases e with e | e
      · rw [e]
        exact List.flatten_eq_nil_iff.mpr fun l hl => (List.mem_replicate.mp hl).2
      · rw [e]; simp
    rw [this] at z
    exact z
  · exact q.elim
theorem shl_ok' {i j : Int} (h : 0 ≤ j ∧ (bits i : Int) + j ≤ 2 ^ 27) : CShl i j := h
theorem bin_snd (op : Operator) : OpR X (binaryOp op) (l2 X.K (wBin op)) := fun pins s σ H x y v u Q I rx ry ⟨a, b, S, ra, rb, c, q⟩ => by
  cases op <;> simp only [wBin] at q
  case Add => exact add_snd pins s σ H x y v u Q I rx ry ⟨a, b, S, ra, rb, c, q⟩
  case Sub => exact sub_snd pins s σ H x y v u Q I rx ry ⟨a, b, S, ra, rb, c, q⟩
  case Mult => exact mul_snd pins s σ H x y v u Q I rx ry ⟨a, b, S, ra, rb, c, q⟩
  case FloorDiv =>
    unfold bDiv at q; split at q
    · simp only [RepV] at ra rb; subst ra; subst rb
      exact OpR.imp op_fdivM I rx ry ⟨_, _, rfl, rfl, q.1, q.2.int c⟩
    · exact q.elim
  case Mod =>
    unfold bMod at q; split at q
    · simp only [RepV] at ra rb; subst ra; subst rb
      exact OpR.imp op_modM I rx ry ⟨_, _, rfl, rfl, q.1, q.2.int c⟩
    · exact q.elim
  case Pow =>
    unfold bPow at q; split at q
    · simp only [RepV] at ra rb; subst ra; subst rb
      exact OpR.imp op_pow I rx ry ⟨_, _, rfl, rfl, q.1, q.2.int c⟩
    · exact q.elim
  case LShift =>
    unfold bShl at q; split at q
    · simp only [RepV] at ra rb; subst ra; subst rb
      exact OpR.imp op_shlW I rx ry ⟨_, _, rfl, rfl, shl_ok' q.1, q.2.int c⟩
    · exact q.elim
  case RShift =>
    unfold bShr at q; split at q
    · simp only [RepV] at ra rb; subst ra; subst rb
      exact OpR.imp op_shr I rx ry ⟨_, _, rfl, rfl, q.1, q.2.int c⟩
    · exact q.elim
  case BitAnd =>
    unfold bAnd at q; split at q
    · simp only [RepV] at ra rb; subst ra; subst rb
      exact OpR.imp op_and I rx ry ⟨_, _, rfl, rfl, q.int c⟩
    · exact q.elim
  case BitXor =>
    unfold bXor at q; split at q
    · simp only [RepV] at ra rb; subst ra; subst rb
      exact OpR.imp op_xor I rx ry ⟨_, _, rfl, rfl, q.int c⟩
    · exact q.elim
  all_goals exact q.elim
mutual
theorem dp_pure (K : PySem.W.Frag) (H : Hp) : ∀ (v : Val) {x : V}, isPure v = true → RepV K H v x → Dp K H x (toD v)
  | .non, _, _, h => by simp only [RepV, toD] at h ⊢; subst h; exact .non
  | .bl b, _, _, h => by simp only [RepV, toD] at h ⊢; subst h; exact .bl b
  | .int i, _, _, h => by simp only [RepV, toD] at h ⊢; subst h; exact .int i
  | .str z, _, _, h => by simp only [RepV, toD] at h ⊢; subst h; exact .str z
  | .ref a, _, p, _ => by simp [isPure] at p
  | .tup vs, _, p, h => by
    simp only [RepV, toD] at h ⊢
    obtain ⟨a, xs, rfl, t, r⟩ := h
    exact .tup t.sq (dps_pure K H vs (by simpa [isPure] using p) r)
  | .ptup vs, _, p, h => by
    simp only [RepV, toD] at h ⊢
    obtain ⟨a, xs, rfl, t, r⟩ := h
    exact .tup (.inl (.inl t)) (dps_pure K H vs (by simpa [isPure] using p) r)
theorem dps_pure (K : PySem.W.Frag) (H : Hp) : ∀ (vs : List Val) {xs : List V}, arePure vs = true → RepVs K H vs xs → DpAll K H xs (toDs vs)
  | [], _, _, h => by simp only [RepVs, toDs] at h ⊢; subst h; exact .nil
  | v :: vs, _, p, h => by
    simp only [RepVs, toDs] at h ⊢
    obtain ⟨y, ys, rfl, a, b⟩ := h
    simp only [arePure, Bool.and_eq_true] at p
    exact .cons (dp_pure K H v p.1 a) (dps_pure K H vs p.2 b)
end
mutual
theorem dp_of {K : PySem.W.Frag} {S : Sto} {H : Hp} (c : Cor K S H) : ∀ {v : Val} {d : PyData} {x : V}, Dv S v d → RepV K H v x → Dp K H x d
  | _, _, _, .non, h => by simp only [RepV] at h; subst h; exact .non
  | _, _, _, .bl b, h => by simp only [RepV] at h; subst h; exact .bl b
  | _, _, _, .int b, h => by simp only [RepV] at h; subst h; exact .int b
  | _, _, _, .str b, h => by simp only [RepV] at h; subst h; exact .str b
  | _, _, _, .tup q, h => by
    simp only [RepV] at h
    obtain ⟨a, xs, rfl, t, r⟩ := h
    exact .tup t.sq (dps_of c q r)
  | _, _, _, .lst l q, h => by
    simp only [RepV] at h; subst h
    obtain ⟨xs, e, r⟩ := c.rd l
    exact .lst e (dps_of c q r)
  | _, _, _, .ptup q, h => by
    simp only [RepV] at h
    obtain ⟨a, xs, rfl, t, r⟩ := h
    exact .tup (.inl (.inl t)) (dps_of c q r)
theorem dps_of {K : PySem.W.Frag} {S : Sto} {H : Hp} (c : Cor K S H) : ∀ {vs : List Val} {ds : List PyData} {xs : List V}, DvAll S vs ds → RepVs K H vs xs → DpAll K H xs ds
  | _, _, _, .nil, h => by simp only [RepVs] at h; subst h; exact .nil
  | _, _, _, .cons a b, h => by
    simp only [RepVs] at h
    obtain ⟨y, ys, rfl, p, q⟩ := h
    exact .cons (dp_of c a p) (dps_of c b q)
end
theorem eq_snd (hu : X.A.units + 64 < cLine) : OpR X (compareOp .Eq) (l2 X.K (cEq false)) := fun pins s σ H x y v u Q I rx ry ⟨a, b, S, ra, rb, c, q⟩ => by
  unfold cEq at q
  split at q
  · rename_i hd
    simp only [okD, Bool.and_eq_true] at hd
    exact OpR.imp (op_eqD hu) I rx ry ⟨_, _, dp_pure _ _ _ hd.1.1 ra, dp_pure _ _ _ hd.2.1 rb, hd.1.2, hd.2.2, by simpa using q.bl c⟩
  · rcases q with ⟨z1, z2, rfl, rfl, q⟩ | ⟨d, e, h1, h2, h3, h4, q⟩
    · simp only [RepV] at ra rb; subst ra; subst rb
      exact OpR.imp op_eq I rx ry ⟨rfl, by simpa using q.bl c⟩
    exact OpR.imp (op_eqD hu) I rx ry ⟨_, _, dp_of c h1 ra, dp_of c h2 rb, h3, h4, by simpa using q.bl c⟩
theorem ne_snd (hu : X.A.units + 64 < cLine) : OpR X (compareOp .NotEq) (l2 X.K (cEq true)) := fun pins s σ H x y v u Q I rx ry ⟨a, b, S, ra, rb, c, q⟩ => by
  unfold cEq at q
  split at q
  · rename_i hd
    simp only [okD, Bool.and_eq_true] at hd
    exact OpR.imp (op_neD hu) I rx ry ⟨_, _, dp_pure _ _ _ hd.1.1 ra, dp_pure _ _ _ hd.2.1 rb, hd.1.2, hd.2.2, by simpa using q.bl c⟩
  · rcases q with ⟨z1, z2, rfl, rfl, q⟩ | ⟨d, e, h1, h2, h3, h4, q⟩
    · simp only [RepV] at ra rb; subst ra; subst rb
      exact OpR.imp op_ne I rx ry ⟨rfl, by simpa using q.bl c⟩
    exact OpR.imp (op_neD hu) I rx ry ⟨_, _, dp_of c h1 ra, dp_of c h2 rb, h3, h4, by simpa using q.bl c⟩
theorem cint_snd {op : CmpOp} {f : Int → Int → Bool} (h : OpR X (compareOp op) (rI0 fun i j => .bl (f i j))) : OpR X (compareOp op) (l2 X.K (cInt f)) := fun pins s σ H x y v u Q I rx ry ⟨a, b, S, ra, rb, c, q⟩ => by
  unfold cInt at q
  split at q
  · simp only [RepV] at ra rb; subst ra; subst rb
    exact OpR.imp h I rx ry ⟨_, _, rfl, rfl, q.bl c⟩
  · exact q.elim
theorem flat_rep {K : PySem.W.Frag} {H : Hp} {v : Val} {x : V} (f : flat v = true) (r : RepV K H v x) : flatV x = true := by
  cases v <;> simp only [flat, RepV] at f r <;> first | (subst r; rfl) | cases f
theorem flats_rep {K : PySem.W.Frag} {H : Hp} : ∀ {vs : List Val} {xs : List V}, vs.all flat = true → RepVs K H vs xs → xs.all flatV = true
  | [], _, _, r => by simp only [RepVs] at r; subst r; rfl
  | v :: vs, _, f, r => by
    simp only [RepVs] at r
    obtain ⟨y, ys, rfl, a, b⟩ := r
    simp only [List.all_cons, Bool.and_eq_true] at f ⊢
    exact ⟨flat_rep f.1 a, flats_rep f.2 b⟩
theorem eqV_rep {K : PySem.W.Frag} {H : Hp} {v w : Val} {x y : V} (f : flat v = true) (g : flat w = true) (r : RepV K H v x) (q : RepV K H w y) : eqV x y = PyData.eqv (toD v) (toD w) := by
  cases v <;> simp only [flat, RepV] at f r <;> (first | cases f | skip) <;> subst r <;> cases w <;> simp only [flat, RepV] at g q <;> (first | cases g | skip) <;> subst q <;> simp [eqV, toD, PyData.eqv] <;> first | rfl | exact Bool.eq_iff_iff.mpr (by simp) | skip
theorem inV_rep {K : PySem.W.Frag} {H : Hp} {v : Val} {x : V} (f : flat v = true) (r : RepV K H v x) : ∀ {vs : List Val} {xs : List V}, vs.all flat = true → RepVs K H vs xs → inV x xs = (toDs vs).any fun z => PyData.eqv z (toD v)
  | [], _, _, q => by simp only [RepVs] at q; subst q; rfl
  | w :: vs, _, g, q => by
    simp only [RepVs] at q
    obtain ⟨y, ys, rfl, a, b⟩ := q
    simp only [List.all_cons, Bool.and_eq_true] at g
    have ih := inV_rep f r g.2 b
    unfold inV at ih ⊢
    rw [List.any_cons, toDs, List.any_cons, ih, eqV_rep g.1 f a r]
theorem in_snd (hu : X.A.units + 65 < cLine) : OpR X (compareOp .In) (l2 X.K (cIn false)) := fun pins s σ H x y v u Q I rx ry ⟨a, b, S, ra, rb, c, q⟩ => by
  unfold cIn at q
  split at q
  · simp only [RepV] at rb; subst rb
    obtain ⟨xs, d, ds, hs, h1, h2, h3, h4, q⟩ := q
    exact OpR.imp (op_inD hu) I rx ry ⟨d, ds, dp_of c h1 ra, dp_of c (.lst hs h2) (by simp only [RepV]), h3, h4, by simpa using q.bl c⟩
  · simp only [RepV] at rb
    obtain ⟨p, xs, rfl, t, r⟩ := rb
    obtain ⟨f, g, q⟩ := q
    refine OpR.imp op_in_seq I rx ry ⟨p, xs, rfl, .inr t.sq, flat_rep f ra, flats_rep g r, ?_⟩
    have := q.bl c
    rw [← inV_rep f ra g r] at this
    simpa using this
  · exact q.elim
theorem notIn_snd (hu : X.A.units + 65 < cLine) : OpR X (compareOp .NotIn) (l2 X.K (cIn true)) := fun pins s σ H x y v u Q I rx ry ⟨a, b, S, ra, rb, c, q⟩ => by
  unfold cIn at q
  split at q
  · simp only [RepV] at rb; subst rb
    obtain ⟨xs, d, ds, hs, h1, h2, h3, h4, q⟩ := q
    exact OpR.imp (op_notInD hu) I rx ry ⟨d, ds, dp_of c h1 ra, dp_of c (.lst hs h2) (by simp only [RepV]), h3, h4, by simpa using q.bl c⟩
  · simp only [RepV] at rb
    obtain ⟨p, xs, rfl, t, r⟩ := rb
    obtain ⟨f, g, q⟩ := q
    refine OpR.imp op_notIn_seq I rx ry ⟨p, xs, rfl, .inr t.sq, flat_rep f ra, flats_rep g r, ?_⟩
    have := q.bl c
    rw [← inV_rep f ra g r] at this
    simpa using this
  · exact q.elim
theorem isN_rep {K : PySem.W.Frag} {H : Hp} {v : Val} {x : V} (r : RepV K H v x) : decide (x = .non) = isNon v := by
  cases v <;> simp only [RepV] at r <;> (first | (subst r; rfl) | (obtain ⟨p, xs, rfl, _⟩ := r; rfl)| (obtain ⟨p, xs, rfl, _⟩ := r; rfl))
theorem is_snd : OpR X (compareOp .Is) (l2 X.K (cIs false)) := fun pins s σ H x y v u Q I rx ry ⟨a, b, S, ra, rb, c, q⟩ => by
  unfold cIs at q
  split at q
  · simp only [RepV] at rb; subst rb
    refine OpR.imp op_isN I rx ry ⟨rfl, ?_⟩
    have := q.bl c
    rw [isN_rep ra]; simpa using this
  · simp only [RepV] at ra rb; subst ra; subst rb
    exact OpR.imp op_isBl I rx ry ⟨_, _, rfl, rfl, by simpa using q.bl c⟩
  · exact q.elim
theorem isnot_snd : OpR X (compareOp .IsNot) (l2 X.K (cIs true)) := fun pins s σ H x y v u Q I rx ry ⟨a, b, S, ra, rb, c, q⟩ => by
  unfold cIs at q
  split at q
  · simp only [RepV] at rb; subst rb
    refine OpR.imp op_notN I rx ry ⟨rfl, ?_⟩
    have := q.bl c
    rw [isN_rep ra]; simpa using this
  · simp only [RepV] at ra rb; subst ra; subst rb
    exact OpR.imp op_notBl I rx ry ⟨_, _, rfl, rfl, by simpa using q.bl c⟩
  · exact q.elim
theorem cmp_snd (hu : X.A.units + 65 < cLine) (op : CmpOp) : OpR X (compareOp op) (l2 X.K (wCmp op)) := by
  cases op <;> simp only [wCmp]
  · exact eq_snd (by omega)
  · exact ne_snd (by omega)
  · exact cint_snd op_lt
  · exact cint_snd op_le
  · exact cint_snd op_gt
  · exact cint_snd op_ge
  · exact is_snd
  · exact isnot_snd
  · exact in_snd hu
  · exact notIn_snd hu
theorem tru_snd : TruR X (fun x H Q => ∃ v S, RepV X.K H v x ∧ Cor X.K S H ∧ wTru v S (fun b S' => ∀ H', Evo S H S' H' → Cor X.K S' H' → Q b H')) := fun pins s σ H x v Q I rx ⟨a, S, ra, c, q⟩ => by
  refine tru_ok pins s σ H x v Q I rx ?_
  unfold wTru at q
  split at q
  · simp only [RepV] at ra; subst ra
    exact ⟨_, rfl, q H .refl c⟩
  · simp only [RepV] at ra; subst ra
    exact ⟨_, rfl, q H .refl c⟩
  · simp only [RepV] at ra; subst ra
    exact ⟨_, rfl, q H .refl c⟩
  · simp only [RepV] at ra
    obtain ⟨p, xs, rfl, t, r⟩ := ra
    refine ⟨_, .inr (.inl ⟨xs, t.sq, rfl⟩), ?_⟩
    have e : xs.isEmpty = (‹List Val›).isEmpty := by
      have := r.length
      cases xs <;> cases ‹List Val› <;> simp_all
    rw [e]; exact q H .refl c
  · simp only [RepV] at ra; subst ra
    obtain ⟨vs, l, q⟩ := q
    obtain ⟨xs, e, r⟩ := c.rd l
    refine ⟨_, .inl ⟨xs, e, rfl⟩, ?_⟩
    have e : xs.isEmpty = vs.isEmpty := by
      have := r.length
      cases xs <;> cases vs <;> simp_all
    rw [e]; exact q H .refl c
  · exact q.elim
theorem ix_snd : IxR X (l2 X.K vIx) := fun e1 e2 pins s σ H x y v u Q I rx ry ⟨a, b, S, ra, rb, c, q⟩ hs => by
  refine ix_seq e1 e2 pins s σ H x y v u Q I rx ry ?_ hs
  unfold vIx at q
  split at q
  · simp only [RepV] at ra rb; subst rb
    obtain ⟨p, xs, rfl, t, r⟩ := ra
    obtain ⟨w, e, q⟩ := q
    obtain ⟨z, e', rz⟩ := r.atI e
    exact .inr (.inl ⟨p, xs, _, z, rfl, rfl, t.sq, e', q H z .refl c rz⟩)
  · simp only [RepV] at ra rb; subst ra; subst rb
    obtain ⟨vs, w, l, e, q⟩ := q
    obtain ⟨xs, t, r⟩ := c.rd l
    obtain ⟨z, e', rz⟩ := r.atI e
    exact .inl ⟨_, xs, _, z, rfl, rfl, t, e', q H z .refl c rz⟩
  · simp only [RepV] at ra rb; subst ra; subst rb
    obtain ⟨w, h, e, q⟩ := q
    exact .inr (.inr ⟨_, _, w, rfl, rfl, h, e, q.str c⟩)
  · simp only [RepV] at ra rb; subst rb
    obtain ⟨p, xs, rfl, t, r⟩ := ra
    obtain ⟨w, e, q⟩ := q
    obtain ⟨z, e', rz⟩ := r.atI e
    exact .inr (.inl ⟨p, xs, _, z, rfl, rfl, .inl (.inl t), e', q H z .refl c rz⟩)
  · exact q.elim
theorem cut_whole {K : PySem.W.Frag} {H : Hp} {vs : List Val} {xs : List V} {lo hi : Option Int} (r : RepVs K H vs xs) (h1 : HT.sIx xs.length 0 lo = 0) (h2 : HT.sIx xs.length xs.length hi = xs.length) : RepVs K H (M.cut vs lo hi) xs := by
  have := r.cut lo hi
  unfold cutV at this
  rw [h1, h2, List.drop_zero, Nat.sub_zero, List.take_length] at this
  exact this
def lS3 (K : PySem.W.Frag) : V → Option Int → Option Int → Hp → VK → Prop := fun x lo hi H Q => ∃ v S, RepV K H v x ∧ Cor K S H ∧ vSl v lo hi S (fin K S H Q)
theorem sl_snd : L2.SlR X (lS3 X.K) := fun pins s σ H x v vl vu lo hi sl Q I rx hs pl pu ⟨a, S, ra, c, q⟩ => by
  refine (sl_list.or (sl_tupN.or sl_str)) pins s σ H x v vl vu lo hi sl Q I rx hs pl pu ?_
  unfold vSl at q
  split at q
  · simp only [RepV] at ra
    obtain ⟨p, xs, rfl, t, r⟩ := ra
    refine .inr (.inl ⟨p, xs, rfl, t.sq, fun ⟨h1, h2⟩ => ?_, fun _ p o hp ho => q.tupN c (r.cut _ _) hp ho⟩)
    refine q H _ .refl c ?_
    simp only [RepV]
    refine ⟨p, xs, rfl, t, ?_⟩
    exact cut_whole r h1 h2
  · simp only [RepV] at ra; subst ra
    obtain ⟨vs, l, q⟩ := q
    obtain ⟨xs, t, r⟩ := c.rd l
    exact .inl ⟨_, xs, rfl, t, fun p hp => fin.lstN c q (r.cut _ _) hp⟩
  · simp only [RepV] at ra; subst ra
    exact .inr (.inr ⟨_, rfl, q.1, q.2.str c⟩)
  · exact q.elim
end
end M

set_option maxHeartbeats 1000000
namespace M
open PySem PySem.Spec L2
theorem lexL_app : ∀ {as bs cs ds : List Int}, as.length = bs.length → lexL (as ++ cs) (bs ++ ds) = (lexL as bs || (decide (as = bs) && lexL cs ds))
  | [], [], _, _, _ => by simp [lexL]
  | a :: as, b :: bs, cs, ds, h => by
    have := lexL_app (as := as) (bs := bs) (cs := cs) (ds := ds) (by simpa using h)
    simp only [List.cons_append, lexL, this, List.cons.injEq]
    by_cases e : a = b
    · subst e; simp
    · simp [e]
  | [], _ :: _, _, _, h => by simp at h
  | _ :: _, [], _, _, h => by simp at h
theorem lexL_refl : ∀ (as : List Int), lexL as as = false
  | [] => rfl
  | a :: as => by simp [lexL, lexL_refl as]
theorem lexL_asym : ∀ {as bs : List Int}, lexL as bs = true → lexL bs as = false
  | [], [], h => by simp [lexL] at h
  | [], _ :: _, _ => rfl
  | _ :: _, [], h => by simp [lexL] at h
  | a :: as, b :: bs, h => by
    simp only [lexL, Bool.or_eq_true, decide_eq_true_eq, Bool.and_eq_true, Bool.or_eq_false_iff, decide_eq_false_iff_not, Bool.and_eq_false_iff] at *
    rcases h with h | ⟨h, h2⟩
    · exact ⟨by omega, .inl (by omega)⟩
    · exact ⟨by omega, .inr (lexL_asym h2)⟩
theorem lexL_tri : ∀ {as bs : List Int}, lexL as bs = false → lexL bs as = false → as = bs
  | [], [], _, _ => rfl
  | [], _ :: _, h, _ => by simp [lexL] at h
  | _ :: _, [], _, h => by simp [lexL] at h
  | a :: as, b :: bs, h, h' => by
    simp only [lexL, Bool.or_eq_false_iff, decide_eq_false_iff_not, Bool.and_eq_false_iff] at *
    have e : a = b := by omega
    subst e
    rw [lexL_tri (h.2.resolve_left (by simp)) (h'.2.resolve_left (by simp))]
theorem lexL_trans : ∀ {as bs cs : List Int}, lexL as bs = true → lexL bs cs = true → lexL as cs = true
  | [], [], _, h, _ => by simp [lexL] at h
  | [], _ :: _, [], _, h => by simp [lexL] at h
  | [], _ :: _, _ :: _, _, _ => rfl
  | _ :: _, [], _, h, _ => by simp [lexL] at h
  | _ :: _, _ :: _, [], _, h => by simp [lexL] at h
  | a :: as, b :: bs, c :: cs, h, h' => by
    simp only [lexL, Bool.or_eq_true, decide_eq_true_eq, Bool.and_eq_true] at *
    rcases h with h | ⟨h, h2⟩ <;> rcases h' with h' | ⟨h', h3⟩
    · exact .inl (by omega)
    · exact .inl (by omega)
    · exact .inl (by omega)
    · exact .inr ⟨by omega, lexL_trans h2 h3⟩
theorem lexL_swo {α : Type} (f : α → List Int) : SrtO.Swo fun x y => lexL (f x) (f y) := by
  refine ⟨fun x y h => lexL_asym h, fun x y z h1 h2 => ?_⟩
  cases h : lexL (f z) (f x) with
  | false => rfl
  | true =>
    cases h3 : lexL (f x) (f y) with
    | true => rw [lexL_trans h h3] at h2; cases h2
    | false =>
      have := lexL_tri h3 h1
      rw [this, h2] at h; cases h
mutual
theorem shV_len : ∀ (v w : Val), shV v w = true → (flV v).length = (flV w).length
  | .int _, w, h => by cases w <;> simp [shV, flV] at h ⊢
  | .tup xs, w, h => by cases w <;> simp only [shV, flV, Bool.false_eq_true] at h ⊢; exact shVs_len xs _ h
  | .ptup xs, w, h => by cases w <;> simp only [shV, flV, Bool.false_eq_true] at h ⊢; exact shVs_len xs _ h
  | .non, w, h => by simp [shV] at h
  | .bl _, w, h => by simp [shV] at h
  | .str _, w, h => by simp [shV] at h
  | .ref _, w, h => by simp [shV] at h
theorem shVs_len : ∀ (xs ys : List Val), shVs xs ys = true → (flVs xs).length = (flVs ys).length
  | [], ys, h => by cases ys <;> simp [shVs, flVs] at h ⊢
  | x :: xs, ys, h => by
    cases ys with
    | nil => simp [shVs] at h
    | cons y ys =>
      simp only [shVs, Bool.and_eq_true] at h
      simp only [flVs, List.length_append]
      rw [shV_len x y h.1, shVs_len xs ys h.2]
end
theorem shVs_len' : ∀ (xs ys : List Val), shVs xs ys = true → xs.length = ys.length
  | [], ys, h => by cases ys <;> simp [shVs] at h ⊢
  | x :: xs, ys, h => by
    cases ys with
    | nil => simp [shVs] at h
    | cons y ys => simp only [shVs, Bool.and_eq_true] at h; simp [shVs_len' xs ys h.2]
mutual
theorem eqv_sh : ∀ (v w : Val), shV v w = true → PyData.eqv (toD v) (toD w) = decide (flV v = flV w)
  | .int i, w, h => by
    cases w <;> simp [shV] at h
    simp [toD, flV, PyData.eqv]
    try rfl
  | .tup xs, w, h => by
    cases w <;> simp only [shV, Bool.false_eq_true] at h
    simp only [toD, flV, PyData.eqv]
    exact eqv_shs xs _ h
  | .ptup xs, w, h => by
    cases w <;> simp only [shV, Bool.false_eq_true] at h
    simp only [toD, flV, PyData.eqv]
    exact eqv_shs xs _ h
  | .non, w, h => by simp [shV] at h
  | .bl _, w, h => by simp [shV] at h
  | .str _, w, h => by simp [shV] at h
  | .ref _, w, h => by simp [shV] at h
theorem eqv_shs : ∀ (xs ys : List Val), shVs xs ys = true → PyData.eqvAll (toDs xs) (toDs ys) = decide (flVs xs = flVs ys)
  | [], ys, h => by cases ys <;> simp [shVs, flVs, toDs, PyData.eqvAll] at h ⊢
  | x :: xs, ys, h => by
    cases ys with
    | nil => simp [shVs] at h
    | cons y ys =>
      simp only [shVs, Bool.and_eq_true] at h
      have e1 : PyData.eqvAll (toDs (x :: xs)) (toDs (y :: ys)) = (decide (flV x = flV y) && decide (flVs xs = flVs ys)) := by
        simp only [toDs, PyData.eqvAll]
        rw [eqv_sh x y h.1, eqv_shs xs ys h.2]
      rw [e1]
      have := shV_len x y h.1
      have e2 : (flVs (x :: xs) = flVs (y :: ys)) ↔ (flV x = flV y ∧ flVs xs = flVs ys) := by
        simp only [flVs]
        exact ⟨fun e => List.append_inj e this, fun ⟨a, b⟩ => by rw [a, b]⟩
      rw [Bool.eq_iff_iff]
      simp only [Bool.and_eq_true, decide_eq_true_eq]
      exact e2.symm
end

theorem lexAt_flVs {e r : Nat → Bool} : ∀ (k i : Nat) (xs ys : List Val), shVs xs ys = true → xs.length = k → (∀ j x y, xs[j]? = some x → ys[j]? = some y → e (i + j) = decide (flV x = flV y) ∧ r (i + j) = lexL (flV x) (flV y)) →
    Ob.lexAt e r false i k = lexL (flVs xs) (flVs ys)
  | 0, i, xs, ys, h, hl, _ => by
    have : xs = [] := List.eq_nil_of_length_eq_zero hl
    subst this
    cases ys <;> simp [shVs] at h
    simp [Ob.lexAt_zero, flVs, lexL]
  | k + 1, i, xs, ys, h, hl, hj => by
    cases xs with
    | nil => simp at hl
    | cons x xs =>
      cases ys with
      | nil => simp [shVs] at h
      | cons y ys =>
        simp only [shVs, Bool.and_eq_true] at h
        have h0 := hj 0 x y rfl rfl
        simp only [Nat.add_zero] at h0
        rw [Ob.lexAt_succ, h0.1, h0.2]
        simp only [flVs]
        rw [lexL_app (shV_len x y h.1)]
        have ih := lexAt_flVs (e := e) (r := r) k (i + 1) xs ys h.2 (by simpa using hl) (fun j a b ha hb => by
          have := hj (j + 1) a b (by simpa using ha) (by simpa using hb)
          rw [show i + 1 + j = i + (j + 1) by omega]; exact this)
        by_cases eq : flV x = flV y
        · simp only [eq, decide_true, if_true, Bool.true_and, lexL_refl, Bool.false_or]; exact ih
        · simp [eq]
theorem reads_get {h : Heap} : ∀ {us : List Value} {xs : List Val} {as : List Addr}, ReadsAll h us (toDs xs) as → ∀ {j : Nat} {x : Val}, xs[j]? = some x → ∃ u bs, us[j]? = some u ∧ Reads h u (toD x) bs
  | _, [], _, _, _, _, e => by simp at e
  | us, x :: xs, as, h, j, y, e => by
    simp only [toDs] at h
    cases h with
    | cons a b =>
      cases j with
      | zero => simp only [List.getElem?_cons_zero, Option.some.injEq] at e; subst e; exact ⟨_, _, rfl, a⟩
      | succ j => simp only [List.getElem?_cons_succ] at e ⊢; exact reads_get b e
theorem reads_len {h : Heap} : ∀ {us : List Value} {xs : List Val} {as : List Addr}, ReadsAll h us (toDs xs) as → us.length = xs.length
  | us, [], _, h => by simp only [toDs] at h; cases h; rfl
  | us, x :: xs, as, h => by
    simp only [toDs] at h
    cases h with
    | cons a b => simp [reads_len b]
mutual
def dpV : Val → Nat
  | .tup xs => dpVs xs + 1
  | .ptup xs => dpVs xs + 1
  | _ => 0
def dpVs : List Val → Nat
  | [] => 0
  | v :: vs => max (dpV v) (dpVs vs)
end
theorem dpVs_le {x : Val} : ∀ {xs : List Val}, x ∈ xs → dpV x ≤ dpVs xs
  | y :: ys, h => by
    simp only [dpVs]
    rcases List.mem_cons.mp h with rfl | h
    · omega
    · have := dpVs_le h; omega
mutual
theorem shV_data : ∀ (v w : Val), shV v w = true → (toD v).canLay0 = true ∧ (toD v).depth ≤ dpV v
  | .int _, w, h => by simp [toD, PyData.canLay0, PyData.depth, dpV]
  | .tup xs, w, h => by
    cases w <;> simp only [shV, Bool.false_eq_true] at h
    have := shVs_data xs _ h
    simp only [toD, PyData.canLay0, PyData.depth, dpV]
    exact ⟨this.1, by omega⟩
  | .ptup xs, w, h => by
    cases w <;> simp only [shV, Bool.false_eq_true] at h
    have := shVs_data xs _ h
    simp only [toD, PyData.canLay0, PyData.depth, dpV]
    exact ⟨this.1, by omega⟩
  | .non, w, h => by simp [shV] at h
  | .bl _, w, h => by simp [shV] at h
  | .str _, w, h => by simp [shV] at h
  | .ref _, w, h => by simp [shV] at h
theorem shVs_data : ∀ (xs ys : List Val), shVs xs ys = true → PyData.canLayAll0 (toDs xs) = true ∧ PyData.depthAll (toDs xs) ≤ dpVs xs
  | [], ys, h => by simp [toDs, PyData.canLayAll0, PyData.depthAll, dpVs]
  | x :: xs, ys, h => by
    cases ys with
    | nil => simp [shVs] at h
    | cons y ys =>
      simp only [shVs, Bool.and_eq_true] at h
      have h1 := shV_data x y h.1
      have h2 := shVs_data xs ys h.2
      simp only [toDs, PyData.canLayAll0, PyData.depthAll, dpVs, Bool.and_eq_true]
      exact ⟨⟨h1.1, h2.1⟩, by omega⟩
end
mutual
theorem shV_symm : ∀ (v w : Val), shV v w = true → shV w v = true
  | .int _, w, h => by cases w <;> simp [shV] at h ⊢
  | .tup xs, w, h => by cases w <;> simp only [shV, Bool.false_eq_true] at h ⊢; exact shVs_symm xs _ h
  | .ptup xs, w, h => by cases w <;> simp only [shV, Bool.false_eq_true] at h ⊢; exact shVs_symm xs _ h
  | .non, w, h => by simp [shV] at h
  | .bl _, w, h => by simp [shV] at h
  | .str _, w, h => by simp [shV] at h
  | .ref _, w, h => by simp [shV] at h
theorem shVs_symm : ∀ (xs ys : List Val), shVs xs ys = true → shVs ys xs = true
  | [], ys, h => by cases ys <;> simp [shVs] at h ⊢
  | x :: xs, ys, h => by
    cases ys with
    | nil => simp [shVs] at h
    | cons y ys =>
      simp only [shVs, Bool.and_eq_true] at h ⊢
      exact ⟨shV_symm x y h.1, shVs_symm xs ys h.2⟩
end
theorem shVs_at : ∀ {xs ys : List Val}, shVs xs ys = true → ∀ {j : Nat} {x y : Val}, xs[j]? = some x → ys[j]? = some y → shV x y = true
  | [], _, _, _, _, _, e, _ => by simp at e
  | a :: xs, [], h, _, _, _, _, _ => by simp [shVs] at h
  | a :: xs, b :: ys, h, j, x, y, e, e' => by
    simp only [shVs, Bool.and_eq_true] at h
    cases j with
    | zero => simp only [List.getElem?_cons_zero, Option.some.injEq] at e e'; subst e; subst e'; exact h.1
    | succ j => simp only [List.getElem?_cons_succ] at e e'; exact shVs_at h.2 e e'
theorem sh_eqAt {A : Around} {s : Shared} {v w : Val} {u x : Value} {as bs : List Addr} (h : shV v w = true) (r : Reads s.heap u (toD v) as) (r' : Reads s.heap x (toD w) bs) (hu : A.units + dpV v < cLine) : SeqAt.EqAt A s u x (decide (flV v = flV w)) := by
  rw [← eqv_sh v w h]
  have d1 := shV_data v w h
  have d2 := shV_data w v (shV_symm v w h)
  exact SeqAt.eqAt_reads _ _ A s u x as bs r r' d1.1 d2.1 (by omega)
theorem rcV : ∀ (n : Nat) (v w : Val), dpV v ≤ n → shV v w = true → ∀ {A : Around} {s : Shared} {u x : Value} {as bs : List Addr}, Reads s.heap u (toD v) as → Reads s.heap x (toD w) bs → A.units + n < cLine → Ob.RcOp .Lt A s u x (lexL (flV v) (flV w)) := by
  intro n
  induction n with
  | zero =>
    intro v w hn h A s u x as bs r r' hu
    cases v <;> simp only [dpV] at hn <;> try omega
    all_goals cases w <;> simp [shV] at h
    rename_i i j
    simp only [toD] at r r'
    cases r; cases r'
    simp only [flV]
    have e : lexL [i] [j] = decide (i < j) := by simp [lexL]
    rw [e]; exact Ob.RcOp.lt_int (A := A) (s := s) i j _ _
  | succ n ih =>
    intro v w hn h A s u x as bs r r' hu
    have tup : ∀ xs ys : List Val, dpVs xs ≤ n → shVs xs ys = true → Reads s.heap u (.tuple (toDs xs)) as → Reads s.heap x (.tuple (toDs ys)) bs → Ob.RcOp .Lt A s u x (lexL (flVs xs) (flVs ys)) := by
      intro xs ys hd hs r r'
      cases r with
      | tuple g1 g2 g3 ra =>
      cases r' with
      | tuple g1' g2' g3' rb =>
      rename_i a o vs m b o' ws m'
      have la := reads_len ra
      have lb := reads_len rb
      have lxy := shVs_len' xs ys hs
      have := Ob.RcOp.tuples_lt (A := A) (s := s) (l := a) (b := b) (items := vs) (items2 := ws) (e := fun j => decide (flV (xs.getD j .non) = flV (ys.getD j .non))) (r := fun j => lexL (flV (xs.getD j .non)) (flV (ys.getD j .non)))
        ⟨o, g1, g2, m, g3⟩ ⟨o', g1', g2', m', g3'⟩ (by omega) ?_ ?_
      · rw [Array.length_toList] at la lb
        have ez : decide (vs.size < ws.size) = false := by rw [decide_eq_false_iff_not]; omega
        rw [ez, show min vs.size ws.size = xs.length by omega] at this
        rw [lexAt_flVs xs.length 0 xs ys hs rfl (fun j p q hp hq => by
          simp only [Nat.zero_add, List.getD_eq_getElem?_getD, hp, hq, Option.getD_some]; exact ⟨trivial, trivial⟩)] at this
        exact this
      all_goals
        intro j h1 h2
        have hx : j < xs.length := by rw [← la]; exact h1
        have hy : j < ys.length := by rw [← lb]; exact h2
        obtain ⟨p, cs, e1, rp⟩ := reads_get ra (List.getElem?_eq_getElem hx)
        obtain ⟨q, ds, e2, rq⟩ := reads_get rb (List.getElem?_eq_getElem hy)
        have e1' : vs[j] = p := by
          rw [Array.getElem?_toList, Array.getElem?_eq_getElem h1] at e1
          exact Option.some.inj e1
        have e2' : ws[j] = q := by
          rw [Array.getElem?_toList, Array.getElem?_eq_getElem h2] at e2
          exact Option.some.inj e2
        have hsh := shVs_at hs (List.getElem?_eq_getElem hx) (List.getElem?_eq_getElem hy)
        have hdp := dpVs_le (List.getElem_mem hx)
        simp only [List.getD_eq_getElem?_getD, List.getElem?_eq_getElem hx, List.getElem?_eq_getElem hy, Option.getD_some]
        rw [e1', e2']
      · exact sh_eqAt hsh rp rq (by show A.units + 1 + _ < _; omega)
      · exact fun _ => ih _ _ (by omega) hsh rp rq (by show A.units + 1 + n < _; omega)
    cases v <;> simp only [dpV] at hn
    case int i =>
      cases w <;> simp [shV] at h
      exact ih (.int i) _ (by simp [dpV]) (by simp [shV]) r r' (by omega)
    case tup xs =>
      cases w <;> simp only [shV, Bool.false_eq_true] at h
      simp only [toD] at r r'
      simp only [flV]
      exact tup xs _ (by omega) h r r'
    case ptup xs =>
      cases w <;> simp only [shV, Bool.false_eq_true] at h
      simp only [toD] at r r'
      simp only [flV]
      exact tup xs _ (by omega) h r r'
    all_goals simp [shV] at h

/-- the sort's comparing of two items -/
theorem katlex {prog : Program} {w : World} {A : Around} {s : Shared} {Q : Bool → Shared → Prop} (hu : A.units + 70 < cLine) : ∀ {xs ys : List Val} {us ws : List Value} {as bs : List Addr} {i : Nat}, shVs xs ys = true → dpVs xs ≤ 64 → ReadsAll s.heap us (toDs xs) as → ReadsAll s.heap ws (toDs ys) bs →
    (i = 0 → ∃ k r, xs = .int k :: r) → Q (lexL (flVs xs) (flVs ys)) s → PySem.W.KatLex prog w A true false Q (us.zip ws) i s
  | [], ys, us, ws, as, bs, i, h, hd, r, r', h0, q => by
    cases ys with
    | cons y ys => simp [shVs] at h
    | nil =>
      have := reads_len r
      have : us = [] := List.eq_nil_of_length_eq_zero this
      subst this
      rw [List.zip_nil_left]
      unfold PySem.W.KatLex
      simpa only [flVs, lexL] using q
  | x :: xs, ys, us, ws, as, bs, i, h, hd, r, r', h0, q => by
    cases ys with
    | nil => simp [shVs] at h
    | cons y ys =>
      simp only [shVs, Bool.and_eq_true] at h
      simp only [toDs] at r r'
      cases r with
      | cons ra rr =>
      cases r' with
      | cons rb rr' =>
      rename_i p us as1 as2 z ws bs1 bs2
      simp only [dpVs] at hd
      simp only [List.zip_cons_cons]
      unfold PySem.W.KatLex
      refine sh_eqAt h.1 ra rb (by omega) prog w _ _ ?_
      simp only [flVs] at q
      rw [lexL_app (shV_len x y h.1)] at q
      by_cases e : flV x = flV y
      · simp only [e, decide_true, if_true]
        simp only [e, lexL_refl, decide_true, Bool.true_and, Bool.false_or] at q
        exact katlex hu (i := i + 1) h.2 (by omega) rr rr' (fun z => by omega) q
      · simp only [e, decide_false, Bool.false_eq_true, if_false]
        simp only [e, decide_false, Bool.false_and, Bool.or_false] at q
        by_cases hi : i = 0
        · obtain ⟨k, r, e2⟩ := h0 hi
          cases e2
          cases y <;> simp [shV] at h
          simp only [toD] at ra rb
          cases ra; cases rb
          refine TS.oneLt_ints _ ?_
          simp only [flV] at q
          rename_i j _ _
          rw [show lexL [k] [j] = decide (k < j) by simp [lexL]] at q
          exact q
        · have e0 : (true && i == 0) = false := by simp [hi]
          rw [e0, PyProof.Rows.oneLt'_eq]
          simp only [Bool.false_eq_true, if_false]
          refine wpAny_bind (rcV 64 x y (by omega) h.1 ra rb (by omega) prog w _ _ ?_)
          unfold truthOfDropped
          exact wpAny_pure q
mutual
def flD : PyData → List Int
  | .int i => [i]
  | .tuple ds => flDs ds
  | _ => []
def flDs : List PyData → List Int
  | [] => []
  | d :: ds => flD d ++ flDs ds
end
mutual
theorem flD_toD : ∀ v : Val, flD (toD v) = flV v
  | .int i => by simp only [toD, flD, flV]
  | .tup xs => by simp only [toD, flD, flV]; exact flDs_toDs xs
  | .ptup xs => by simp only [toD, flD, flV]; exact flDs_toDs xs
  | .non => by simp only [toD, flD, flV]
  | .bl _ => by simp only [toD, flD, flV]
  | .str _ => by simp only [toD, flD, flV]
  | .ref _ => by simp only [toD, flD, flV]
theorem flDs_toDs : ∀ vs : List Val, flDs (toDs vs) = flVs vs
  | [] => by simp only [toDs, flDs, flVs]
  | v :: vs => by simp only [toDs, flDs, flVs]; rw [flD_toD v, flDs_toDs vs]
end
noncomputable def keyAt (h : Heap) (u : Value) : List Int := flD (SeqAt.readOf h u)
theorem keyAt_of {h : Heap} {u : Value} {v : Val} {as : List Addr} (r : Reads h u (toD v) as) (hs : shV v v = true) : keyAt h u = flV v := by
  unfold keyAt
  rw [SeqAt.readOf_eq (shV_data v v hs).1 r, flD_toD]
/-- two lists, side by side -/
theorem paired_perm {α β : Type} {R : α → β → Prop} {us out : List β} (p : us.Perm out) : ∀ {vs : List α}, Paired R vs us → ∃ ws, Paired R ws out ∧ vs.Perm ws := by
  induction p with
  | nil => intro vs h; cases h; exact ⟨[], .nil, .nil⟩
  | cons x _ ih =>
    intro vs h
    cases h with
    | cons a b =>
      obtain ⟨ws, h1, h2⟩ := ih b
      exact ⟨_ :: ws, .cons a h1, h2.cons _⟩
  | swap x y l =>
    intro vs h
    cases h with
    | cons a b =>
      cases b with
      | cons c d => exact ⟨_, .cons c (.cons a d), .swap _ _ _⟩
  | trans _ _ ih1 ih2 =>
    intro vs h
    obtain ⟨ws, h1, h2⟩ := ih1 h
    obtain ⟨zs, h3, h4⟩ := ih2 h1
    exact ⟨zs, h3, h2.trans h4⟩
theorem pd_mem2 {α β : Type} {R : α → β → Prop} {xs : List α} {ys : List β} (h : Paired R xs ys) : ∀ y ∈ ys, ∃ x ∈ xs, R x y := by
  induction h with
  | nil => intro y hy; cases hy
  | cons a _ ih =>
    intro y hy
    rcases List.mem_cons.mp hy with rfl | hy
    · exact ⟨_, List.mem_cons_self, a⟩
    · obtain ⟨x, hx, r⟩ := ih y hy; exact ⟨x, List.mem_cons_of_mem _ hx, r⟩
theorem pd_pw {α β : Type} {R : α → β → Prop} {f : β → β → Prop} {g : α → α → Prop} {xs : List α} {ys : List β} (h : Paired R xs ys) (hi : ∀ x ∈ xs, ∀ x' ∈ xs, ∀ y ∈ ys, ∀ y' ∈ ys, R x y → R x' y' → f y y' → g x x') (p : ys.Pairwise f) : xs.Pairwise g := by
  have m1 : ∀ {xs : List α} {ys : List β}, Paired R xs ys → ∀ x ∈ xs, ∃ y ∈ ys, R x y := by
    intro xs ys h
    induction h with
    | nil => intro x hx; cases hx
    | cons a _ ih =>
      intro x hx
      rcases List.mem_cons.mp hx with rfl | hx
      · exact ⟨_, List.mem_cons_self, a⟩
      · obtain ⟨y, hy, r⟩ := ih x hx; exact ⟨y, List.mem_cons_of_mem _ hy, r⟩
  induction h with
  | nil => exact .nil
  | cons a b ih =>
    rw [List.pairwise_cons] at p ⊢
    refine ⟨fun x hx => ?_, ih (fun x hx x' hx' y hy y' hy' => hi x (List.mem_cons_of_mem _ hx) x' (List.mem_cons_of_mem _ hx') y (List.mem_cons_of_mem _ hy) y' (List.mem_cons_of_mem _ hy')) p.2⟩
    obtain ⟨y, hy, r⟩ := m1 b x hx
    exact hi _ List.mem_cons_self x (List.mem_cons_of_mem _ hx) _ List.mem_cons_self y (List.mem_cons_of_mem _ hy) a r (p.1 y hy)
/-- a value and what stands for it -/
def RV (K : PySem.W.Frag) (H : Hp) (v : Val) (u : Value) : Prop := ∃ x, RepV K H v x ∧ RelV x u
theorem rv_split {K : PySem.W.Frag} {H : Hp} {vs : List Val} {us : List Value} (h : Paired (RV K H) vs us) : ∃ xs, RepVs K H vs xs ∧ Vals xs us := by
  induction h with
  | nil => exact ⟨[], .nil, .nil⟩
  | cons a _ ih =>
    obtain ⟨xs, h1, h2⟩ := ih
    obtain ⟨x, r1, r2⟩ := a
    exact ⟨x :: xs, .cons r1 h1, .cons r2 h2⟩
theorem rv_join {K : PySem.W.Frag} {H : Hp} : ∀ {vs : List Val} {xs : List V} {us : List Value}, RepVs K H vs xs → Vals xs us → Paired (RV K H) vs us
  | [], xs, us, r, v => by
    simp only [RepVs] at r; subst r
    cases v; exact .nil
  | w :: vs, xs, us, r, v => by
    simp only [RepVs] at r
    obtain ⟨y, ys, rfl, a, b⟩ := r
    cases v with
    | cons c d => exact .cons ⟨y, a, c⟩ (rv_join b d)
mutual
theorem shDep : ∀ v : Val, (shV v v = true → (toD v).depth = dpV v)
  | .int i => by intro; simp [toD, PyData.depth, dpV]
  | .tup xs => by intro h; simp only [shV] at h; simp only [toD, PyData.depth, dpV]; rw [shDeps xs h]; try omega
  | .ptup xs => by intro h; simp only [shV] at h; simp only [toD, PyData.depth, dpV]; rw [shDeps xs h]; try omega
  | .non => by intro h; simp [shV] at h
  | .bl _ => by intro h; simp [shV] at h
  | .str _ => by intro h; simp [shV] at h
  | .ref _ => by intro h; simp [shV] at h
theorem shDeps : ∀ vs : List Val, (shVs vs vs = true → PyData.depthAll (toDs vs) = dpVs vs)
  | [] => by intro; simp [toDs, PyData.depthAll, dpVs]
  | v :: vs => by
    intro h; simp only [shVs, Bool.and_eq_true] at h
    simp only [toDs, PyData.depthAll, dpVs]; rw [shDep v h.1, shDeps vs h.2]
end
theorem okD_dp {v : Val} (h : okD v = true) (h2 : shV v v = true) : dpV v ≤ 64 := by
  have key : (∀ v : Val, shV v v = true → (toD v).depth = dpV v) := by
    intro v
    exact shDep v
  unfold okD SeqAt.shaped at h
  simp only [Bool.and_eq_true, decide_eq_true_eq] at h
  rw [← key v h2]; exact h.2.2

theorem okD_pure {v : Val} (h : okD v = true) : isPure v = true := by unfold okD at h; simp only [Bool.and_eq_true] at h; exact h.1
section
variable {X : Cx}
theorem rv_reads {pins : List (Addr × Obj)} {σ : L2.St} {H : Hp} {s : Shared} {v : Val} {u : Value} (I : Inv X pins σ H s) (h : RV X.K H v u) (hv : okD v = true) : ∃ as, Reads s.heap u (toD v) as := by
  obtain ⟨x, r, e⟩ := h
  exact Dp.reads I _ x u (dp_pure _ _ v (okD_pure hv) r) e
theorem tup1_cases {v : Val} (h : tup1 v = true) : ∃ k r, (v = .tup (.int k :: r) ∨ v = .ptup (.int k :: r)) := by
  unfold tup1 at h
  split at h
  · exact ⟨_, _, .inl rfl⟩
  · exact ⟨_, _, .inr rfl⟩
  · cases h
/-- a value that stands for a tuple that begins with an int -/
theorem tup1_reads {h : Heap} {v : Val} {u : Value} {as : List Addr} (k : tup1 v = true) (r : Reads h u (toD v) as) : ∃ a o n ws zs bs i t, u = .ref a ∧ h.get? a = some o ∧ o.cls = .type "tuple" ∧ o.data = .seq ws n ∧ ReadsAll h ws.toList (toDs zs) bs ∧ (v = .tup zs ∨ v = .ptup zs) ∧ (∃ r, zs = .int i :: r) ∧ ws[0]? = some (.int i t) := by
  obtain ⟨i, z, e⟩ := tup1_cases k
  have e2 : toD v = .tuple (toDs (.int i :: z)) := by rcases e with rfl | rfl <;> simp only [toD]
  rw [e2] at r
  cases r with
  | tuple g1 g2 g3 ra =>
    rename_i a o ws n
    have ra' := ra
    simp only [toDs, toD] at ra'
    cases h0 : ws.toList with
    | nil => rw [h0] at ra'; cases ra'
    | cons w0 wr =>
      rw [h0] at ra'
      cases ra' with
      | cons p _ =>
        cases p
        rename_i t
        exact ⟨a, o, n, ws, _, _, i, t, rfl, g1, g2, g3, ra, e, ⟨_, rfl⟩, by rw [← Array.getElem?_toList, h0]; rfl⟩
theorem katTups {h : Heap} : ∀ {vs : List Val} {us : List Value}, Paired (fun v u => tup1 v = true ∧ ∃ as, Reads h u (toD v) as) vs us → ∃ fs, PySem.W.KatTups h us fs ∧ fs.length = us.length ∧ ∀ f ∈ fs, ∃ i t, f = Value.int i t := by
  intro vs us p
  induction p with
  | nil => exact ⟨[], by unfold PySem.W.KatTups; trivial, rfl, by intro f hf; cases hf⟩
  | cons a _ ih =>
    obtain ⟨fs, h1, h2, h3⟩ := ih
    obtain ⟨k, as, r⟩ := a
    obtain ⟨a, o, n, ws, zs, bs, i, t, e1, e2, e3, e4, e5, e6, e7, e8⟩ := tup1_reads k r
    refine ⟨.int i t :: fs, ?_, by simp [h2], ?_⟩
    · unfold PySem.W.KatTups
      exact ⟨⟨a, o, ws, n, e1, e2, e3, e4, e8⟩, h1⟩
    · intro f hf
      rcases List.mem_cons.mp hf with rfl | hf
      · exact ⟨i, t, rfl⟩
      · exact h3 f hf
theorem paired_imp {α β : Type} {R T : α → β → Prop} {xs : List α} {ys : List β} (h : Paired R xs ys) (i : ∀ x ∈ xs, ∀ y, R x y → T x y) : Paired T xs ys := by
  induction h with
  | nil => exact .nil
  | cons a _ ih => exact .cons (i _ List.mem_cons_self _ a) (ih fun x hx => i x (List.mem_cons_of_mem _ hx))
theorem sorted_data (hu : X.A.units + 80 < cLine) {pins : List (Addr × Obj)} {σ : L2.St} {H : Hp} {s : Shared} {x : Value} {S : Sto} {vs : List Val} {us : List Value} {Q : VK} (I : Inv X pins σ H s) (c : Cor X.K S H)
    (hcol : ∀ Q' : List Value → Shared → Prop, (∀ h' tk, (∀ b o, s.heap.get? b = some o → h'.get? b = some o) → Q' us { s with heap := h', toks := tk }) → wpAny (model X.prog X.w) X.A.in1 (collect x) Q' X.xe s)
    (hp : Paired (RV X.K H) vs us) (hz : us.length ≤ sizeLine) (ok : SrtOk vs)
    (q : ∀ ws : List Val, ws.Perm vs → SrtV ws → ∀ ys, RepVs X.K H ws ys → ∀ p, H p = none → Q (.ref p) (upd H p (.lst ys))) : wpAny (model X.prog X.w) X.A (call (.builtin "sorted") [x]) (EP X pins σ Q) X.xe s := by
  have rd : ∀ {s' : Shared}, Inv X pins σ H s' → ∀ u ∈ us, ∃ v ∈ vs, RV X.K H v u ∧ ∃ as, Reads s'.heap u (toD v) as := fun I' u hu' => by
    obtain ⟨v, hv, r⟩ := pd_mem2 hp u hu'
    exact ⟨v, hv, r, rv_reads I' r (ok.1 v hv).2⟩
  have ky : ∀ {v : Val} {u : Value}, v ∈ vs → RV X.K H v u → keyAt s.heap u = flV v := fun {v u} hv r => by
    obtain ⟨as, h⟩ := rv_reads I r (ok.1 v hv).2
    exact keyAt_of h (ok.2 v hv v hv)
  refine SrtO.sorted_col (C := fun s1 vs' => vs' = us ∧ ∃ h' tk, (∀ b o, s.heap.get? b = some o → h'.get? b = some o) ∧ s1 = { s with heap := h', toks := tk }) (fun Q' hq => hcol Q' fun h' tk k => hq _ _ ⟨rfl, h', tk, k, rfl⟩) ?_
  rintro s1 vs' ⟨rfl, h', tk, k, rfl⟩
  have I1 : Inv X pins σ H { s with heap := h', toks := tk } := I.kept (t' := tk) k
  refine ⟨hz, fun u x => lexL (keyAt s.heap u) (keyAt s.heap x), lexL_swo _, fun h2 => ?_, fun out h1 h2 => ?_⟩
  · intro h'' kk
    have k2 : ∀ b o, s.heap.get? b = some o → h''.get? b = some o := fun b o e => by
      have e1 := k b o e
      have hlt := Heap.lt_size e1
      refine kk b o (Nat.ne_of_lt hlt) ?_
      exact Heap.get?_push_of_some _ e1
    have I2 : Inv X pins σ H { s with heap := h'', toks := tk } := I.kept (t' := tk) k2
    refine ⟨PyProof.Rows.tuples' true, fun Q E hq => ?_, fun p r hp' hr' => ?_⟩
    · obtain ⟨fs, f1, f2, f3⟩ := katTups (h := h'') (paired_imp (T := fun v u => tup1 v = true ∧ ∃ as, Reads h'' u (toD v) as) hp fun v hv u r => ⟨(ok.1 v hv).1, rv_reads I2 r (ok.1 v hv).2⟩)
      refine PySem.W.kat_kind (T := .type "int") f1 (by omega) (fun v hv => ?_) (by decide +kernel) ?_
      · obtain ⟨i, t, rfl⟩ := f3 v hv
        exact PySem.W.Looks.of_pure rfl
      · rw [show (Value.type "int" != Value.type "tuple") = true by decide +kernel]
        exact hq
    · obtain ⟨v, hv, rv, as, r1⟩ := rd I2 _ hp'
      obtain ⟨w, hw, rw_, bs, r2⟩ := rd I2 _ hr'
      obtain ⟨a, o, n, ws, zs, cs, i, t, e1, e2, e3, e4, e5, e6, e7, e8⟩ := tup1_reads (ok.1 v hv).1 r1
      obtain ⟨a', o', n', ws', zs', cs', i', t', e1', e2', e3', e4', e5', e6', e7', e8'⟩ := tup1_reads (ok.1 w hw).1 r2
      have hsh := ok.2 v hv w hw
      have key : shVs zs zs' = true ∧ flV v = flVs zs ∧ flV w = flVs zs' ∧ dpVs zs ≤ 64 := by
        have d := okD_dp (ok.1 v hv).2 (ok.2 v hv v hv)
        rcases e6 with rfl | rfl <;> rcases e6' with rfl | rfl <;> simp only [shV, Bool.false_eq_true] at hsh <;> simp only [dpV] at d <;> exact ⟨hsh, by simp only [flV], by simp only [flV], by omega⟩
      have hl : ws.size = ws'.size := by
        have a1 := reads_len e5
        have a2 := reads_len e5'
        have a3 := shVs_len' _ _ key.1
        rw [Array.length_toList] at a1 a2
        omega
      rw [e1, e1']
      refine PySem.W.kat_lt e2 e4 e2' e4' ?_
      rw [show decide (ws.size < ws'.size) = false by rw [decide_eq_false_iff_not]; omega]
      refine katlex (by show X.A.units + 1 + 1 + 70 < _; omega) key.1 key.2.2.2 e5 e5' (fun _ => let ⟨r, e⟩ := e7; ⟨i, r, e⟩) ⟨rfl, ?_⟩
      show lexL (flVs zs) (flVs zs') = lexL (keyAt s.heap p.fst) (keyAt s.heap r.fst)
      rw [ky hv rv, ky hw rw_, key.2.1, key.2.2.1]
  · obtain ⟨ws, p1, p2⟩ := paired_perm h2.perm.symm hp
    obtain ⟨ys, y1, y2⟩ := rv_split p1
    have hs : SrtV ws := pd_pw p1 (fun a ha b hb y _ y' _ r r' hlt => by
      have hlt' : lexL (keyAt s.heap y') (keyAt s.heap y) = false := hlt
      rw [ky (p2.mem_iff.mpr ha) r, ky (p2.mem_iff.mpr hb) r'] at hlt'
      exact hlt') h1
    exact ⟨.ref _, _, sorted_laid (s1 := { s with heap := h', toks := tk }) I1 (fun _ _ z => z) (Nat.le_refl _) rfl rfl (zs := ys) (by rw [y2.length]; rw [h2.perm.length_eq]; exact hz) y2, rfl, q ws p2.symm hs ys y1 _ (I1.hok.fresh (Nat.le_refl _))⟩

/-- sorted(a list) -/
theorem sorted_listT (hu : X.A.units + 80 < cLine) {pins : List (Addr × Obj)} {σ : L2.St} {H : Hp} {s : Shared} {a : Addr} {S : Sto} {vs : List Val} {xs : List V} {Q : VK} (I : Inv X pins σ H s) (c : Cor X.K S H) (hs : SqL X.K H a xs) (rv : RepVs X.K H vs xs) (ok : SrtOk vs)
    (q : ∀ ws : List Val, ws.Perm vs → SrtV ws → ∀ ys, RepVs X.K H ws ys → ∀ p, H p = none → Q (.ref p) (upd H p (.lst ys))) : wpAny (model X.prog X.w) X.A (call (.builtin "sorted") [.ref a]) (EP X pins σ Q) X.xe s := by
  obtain ⟨its, v, pl, hz⟩ := I.list hs
  have hz' : its.length ≤ sizeLine := by rw [← v.length]; exact hz
  refine sorted_data hu I c (fun Q' hq => ?_) (rv_join rv v) hz' ok q
  obtain ⟨o, n, ho, hc, _, hd⟩ := pl
  exact wpAny_collect_seq a (.inl rfl) ho hc hd (fun h' k => hq h' _ k) (by rw [List.size_toArray]; exact hz')
/-- sorted(a dict) -/
theorem sorted_dictT (hc : X.calm = true) (hu : X.A.units + 80 < cLine) {pins : List (Addr × Obj)} {σ : L2.St} {H : Hp} {s : Shared} {a : Addr} {S : Sto} {kvs : List (List Key × Val)} {us : List (List Key × V)} {Q : VK} (I : Inv X pins σ H s) (c : Cor X.K S H) (hd : H a = some (.dT us)) (rk : RepK X.K H kvs us)
    (ok : SrtOk (kvs.map fun kv => .ptup (kv.1.map kval)))
    (q : ∀ ws : List Val, ws.Perm (kvs.map fun kv => .ptup (kv.1.map kval)) → SrtV ws → ∀ ys, RepVs X.K H ws ys → ∀ p, H p = none → Q (.ref p) (upd H p (.lst ys))) : wpAny (model X.prog X.w) X.A (call (.builtin "sorted") [.ref a]) (EP X pins σ Q) X.xe s := by
  obtain ⟨hz, hsm, xs, kt, o, es, ep, ho, hex, hda, hes, hkey, hnd⟩ := dt_of I.hok hd
  have hlen : xs.length = us.length := kt.length.symm
  have hel : es.toList = xs.map (entryOfKey (tupleKind (mixKind X.prog X.w))) := hes
  have hesz : es.size = us.length := by rw [← Array.length_toList, hel, List.length_map, hlen]
  have hp : Paired (RV X.K H) (kvs.map fun kv => Val.ptup (kv.1.map kval)) (xs.map fun e => Value.ref e.2.1) := by
    clear hel hes hkey hnd hesz hda q ok hlen hz hd
    unfold RepK at rk
    induction rk generalizing xs with
    | nil => cases kt; exact .nil
    | cons p _ ih =>
      cases kt with
      | cons k1 k2 =>
        refine .cons ⟨.ref _, ?_, rfl⟩ (ih _ k2)
        simp only [RepV]
        refine ⟨_, _, rfl, k1.2.1, ?_⟩
        rw [p.1]
        exact rep_kvals
  refine sorted_data hu I c (fun Q' hq => ?_) hp (by rw [List.length_map, hlen]; exact hz) ok q
  refine PySem.W.kdu_collect (kdl_raw (prog := X.prog) (w := X.w) hsm hex hda) (I.ok.hd hc) ho (by rw [hesz]; exact hz) fun h' tk acc k it => ?_
  have e : acc.toList = xs.map fun e => Value.ref e.2.1 := by
    apply List.ext_getElem?
    intro j
    rw [Array.getElem?_toList, List.getElem?_map]
    cases ha : acc[j]? with
    | none =>
      have h1 : acc.size ≤ j := Array.getElem?_eq_none_iff.mp ha
      rw [List.getElem?_eq_none (by rw [it.1, hesz, ← hlen] at h1; exact h1)]; rfl
    | some v =>
      obtain ⟨en, h1, rfl⟩ := it.2 j v ha
      rw [← Array.getElem?_toList, hel, List.getElem?_map] at h1
      cases hx : xs[j]? with
      | none => rw [hx] at h1; cases h1
      | some z => rw [hx] at h1; cases h1; rfl
  rw [e]
  exact hq h' tk k
end
end M

set_option maxHeartbeats 1000000
namespace M
open PySem PySem.Spec PyProof.Rows L2
theorem argBest_gt {val : Nat → Int} : ∀ (k j : Nat), j ≤ k → PySem.argBest (fun i j => decide (val i > val j)) k ≤ k ∧ val j ≤ val (PySem.argBest (fun i j => decide (val i > val j)) k)
  | 0, j, h => by
    have : j = 0 := by omega
    subst this
    simp [PySem.argBest]
  | k + 1, j, h => by
    have h1 := fun j hj => argBest_gt (val := val) k j hj
    simp only [PySem.argBest]
    split
    · rename_i e
      simp only [decide_eq_true_eq] at e
      refine ⟨Nat.le_refl _, ?_⟩
      by_cases c : j = k + 1
      · subst c; exact Int.le_refl _
      · have := (h1 j (by omega)).2; omega
    · rename_i e
      simp only [decide_eq_true_eq] at e
      refine ⟨by have := (h1 0 (by omega)).1; omega, ?_⟩
      by_cases c : j = k + 1
      · subst c; omega
      · exact (h1 j (by omega)).2
section
variable {X : Cx}
theorem max_tup (hc : X.calm = true) {pins : List (Addr × Obj)} {σ : L2.St} {H : Hp} {s : Shared} {a : Addr} {ns : List Int} {Q : VK} (I : Inv X pins σ H s) (hs : SqT X.K H a (ns.map V.int)) (hn : 0 < ns.length)
    (q : ∀ m, m ∈ ns → (∀ y ∈ ns, y ≤ m) → Q (.int m) H) : wpAny (model X.prog X.w) X.A (call (.builtin "max") [.ref a]) (EP X pins σ Q) X.xe s := by
  obtain ⟨its, rv, hl, hz⟩ := I.tuple hs
  have hi : IntsAre its ns := rv.ints
  have hlen : its.length = ns.length := by rw [← rv.length, List.length_map]
  obtain ⟨o, ho, hcl, n, hd⟩ := hl
  have hlt : a < s.heap.objs.size := Heap.lt_size ho
  have key : ∀ (i : Nat) (v : Value), its.toArray[i]? = some v → ∃ t, v = .int (ns.getD i 0) t := fun i v e => by
    have e' : its[i]? = some v := by simpa using e
    have hi2 : i < ns.length := by rw [← hlen]; exact (List.getElem?_eq_some_iff.mp e').1
    obtain ⟨w, hw, t, hw'⟩ := rv.get (i := i) (x := .int ns[i]) (by simp [hi2])
    rw [e'] at hw; cases hw
    exact ⟨t, by rw [hw', List.getD_eq_getElem?_getD, List.getElem?_eq_getElem hi2]; rfl⟩
  refine PySem.call_max_walk (PySem.wpAny_pyIter_tuple (items := its.toArray) ⟨o, ho, hcl, n, hd⟩ ?_)
  refine ⟨s.heap.objs.size, [s.heap.objs.size, a], [s.heap.objs.size], its.toArray.size, _, _, _, rfl, PySem.Walks.tuple (A := X.A.in1) (I.ok.hd hc) _ a (Nat.ne_of_lt hlt) its.toArray, And.intro ?_ ⟨o, Heap.get?_push_of_some _ ho, hcl, n, hd⟩, ?_, ?_, PySem.CmpOf.ints_gt (fun i => ns.getD i 0) key, ?_⟩
  · exact ⟨_, Heap.get?_push_size _ rfl, rfl, rfl⟩
  · intro b hb
    rw [size_push']
    simp only [List.mem_cons, List.not_mem_nil, or_false] at hb
    rcases hb with rfl | rfl
    · exact Nat.lt_succ_self _
    · exact Nat.lt_succ_of_lt hlt
  · simp; omega
  · intro v h' tk hP hk
    obtain ⟨t, rfl⟩ := key _ _ hP
    have I2 : Inv X pins σ H { s with heap := h', toks := tk } := I.kept (t' := tk) fun b u e => hk b u (by simp; exact Nat.ne_of_lt (Heap.lt_size e)) (Heap.get?_push_of_some _ e)
    have hb := fun j (hj : j < ns.length) => argBest_gt (val := fun i => ns.getD i 0) (its.toArray.size - 1) j (by simp; omega)
    have h0 := hb 0 hn
    have hlt2 : PySem.argBest (fun i j => decide (ns.getD i 0 > ns.getD j 0)) (its.toArray.size - 1) < ns.length := by
      have := h0.1
      simp at this ⊢; omega
    refine ⟨.int _, H, I2, ⟨t, rfl⟩, q _ ?_ fun y hy => ?_⟩
    · rw [List.getD_eq_getElem?_getD, List.getElem?_eq_getElem hlt2]; exact List.getElem_mem hlt2
    · obtain ⟨j, hj, rfl⟩ := List.getElem_of_mem hy
      have := (hb j hj).2
      have e : ns.getD j 0 = ns[j] := by rw [List.getD_eq_getElem?_getD, List.getElem?_eq_getElem hj]; rfl
      simp only [e] at this
      exact this
end
end M

set_option maxHeartbeats 1000000
namespace M
open PySem PySem.Spec L2
def lN (K : PySem.W.Frag) (f : List Val → Sto → Post → Prop) : List V → Hp → VK → Prop := fun xs H Q => ∃ vs S, RepVs K H vs xs ∧ Cor K S H ∧ f vs S (fin K S H Q)
def bltTy : Blt → Bool
  | .int1 | .str1 | .list1 | .tuple1 | .set1 | .bool1 => true
  | _ => false
def bltId : Blt → String
  | .len => "len" | .abs => "abs" | .min2 => "min" | .max2 => "max" | .int1 => "int" | .str1 => "str" | .list1 => "list" | .tuple1 => "tuple"
  | .sorted1 | .sortT | .sortD => "sorted" | .set1 => "set" | .sum1 => "sum" | .min1 => "min" | .max1 => "max" | .bool1 => "bool"
def bltVal (b : Blt) : Value := if bltTy b = true then .type (bltId b) else .builtin (bltId b)
def bltName : Blt → Str
  | .len => "len" | .abs => "abs" | .min2 => "min" | .max2 => "max" | .int1 => "int" | .str1 => "str" | .list1 => "list" | .tuple1 => "tuple"
  | .sorted1 | .sortT | .sortD => "sorted" | .set1 => "set" | .sum1 => "sum" | .min1 => "min" | .max1 => "max" | .bool1 => "bool"
theorem bltBoot : ∀ b : Blt, bootBuiltins (bltName b) = some (bltVal b) := by
  intro b; cases b <;> decide +kernel
theorem bltNN : ∀ b : Blt, bltName b ≠ "__name__" ∧ (bltName b == ("__debug__" : Str)) = false := by
  intro b; cases b <;> decide +kernel
section
variable {K : PySem.W.Frag} {H : Hp}
theorem reps1 {v : Val} {xs : List V} (h : RepVs K H [v] xs) : ∃ x, xs = [x] ∧ RepV K H v x := by
  simp only [RepVs] at h
  obtain ⟨y, ys, rfl, a, rfl⟩ := h
  exact ⟨y, rfl, a⟩
theorem reps2 {v w : Val} {xs : List V} (h : RepVs K H [v, w] xs) : ∃ x y, xs = [x, y] ∧ RepV K H v x ∧ RepV K H w y := by
  simp only [RepVs] at h
  obtain ⟨y, ys, rfl, a, z, zs, rfl, b, rfl⟩ := h
  exact ⟨y, z, rfl, a, b⟩
theorem ints_reps : ∀ (ns : List Int) {xs : List V}, RepVs K H (ns.map .int) xs → xs = ns.map V.int
  | [], _, h => by simpa only [List.map_nil, RepVs] using h
  | n :: ns, _, h => by
    simp only [List.map_cons, RepVs, RepV] at h ⊢
    obtain ⟨y, ys, rfl, rfl, h⟩ := h
    rw [ints_reps ns h]
theorem reps_ints : ∀ (ns : List Int), RepVs K H (ns.map .int) (ns.map V.int)
  | [] => .nil
  | n :: ns => .cons (by simp only [RepV]) (reps_ints ns)
theorem reps0 {xs : List V} (h : RepVs K H [] xs) : xs = [] := by simpa only [RepVs] using h
theorem valD_rep {S : Sto} {v : Val} {x : V} {ys : List Val} (c : Cor K S H) (r : RepV K H v x) (h : valD S v ys) : ∃ p xs, x = .ref p ∧ RepVs K H ys xs ∧ ((∃ a, v = .ref a ∧ SqL K H p xs) ∨ (SqN K H p xs ∧ v = .tup ys) ∨ H p = some (.tup xs) ∧ v = .ptup ys) := by
  cases v <;> simp only [valD, RepV] at h r
  · subst h
    obtain ⟨p, xs, rfl, t, r⟩ := r
    exact ⟨p, xs, rfl, r, .inr (.inl ⟨t, rfl⟩)⟩
  · subst r
    obtain ⟨xs, e, r⟩ := c.rd h
    exact ⟨_, xs, rfl, r, .inl ⟨_, rfl, e⟩⟩
  · subst h
    obtain ⟨p, xs, rfl, hp, r⟩ := r
    exact ⟨p, _, rfl, r, .inr (.inr ⟨hp, rfl⟩)⟩
end
section
variable {X : Cx}
theorem CallR.imp {f : Value} {r : List V → Hp → VK → Prop} {pins : List (Addr × Obj)} {s : Shared} {σ : L2.St} {H : Hp} {xs : List V} {us : List Value} {Q : VK} (h : CallR X f r) (I : Inv X pins σ H s) (rx : Vals xs us) (q : r xs H Q) :
    wpAny (model X.prog X.w) X.A (call f us) (EP X pins σ Q) X.xe s := h pins s σ H xs us Q I rx q
theorem blt_snd (hc : X.calm = true) (hu : X.A.units + 80 < cLine) (b : Blt) : CallR X (bltVal b) (lN X.K (wBlt b)) := fun pins s σ H xs us Q I rx ⟨vs, S, rv, c, q⟩ => by
  unfold wBlt at q
  split at q
  · -- len of a tuple
    obtain ⟨x, rfl, r⟩ := reps1 rv
    simp only [RepV] at r
    obtain ⟨p, xs, rfl, t, r⟩ := r
    refine CallR.imp call_len I rx ⟨_, _, rfl, .inr ⟨xs, t.sq, rfl⟩, ?_⟩
    rw [r.length]; exact q.int c
  · obtain ⟨x, rfl, r⟩ := reps1 rv
    simp only [RepV] at r; subst r
    split at q
    · rename_i e
      obtain ⟨xs, e, r⟩ := c.rd (.lst e)
      refine CallR.imp call_len I rx ⟨_, _, rfl, .inl ⟨xs, e, rfl⟩, ?_⟩
      rw [r.length]; exact q.int c
    · rename_i e
      obtain ⟨xs, e, r⟩ := c.rd (.ro e)
      refine CallR.imp call_len I rx ⟨_, _, rfl, .inl ⟨xs, e, rfl⟩, ?_⟩
      rw [r.length]; exact q.int c
    · rename_i kvs e
      have := c _ _ e
      simp only [RepA] at this
      obtain ⟨us', e, r⟩ := this
      refine CallR.imp call_lenD I rx ⟨_, us', rfl, e, ?_⟩
      have hl : kvs.length = us'.length := Paired.length r
      rw [← hl]; exact q.int c
    · rename_i kvs e
      have := c _ _ e
      simp only [RepA] at this
      obtain ⟨us', e, r⟩ := this
      refine CallR.imp call_len_dT I rx ⟨_, us', rfl, e, ?_⟩
      have hl : kvs.length = us'.length := Paired.length r
      rw [← hl]; exact q.int c
    · exact q.elim
  · obtain ⟨x, rfl, r⟩ := reps1 rv
    simp only [RepV] at r; subst r
    exact CallR.imp call_len I rx ⟨_, _, rfl, ⟨q.1, rfl⟩, q.2.int c⟩
  · obtain ⟨x, rfl, r⟩ := reps1 rv
    simp only [RepV] at r; subst r
    exact CallR.imp call_abs I rx ⟨_, rfl, q.int c⟩
  · obtain ⟨x, y, rfl, r, r'⟩ := reps2 rv
    simp only [RepV] at r r'; subst r; subst r'
    exact CallR.imp (call_min2 hc) I rx ⟨_, _, rfl, q.int c⟩
  · obtain ⟨x, y, rfl, r, r'⟩ := reps2 rv
    simp only [RepV] at r r'; subst r; subst r'
    exact CallR.imp (call_max2 hc) I rx ⟨_, _, rfl, q.int c⟩
  · obtain ⟨x, rfl, r⟩ := reps1 rv
    simp only [RepV] at r; subst r
    exact CallR.imp call_int1 I rx (.inl ⟨_, rfl, q.int c⟩)
  · obtain ⟨x, rfl, r⟩ := reps1 rv
    simp only [RepV] at r; subst r
    exact CallR.imp call_int1 I rx (.inr ⟨_, rfl, q.int c⟩)
  · obtain ⟨x, rfl, r⟩ := reps1 rv
    simp only [RepV] at r; subst r
    exact CallR.imp call_bool1 I rx (.inl ⟨_, rfl, q.bl c⟩)
  · obtain ⟨x, rfl, r⟩ := reps1 rv
    simp only [RepV] at r; subst r
    exact CallR.imp call_str_int I rx ⟨_, rfl, q.1, q.2.str c⟩
  · obtain ⟨x, rfl, r⟩ := reps1 rv
    obtain ⟨ys, hv, q⟩ := q
    obtain ⟨p, xs, rfl, r, h | h | h⟩ := valD_rep c r hv
    · obtain ⟨a, e, t⟩ := h
      exact CallR.imp call_list_of I rx ⟨p, xs, rfl, .inl t, fun l hl => fin.lstN c q r hl⟩
    · exact CallR.imp call_list_of I rx ⟨p, xs, rfl, .inr h.1.sq, fun l hl => fin.lstN c q r hl⟩
    · exact CallR.imp call_list_of I rx ⟨p, xs, rfl, .inr (.inl (.inl h.1)), fun l hl => fin.lstN c q r hl⟩
  · obtain ⟨x, rfl, r⟩ := reps1 rv
    have r0 := r
    simp only [RepV] at r
    obtain ⟨p, xs, rfl, t, r⟩ := r
    exact CallR.imp call_tupN I rx ⟨p, xs, rfl, .inr ⟨.inl (.inl t), q H _ .refl c r0⟩⟩
  · obtain ⟨x, rfl, r⟩ := reps1 rv
    have r0 := r
    simp only [RepV] at r
    obtain ⟨p, xs, rfl, t, r⟩ := r
    exact CallR.imp call_tupN I rx ⟨p, xs, rfl, .inr ⟨t.sq, q H _ .refl c r0⟩⟩
  · obtain ⟨x, rfl, r⟩ := reps1 rv
    simp only [RepV] at r; subst r
    obtain ⟨ys, hv, q⟩ := q
    obtain ⟨xs, t, r⟩ := c.rd hv
    exact CallR.imp call_tupN I rx ⟨_, xs, rfl, .inl ⟨t, fun l o hl ho => q.tupN c r hl ho⟩⟩
  · obtain ⟨x, rfl, r⟩ := reps1 rv
    simp only [RepV] at r
    obtain ⟨p, xs, rfl, tt, r⟩ := r
    obtain ⟨ns, rfl, hn, q⟩ := q
    have := ints_reps ns r; subst this
    rw [Vals.ref1 rx]
    exact max_tup hc I tt.sq hn fun m h1 h2 => (q m h1 h2).int c
  · obtain ⟨x, rfl, r⟩ := reps1 rv
    simp only [RepV] at r; subst r
    obtain ⟨ns, l, hn, q⟩ := q
    obtain ⟨xs, t, rx'⟩ := c.rd l
    have := ints_reps ns rx'; subst this
    exact CallR.imp (cr_max hc) I rx ⟨_, ns, rfl, t, hn, fun m h1 h2 => (q m h1 h2).int c⟩
  · obtain ⟨x, rfl, r⟩ := reps1 rv
    simp only [RepV] at r; subst r
    obtain ⟨ns, l, hn, q⟩ := q
    obtain ⟨xs, t, rx'⟩ := c.rd l
    have := ints_reps ns rx'; subst this
    exact CallR.imp (cr_min hc) I rx ⟨_, ns, rfl, t, hn, fun m h1 h2 => (q m h1 h2).int c⟩
  · obtain ⟨x, rfl, r⟩ := reps1 rv
    simp only [RepV] at r; subst r
    obtain ⟨ns, l, q⟩ := q
    obtain ⟨xs, t, rx'⟩ := c.rd l
    have := ints_reps ns rx'; subst this
    exact CallR.imp (cr_sum hc) I rx ⟨_, ns, rfl, t, q.int c⟩
  · obtain ⟨x, rfl, r⟩ := reps1 rv
    simp only [RepV] at r; subst r
    obtain ⟨ns, l, q⟩ := q
    obtain ⟨xs, t, rx'⟩ := c.rd l
    have := ints_reps ns rx'; subst this
    exact CallR.imp cr_sortedI I rx ⟨_, ns, rfl, t, fun ns' p h1 h2 hp => fin.lstN c (fun p hp => q ns' h1 h2 p hp) (reps_ints ns') hp⟩
  · obtain ⟨x, rfl, r⟩ := reps1 rv
    simp only [RepV] at r; subst r
    obtain ⟨ns, l, ok, q⟩ := q
    obtain ⟨xs, t, rx'⟩ := c.rd l
    rw [Vals.ref1 rx]
    exact sorted_listT hu I c t rx' ok fun ws h1 h2 ys ry p hp => fin.lstN c (fun p hp => q ws h1 h2 p hp) ry hp
  · obtain ⟨x, rfl, r⟩ := reps1 rv
    simp only [RepV] at r; subst r
    obtain ⟨kvs, l, ok, q⟩ := q
    have hd := c _ _ l
    simp only [RepA] at hd
    obtain ⟨us', e, rk⟩ := hd
    rw [Vals.ref1 rx]
    exact sorted_dictT hc hu I c e rk ok fun ws h1 h2 ys ry p hp => fin.lstN c (fun p hp => q ws h1 h2 p hp) ry hp
  · obtain ⟨x, rfl, r⟩ := reps1 rv
    simp only [RepV] at r
    obtain ⟨p, xs, rfl, t, r⟩ := r
    obtain ⟨ns, rfl, q⟩ := q
    have := ints_reps ns r; subst this
    exact CallR.imp cr_sortedTI I rx ⟨_, ns, rfl, t.sq, fun ns' p h1 h2 hp => fin.lstN c (fun p hp => q ns' h1 h2 p hp) (reps_ints ns') hp⟩
  · obtain ⟨x, rfl, r⟩ := reps1 rv
    simp only [RepV] at r
    obtain ⟨p, xs, rfl, hp, r⟩ := r
    refine CallR.imp call_len I rx ⟨_, _, rfl, .inr ⟨_, .inl (.inl hp), rfl⟩, ?_⟩
    rw [r.length]; exact q.int c
  · exact q.elim
def mthTy : Mth → String
  | .split | .join | .sindex => "str"
  | .dget1 | .dget2 | .dkeys | .dsetd => "dict"
  | .tindex | .tcount => "tuple"
  | _ => "list"
def mthName : Mth → Str
  | .append => "append" | .pop0 => "pop" | .pop1 => "pop" | .extend => "extend" | .insert => "insert" | .remove => "remove" | .reverse => "reverse" | .index => "index" | .count => "count"
  | .dget1 => "get" | .dget2 => "get" | .dkeys => "keys" | .split => "split" | .join => "join" | .sindex => "index" | .dsetd => "setdefault" | .tindex => "index" | .tcount => "count"
def mthId : Mth → String
  | .append => "list.append" | .pop0 => "list.pop" | .pop1 => "list.pop" | .extend => "list.extend" | .insert => "list.insert" | .remove => "list.remove" | .reverse => "list.reverse" | .index => "list.index" | .count => "list.count"
  | .dget1 => "dict.get" | .dget2 => "dict.get" | .dkeys => "dict.keys" | .split => "str.split" | .join => "str.join" | .sindex => "str.index" | .dsetd => "dict.setdefault" | .tindex => "tuple.index" | .tcount => "tuple.count"
theorem tyM_rep {K : PySem.W.Frag} {S : Sto} {H : Hp} {m : Mth} {v : Val} {x : V} (c : Cor K S H) (r : RepV K H v x) (h : tyM m v S) (hn : m ≠ .tindex) : tyV K (mthTy m) x H := by
  unfold tyM at h
  split at h
  case h_14 => exact h.elim
  case h_1 => simp only [RepV] at r; subst r; rfl
  case h_2 => simp only [RepV] at r; subst r; rfl
  case h_3 => simp only [RepV] at r; subst r; rfl
  case h_13 => exact (hn rfl).elim
  all_goals
    simp only [RepV] at r; subst r
    obtain ⟨xs, e⟩ := h
    obtain ⟨ys, e, _⟩ := c.rd e
    exact Or.inl ⟨rfl, ys, e⟩
def lM (K : PySem.W.Frag) (f : Val → List Val → Sto → Post → Prop) : V → List V → Hp → VK → Prop := fun x xs H Q => ∃ v vs S, RepV K H v x ∧ RepVs K H vs xs ∧ Cor K S H ∧ f v vs S (fin K S H Q)
theorem fin.chg {K : PySem.W.Frag} {S : Sto} {H : Hp} {Q : VK} {a : Addr} {vs ws : List Val} {xs ys : List V} (c : Cor K S H) (hs : S a = some (.lst vs)) (e : H a = some (.lst xs)) (r : RepVs K H ws ys) {w : Val} {z : V} (rw' : RepV K H w z)
    (q : fin K S H Q w (S.upd a (.lst ws))) : Q z (upd H a (.lst ys)) :=
  q _ _ (.chg hs e trivial) (c.setL hs e r) (RepV.evo' (chg_tup e trivial) (chg_frz e trivial) _ rw')
theorem seqIx_nat {i : Int} {n : Nat} (h : 0 ≤ i) (hn : i.toNat < n) : seqIndex? i n = some i.toNat := by
  unfold seqIndex?
  split <;> first | (simp; omega) | skip
theorem strs_reps {K : PySem.W.Frag} {H : Hp} : ∀ (ys : List Str) {zs : List V}, RepVs K H (ys.map Val.str) zs → zs = ys.map V.str
  | [], zs, r => by
    cases zs with
    | nil => rfl
    | cons _ _ => simp only [List.map_nil, RepVs] at r; cases r
  | y :: ys, zs, r => by
    simp only [List.map_cons, RepVs] at r
    obtain ⟨a, b, rfl, h1, h2⟩ := r
    simp only [RepV] at h1
    rw [h1, strs_reps ys h2]; rfl
theorem mth_snd (m : Mth) : MtM X (mthId m) (lM X.K (wMth m)) := fun pins s σ H x xs v us Q I rx rxs ⟨w, ws, S, ra, rv, c, q⟩ => by
  unfold wMth at q
  split at q
  · simp only [RepV] at ra; subst ra
    obtain ⟨y, rfl, r⟩ := reps1 rv
    obtain ⟨ys, hs, hl, q⟩ := q
    obtain ⟨zs, e, rz⟩ := c.lst hs
    refine mt_append pins s σ H _ _ v us Q I rx rxs ⟨_, zs, y, rfl, rfl, e, by rw [rz.length]; exact hl, ?_⟩
    exact fin.chg c hs e (rz.append (.cons r .nil)) (by simp only [RepV]) q
  · simp only [RepV] at ra; subst ra
    have := reps0 rv; subst this
    obtain ⟨ys, y, hs, hl, q⟩ := q
    obtain ⟨zs, e, rz⟩ := c.lst hs
    rw [List.getLast?_eq_getElem?] at hl
    obtain ⟨z, ez, r⟩ := rz.get hl
    refine mt_pop pins s σ H _ _ v us Q I rx rxs ⟨_, zs, z, rfl, rfl, e, by rw [rz.length]; exact ez, ?_⟩
    exact fin.chg c hs e rz.dropLast r q
  · simp only [RepV] at ra; subst ra
    obtain ⟨y, rfl, r⟩ := reps1 rv
    simp only [RepV] at r; subst r
    obtain ⟨ys, y, hs, h0, h1, hl, q⟩ := q
    obtain ⟨zs, e, rz⟩ := c.lst hs
    obtain ⟨z, ez, r⟩ := rz.get hl
    have hb := (List.getElem?_eq_some_iff.mp ez).1
    refine mt_popAt pins s σ H _ _ v us Q I rx rxs ⟨_, zs, _, _, z, rfl, rfl, e, by omega, by omega, seqIx_nat h0 hb, ez, ?_⟩
    exact fin.chg c hs e (rz.erase _) r q
  · simp only [RepV] at ra; subst ra
    obtain ⟨y, y', rfl, r, r'⟩ := reps2 rv
    simp only [RepV] at r; subst r
    obtain ⟨ys, hs, hz, h0, h1, q⟩ := q
    obtain ⟨zs, e, rz⟩ := c.lst hs
    refine mt_insert pins s σ H _ _ v us Q I rx rxs ⟨_, zs, _, y', rfl, rfl, e, by rw [rz.length]; exact hz, h0, by omega, ?_⟩
    exact fin.chg c hs e (((rz.take _).append (.cons r' .nil)).append (rz.drop _)) (by simp only [RepV]) q
  · simp only [RepV] at ra; subst ra
    obtain ⟨y, rfl, r⟩ := reps1 rv
    simp only [RepV] at r; subst r
    obtain ⟨xs, ys, hs, hs', hz, q⟩ := q
    obtain ⟨xs', e, rz⟩ := c.lst hs
    obtain ⟨ys', e', rz'⟩ := c.lst hs'
    refine mt_extend pins s σ H _ _ v us Q I rx rxs ⟨_, _, xs', ys', rfl, rfl, e, e', by rw [rz.length, rz'.length]; exact hz, ?_⟩
    exact fin.chg c hs e (rz.append rz') (by simp only [RepV]) q
  · simp only [RepV] at ra; subst ra
    obtain ⟨y, rfl, r⟩ := reps1 rv
    simp only [RepV] at r; subst r
    obtain ⟨ns, l, q⟩ := q
    obtain ⟨xs, t, rx'⟩ := c.rd l
    have := ints_reps ns rx'; subst this
    exact mt_lcount pins s σ H _ _ v us Q I rx rxs ⟨_, ns, _, rfl, rfl, t, q.int c⟩
  · simp only [RepV] at ra; subst ra
    obtain ⟨y, rfl, r⟩ := reps1 rv
    simp only [RepV] at r; subst r
    obtain ⟨ns, j, l, hj, hno, q⟩ := q
    obtain ⟨xs, t, rx'⟩ := c.rd l
    have := ints_reps ns rx'; subst this
    refine mt_index pins s σ H _ _ v us Q I rx rxs ⟨_, _, _, j, _, rfl, rfl, t, rfl, ?_, by rw [List.getElem?_map, hj]; rfl, by simp [eqV], fun m z hm hz => ?_, q.int c⟩
    · simp [flatV]
    · rw [List.getElem?_map] at hz
      cases e : ns[m]? with
      | none => rw [e] at hz; cases hz
      | some n =>
        rw [e] at hz; cases hz
        have := hno m hm
        rw [e] at this
        simp [eqV]
        intro h; exact this (by rw [h])
  · simp only [RepV] at ra
    obtain ⟨p, xs, rfl, t, r⟩ := ra
    obtain ⟨y, rfl, ry⟩ := reps1 rv
    simp only [RepV] at ry; subst ry
    obtain ⟨ns, j, rfl, hj, hno, q⟩ := q
    have := ints_reps ns r; subst this
    exact mt_tup_indexI pins s σ H _ _ v us Q I rx rxs ⟨p, ns, _, j, rfl, rfl, t.sq, hj, hno, q.int c⟩
  · simp only [RepV] at ra; subst ra
    have := reps0 rv; subst this
    obtain ⟨ys, hs, q⟩ := q
    obtain ⟨zs, e, rz⟩ := c.lst hs
    refine mt_reverse pins s σ H _ _ v us Q I rx rxs ⟨_, zs, rfl, rfl, e, ?_⟩
    exact fin.chg c hs e rz.reverse (by simp only [RepV]) q
  · simp only [RepV] at ra; subst ra
    obtain ⟨y, rfl, r⟩ := reps1 rv
    simp only [RepV] at r; subst r
    obtain ⟨ns, j, hs, hj, hno, q⟩ := q
    obtain ⟨zs, e, rz⟩ := c.lst hs
    have := ints_reps ns rz; subst this
    refine mt_remove pins s σ H _ _ v us Q I rx rxs ⟨_, ns, _, j, rfl, rfl, e, hj, hno, ?_⟩
    exact fin.chg c hs e (reps_ints _) (by simp only [RepV]) q
  · simp only [RepV] at ra; subst ra
    obtain ⟨y, rfl, r⟩ := reps1 rv
    simp only [RepV] at r; subst r
    obtain ⟨ys, hs, hz, q⟩ := q
    obtain ⟨zs, e, rz⟩ := c.rd hs
    have := strs_reps ys rz; subst this
    exact mt_join pins s σ H _ _ v us Q I rx rxs ⟨_, _, ys, rfl, rfl, .inl e, hz, q.str c⟩
  · exact q.elim
theorem ty_rep {K : PySem.W.Frag} {S : Sto} {H : Hp} {v : Val} {x : V} {n : String} (c : Cor K S H) (r : RepV K H v x) (h : tyName v S = some n) : TyX K H x (.type n) := by
  unfold tyName at h
  split at h
  · cases h; simp only [RepV] at r; subst r; exact .base .non
  · cases h; simp only [RepV] at r; subst r; exact .base (.bl _)
  · cases h; simp only [RepV] at r; subst r; exact .base (.int _)
  · cases h; simp only [RepV] at r; subst r; exact .base (.str _)
  · cases h; simp only [RepV] at r
    obtain ⟨p, xs, rfl, ⟨o, t, _⟩ | ⟨o, _, _, t, hc, _⟩, _⟩ := r
    · exact .fTuple t
    · exact .kTuple t hc
  · simp only [RepV] at r; subst r
    split at h
    · cases h; rename_i e
      obtain ⟨xs, e, _⟩ := c.lst e
      exact .base (.lst e)
    · cases h; rename_i e
      have := c _ _ e
      simp only [RepA] at this
      obtain ⟨xs, e | ⟨o, e⟩, _⟩ := this
      · exact .base (.lst e)
      · exact .base (.frz e)
    · cases h; rename_i e
      have := c _ _ e
      simp only [RepA] at this
      obtain ⟨xs, e, _⟩ := this
      exact .base (.dK e)
    · cases h; rename_i e
      have := c _ _ e
      simp only [RepA] at this
      obtain ⟨xs, e, _⟩ := this
      exact .base (.dT e)
    · cases h
  · cases h; simp only [RepV] at r
    obtain ⟨p, xs, rfl, t, _⟩ := r
    exact .base (.tup t)
theorem kitAny_of {K : PySem.W.Frag} {n : String} : ∀ ts : List String, (ts.all fun t => (kitB n t).isSome) = true → PySem.W.kitAny K (.type n) (ts.map Value.type) = some (ts.any fun t => kitB n t == some true)
  | [], _ => kitAny_nil
  | t :: ts, h => by
    simp only [List.all_cons, Bool.and_eq_true] at h
    obtain ⟨b, hb⟩ := Option.isSome_iff_exists.mp h.1
    refine kitAny_cons (b := b) (kit_ty hb) (fun e => ?_) (fun e => ?_)
    · subst e
      rw [kitAny_of ts h.2, List.any_cons, hb]; rfl
    · subst e
      rw [List.any_cons, hb]; rfl
end
end M

namespace M
open PySem PySem.Spec L2
def visB (sc : Scope) (x : Str) : Bool := match sc.names.lookup x with
  | some .local => true | some .cell => true | some .free => true | _ => false
def locB (sc : Scope) (x : Str) : Bool := match sc.names.lookup x with
  | some .local => true | some .cell => true | _ => false
def glB (sc : Scope) (x : Str) : Bool := match sc.names.lookup x with
  | some .globalImplicit => true | _ => false
def notDbg (x : Str) : Bool := !(x == ("__debug__" : Str)) && !(x == ("__classdict__" : Str))
def baseOk : Expr → Bool
  | .Call (.Name id _) [] [] _ => id != "super"
  | _ => true
def tyOk (t : String) : Bool := t == "int" || t == "bool" || t == "str" || t == "tuple" || t == "list" || t == "dict"
/-- class names of an isinstance's tuple -/
def mTys (sc : Scope) : List String → List Expr → Bool
  | [], [] => true
  | t :: ts, .Name x _ :: es => tyOk t && decide (x = Str.ofString t) && glB sc x && mTys sc ts es
  | _, _ => false
mutual
/-- a target's slots -/
def slots : T → List Nat
  | .nm i => [i]
  | .tup ts => slotss ts
  | _ => []
def slotss : List T → List Nat
  | [] => []
  | t :: ts => slots t ++ slotss ts
end
def notLock : E → Bool
  | .lockE _ => false
  | _ => true
/-- zip wants a target of several names -/
def zipOk : I → Expr → Bool
  | .zip _ _, .Tuple .. => true
  | .zip _ _, _ => false
  | _, _ => true
mutual
def mE (N : List Str) (sc : Scope) : E → Expr → Bool
  | .v i, e => match e with
    | .Name x _ => decide (N[i]? = some x) && visB sc x && notDbg x
    | _ => false
  | .int i, e => match e with
    | .Constant (.int j) _ _ => decide (i = j)
    | _ => false
  | .bl i, e => match e with
    | .Constant (.bool j) _ _ => decide (i = j)
    | _ => false
  | .non, e => match e with
    | .Constant .none _ _ => true
    | _ => false
  | .str i, e => match e with
    | .Constant (.str j) _ _ => decide (i = j)
    | _ => false
  | .g x, e => match e with
    | .Name y _ => decide (x = y) && glB sc y && notDbg y
    | _ => false
  | .bin op a b, e => match e with
    | .BinOp a' op' b' _ => decide (op = op') && mE N sc a a' && mE N sc b b'
    | _ => false
  | .neg a, e => match e with
    | .UnaryOp .USub a' _ => mE N sc a a'
    | _ => false
  | .cmp op a b, e => match e with
    | .Compare a' [op'] [b'] _ => decide (op = op') && mE N sc a a' && mE N sc b b' && !(behindInMarks op' b')
    | _ => false
  | .chain o1 o2 a b c, e => match e with
    | .Compare a' [p1, p2] [b', c'] _ => decide (o1 = p1) && decide (o2 = p2) && mE N sc a a' && mE N sc b b' && mE N sc c c' && !(behindInMarks p1 b') && !(behindInMarks p2 c')
    | _ => false
  | .and es, e => match e with
    | .BoolOp .And es' _ => mEs N sc es es' && !es.isEmpty
    | _ => false
  | .or es, e => match e with
    | .BoolOp .Or es' _ => mEs N sc es es' && !es.isEmpty
    | _ => false
  | .not a, e => match e with
    | .UnaryOp .Not a' _ => mE N sc a a'
    | _ => false
  | .ife t a b, e => match e with
    | .IfExp t' a' b' _ => mB N sc t t' && mE N sc a a' && mE N sc b b'
    | _ => false
  | .tup es, e => match e with
    | .Tuple es' _ _ => mEs N sc es es'
    | _ => false
  | .lst es, e => match e with
    | .List es' _ => mEs N sc es es'
    | _ => false
  | .ix a i, e => match e with
    | .Subscript a' i' _ => mE N sc a a' && mE N sc i i'
    | _ => false
  | .sl a lo hi, e => match e with
    | .Subscript a' (.Slice lo' hi' none _) _ => mE N sc a a' && mP N sc lo lo' && mP N sc hi hi'
    | _ => false
  | .rev a, e => match e with
    | .Subscript a' (.Slice none none (some (.UnaryOp .USub (.Constant (.int 1) _ _) _)) _) _ => mE N sc a a'
    | _ => false
  | .fld a f, e => match e with
    | .Attribute a' f' _ => decide (f = f') && mE N sc a a' && baseOk a'
    | _ => false
  | .call f es, e => match e with
    | .Call (.Name x _) es' [] _ => decide (f = x) && glB sc x && notDbg x && mEs N sc es es'
    | _ => false
  | .new C es, e => match e with
    | .Call (.Name x _) es' [] _ => decide (C = x) && glB sc x && notDbg x && mEs N sc es es'
    | _ => false
  | .meth o m es, e => match e with
    | .Call (.Attribute o' m' ap) es' [] p => mE N sc o o' && decide (m = m') && baseOk o' && decide (ap.endLine = p.line) && mEs N sc es es' && decide (es.length < 5)
    | _ => false
  | .repr a, e => match e with
    | .Call (.Name x _) [a'] [] _ => decide (x = "repr") && glB sc x && mE N sc a a'
    | _ => false
  | .blt b es, e => match e with
    | .Call (.Name x _) es' [] _ => decide (x = bltName b) && glB sc x && mEs N sc es es' && !es.isEmpty
    | _ => false
  | .mth m o es, e => match e with
    | .Call (.Attribute o' m' ap) es' [] p => mE N sc o o' && decide (m' = mthName m) && baseOk o' && decide (ap.endLine = p.line) && mEs N sc es es' && decide (es.length < 5) && decide (m = .tindex → es.length ≠ 0)
    | _ => false
  | .isi a t, e => match e with
    | .Call (.Name x _) [a', .Name y _] [] _ => decide (x = "isinstance") && glB sc x && mE N sc a a' && tyOk t && decide (y = Str.ofString t) && glB sc y
    | _ => false
  | .isiT a ts, e => match e with
    | .Call (.Name x _) [a', .Tuple tys _ _] [] _ => decide (x = "isinstance") && glB sc x && mE N sc a a' && mTys sc ts tys && decide (ts.length ≤ 100)
    | _ => false
  | .lc own t it ifs b, e => match e with
    | .ListComp b' [⟨t', it', ifs', 0⟩] scope _ => zipOk it t' && blkC N sc scope own && mI N sc it it' && mT N (relS scope sc) t t' && mBs N (relS scope sc) ifs ifs' && decide (ifs.length ≤ 1) && mE N (relS scope sc) b b' && decide (∀ i ∈ slots t, i ∈ own.map (·.2)) && (own.all fun p => (match scope.names.lookup p.1 with | some .local => true | some .cell => true | _ => false))
    | _ => false
  | .dK0, e => match e with
    | .Dict [] [] _ => true
    | _ => false
  | .dT0, e => match e with
    | .Dict [] [] _ => true
    | _ => false
  | .dT1 k v, e => match e with
    | .Dict [some k'] [v'] _ => mE N sc k k' && mE N sc v v'
    | _ => false
  | .addL a b, e => match e with
    | .BinOp a' .Add b' _ => mE N sc a a' && mE N sc b b'
    | _ => false
  | .revT a, e => match e with
    | .Subscript a' (.Slice none none (some (.UnaryOp .USub (.Constant (.int 1) _ _) _)) _) _ => mE N sc a a'
    | _ => false
  | .ktup es, e => match e with
    | .Tuple es' _ _ => mEs N sc es es'
    | _ => false
  | .lrng1 a, e => match e with
    | .Call (.Name x _) [.Call (.Name y _) [a'] [] _] [] _ => decide (x = "list") && glB sc x && decide (y = "range") && glB sc y && mE N sc a a'
    | _ => false
  | .lrng2 a b, e => match e with
    | .Call (.Name x _) [.Call (.Name y _) [a', b'] [] _] [] _ => decide (x = "list") && glB sc x && decide (y = "range") && glB sc y && mE N sc a a' && mE N sc b b'
    | _ => false
  | .lrev a, e => match e with
    | .Call (.Name x _) [.Call (.Name y _) [a'] [] _] [] _ => decide (x = "list") && glB sc x && decide (y = "reversed") && glB sc y && mE N sc a a'
    | _ => false
  | .trev a, e => match e with
    | .Call (.Name x _) [.Call (.Name y _) [a'] [] _] [] _ => decide (x = "tuple") && glB sc x && decide (y = "reversed") && glB sc y && mE N sc a a'
    | _ => false
  | .sset a, e => match e with
    | .Call (.Name x _) [.Call (.Name y _) [a'] [] _] [] _ => decide (x = "sorted") && glB sc x && decide (y = "set") && glB sc y && mE N sc a a'
    | _ => false
  | .dix a i, e => match e with
    | .Subscript a' i' _ => mE N sc a a' && mE N sc i i'
    | _ => false
  | .dg1 d k, e => match e with
    | .Call (.Attribute d' m' ap) [k'] [] p => decide (m' = "get") && baseOk d' && decide (ap.endLine = p.line) && mE N sc d d' && mE N sc k k'
    | _ => false
  | .dg2 d k y, e => match e with
    | .Call (.Attribute d' m' ap) [k', y'] [] p => decide (m' = "get") && baseOk d' && decide (ap.endLine = p.line) && mE N sc d d' && mE N sc k k' && mE N sc y y'
    | _ => false
  | .dsd d k y, e => match e with
    | .Call (.Attribute d' m' ap) [k', y'] [] p => decide (m' = "setdefault") && baseOk d' && decide (ap.endLine = p.line) && mE N sc d d' && mE N sc k k' && mE N sc y y'
    | _ => false
  | .dpop d k, e => match e with
    | .Call (.Attribute d' m' ap) [k'] [] p => decide (m' = "pop") && baseOk d' && decide (ap.endLine = p.line) && mE N sc d d' && mE N sc k k'
    | _ => false
  | .din neg k d, e => match e with
    | .Compare k' [op'] [d'] _ => decide (op' = if neg then .NotIn else .In) && mE N sc k k' && mE N sc d d' && !(behindInMarks op' d')
    | _ => false
  | .lockE a, e => match e with
    | .ListComp b g s p => mE N sc a (.ListComp b g s p)
    | _ => false
def mEs (N : List Str) (sc : Scope) : List E → List Expr → Bool
  | [], es => match es with
    | [] => true
    | _ => false
  | a :: as, es => match es with
    | e :: es => mE N sc a e && mEs N sc as es
    | _ => false
def mB (N : List Str) (sc : Scope) : B → Expr → Bool
  | .val a, e => match e with
    | .BoolOp .. => false
    | .UnaryOp .. => false
    | .IfExp .. => false
    | .Compare .. => false
    | e => mE N sc a e
  | .cmp op a b, e => match e with
    | .Compare a' [op'] [b'] _ => decide (op = op') && mE N sc a a' && mE N sc b b' && !(behindInMarks op' b')
    | _ => false
  | .chain o1 o2 a b c, e => match e with
    | .Compare a' [p1, p2] [b', c'] _ => decide (o1 = p1) && decide (o2 = p2) && mE N sc a a' && mE N sc b b' && mE N sc c c' && !(behindInMarks p1 b') && !(behindInMarks p2 c')
    | _ => false
  | .chain3 o1 o2 o3 a b c d, e => match e with
    | .Compare a' [p1, p2, p3] [b', c', d'] _ => decide (o1 = p1) && decide (o2 = p2) && decide (o3 = p3) && mE N sc a a' && mE N sc b b' && mE N sc c c' && mE N sc d d' && !(lastMarks [p1, p2, p3] [b', c', d'])
    | _ => false
  | .not b, e => match e with
    | .UnaryOp .Not b' _ => mB N sc b b'
    | _ => false
  | .and bs, e => match e with
    | .BoolOp .And bs' _ => mBs N sc bs bs' && !bs.isEmpty
    | _ => false
  | .or bs, e => match e with
    | .BoolOp .Or bs' _ => mBs N sc bs bs' && !bs.isEmpty
    | _ => false
  | .din neg k d, e => match e with
    | .Compare k' [op'] [d'] _ => decide (op' = if neg then .NotIn else .In) && mE N sc k k' && mE N sc d d' && !(behindInMarks op' d')
    | _ => false
def mBs (N : List Str) (sc : Scope) : List B → List Expr → Bool
  | [], es => match es with
    | [] => true
    | _ => false
  | a :: as, es => match es with
    | e :: es => mB N sc a e && mBs N sc as es
    | _ => false
def mP (N : List Str) (sc : Scope) : P → Option Expr → Bool
  | .no, e => match e with
    | none => true
    | _ => false
  | .at a, e => match e with
    | some e => mE N sc a e
    | _ => false
def mT (N : List Str) (sc : Scope) : T → Expr → Bool
  | .nm i, e => match e with
    | .Name x _ => decide (N[i]? = some x) && locB sc x
    | _ => false
  | .tup ts, e => match e with
    | .Tuple es _ _ => mTs N sc ts es
    | _ => false
  | .ix a i, e => match e with
    | .Subscript a' i' _ => mE N sc a a' && mE N sc i i'
    | _ => false
  | .fld _ _, _ => false
  | .dix a i, e => match e with
    | .Subscript a' i' _ => mE N sc a a' && mE N sc i i'
    | _ => false
def mTs (N : List Str) (sc : Scope) : List T → List Expr → Bool
  | [], es => match es with
    | [] => true
    | _ => false
  | a :: as, es => match es with
    | e :: es => mT N sc a e && mTs N sc as es
    | _ => false
def mI (N : List Str) (sc : Scope) : I → Expr → Bool
  | .val a, e => match e with
    | .Set .. => false
    | e => mE N sc a e
  | .rng1 a, e => match e with
    | .Call (.Name x _) [a'] [] _ => decide (x = "range") && glB sc x && mE N sc a a'
    | _ => false
  | .rng2 a b, e => match e with
    | .Call (.Name x _) [a', b'] [] _ => decide (x = "range") && glB sc x && mE N sc a a' && mE N sc b b'
    | _ => false
  | .keys a, e => match e with
    | .Set .. => false
    | e => mE N sc a e
  | .keysM a, e => match e with
    | .Call (.Attribute a' m' ap) [] [] p => decide (m' = "keys") && baseOk a' && decide (ap.endLine = p.line) && mE N sc a a'
    | _ => false
  | .zip a b, e => match e with
    | .Call (.Name x _) [a', b'] [] _ => decide (x = "zip") && glB sc x && mE N sc a a' && mE N sc b b'
    | _ => false
  | .rvs a, e => match e with
    | .Call (.Name x _) [a'] [] _ => decide (x = "reversed") && glB sc x && mE N sc a a'
    | _ => false
  | .rvs1 a, e => match e with
    | .Call (.Name x _) [.Call (.Name y _) [a'] [] _] [] _ => decide (x = "reversed") && decide (y = "range") && glB sc x && glB sc y && mE N sc a a'
    | _ => false
  | _, _ => false
end
/-- two or three different local names -/
def mPar (N : List Str) (sc : Scope) (line : Nat) : List Nat → List Expr → Bool
  | [], [] => true
  | i :: is, .Name x p :: es => decide (N[i]? = some x) && (match sc.names.lookup x with | some .local => true | _ => false) && decide (p.line = line) && mPar N sc line is es
  | _, _ => false
/-- tests of a caught error, n its name -/
def mHE (N : List Str) (sc : Scope) (n : Option Str) : HE → Expr → Bool
  | .bl b, e => match e with
    | .Constant (.bool k) _ _ => decide (b = k)
    | _ => false
  | .is y, e => match e with
    | .Call (.Name f _) [.Name a _, .Name y' _] [] _ => decide (f = "isinstance") && glB sc f && decide (n = some a) && visB sc a && notDbg a && decide (y = y') && glB sc y' && notDbg y' && decide (y' ≠ "__name__")
    | _ => false
  | .v i, e => match e with
    | .Name x _ => decide (N[i]? = some x) && visB sc x && notDbg x
    | _ => false
  | .not a, e => match e with
    | .UnaryOp .Not a' _ => mHE N sc n a a'
    | _ => false
  | .and a b, e => match e with
    | .BoolOp .And [a', b'] _ => mHE N sc n a a' && mHE N sc n b b'
    | _ => false
def mHK (N : List Str) (sc : Scope) (n : Option Str) : HK → List Stmt → Bool
  | .ret h, su => match su with
    | [.Return (some e) _] => mHE N sc n h e
    | _ => false
  | .setB i h, su => match su with
    | [.Assign [.Name x _] e _] => decide (N[i]? = some x) && decide (sc.names.lookup x = some .local) && mHE N sc n h e
    | _ => false
  | .setN i, su => match su with
    | [.Assign [.Name x _] (.Constant .none _ _) _] => decide (N[i]? = some x) && decide (sc.names.lookup x = some .local)
    | _ => false
  | .setS i z, su => match su with
    | [.Assign [.Name x _] (.Constant (.str z') _ _) _] => decide (N[i]? = some x) && decide (sc.names.lookup x = some .local) && decide (z = z')
    | _ => false
def mHd (N : List Str) (sc : Scope) (rs : List Str) (h : Hd) : ExceptHandler → Bool
  | .ExceptHandler (some (.Name x _)) nm su _ => decide (x = h.y) && glB sc x && notDbg x && rs.contains x && mHK N sc nm h.k su && (match h.n, nm with
    | none, none => true
    | some i, some z => decide (N[i]? = some z) && decide (sc.names.lookup z = some .local)
    | _, _ => false)
  | _ => false
def mHds (N : List Str) (sc : Scope) (rs : List Str) : List Hd → List ExceptHandler → Bool
  | [], hs => match hs with
    | [] => true
    | _ => false
  | h :: hs, xs => match xs with
    | x :: xs => mHd N sc rs h x && mHds N sc rs hs xs
    | [] => false
mutual
def mC (N : List Str) (sc : Scope) (rs : List Str) : C → Stmt → Bool
  | .asg t e, st => match st with
    | .Assign [.Attribute a' f' _] e' _ => (match t with
        | .fld a f => decide (f = f') && mE N sc a a' && mE N sc e e'
        | _ => false)
    | .Assign [t'] e' _ => notLock e && mT N sc t t' && mE N sc e e' && (match t', e' with
        | .Tuple ts _ _, .Tuple vs _ _ => vs.all (foldedForSure 8) || decide (3 < ts.length) || ts.any (fun t => match t with | .Name x _ => (match sc.names.lookup x with | some .local => false | _ => true) | _ => true)
        | _, _ => true)
    | _ => false
  | .par is es, st => match st with
    | .Assign [.Tuple ts _ _] (.Tuple es' _ _) _ => mPar N sc ((ts.head?.map (·.pos.line)).getD 0) is ts && mEs N sc es es' && decide (is.Nodup) && (decide (is.length = 2) || decide (is.length = 3)) && decide (es.length = is.length) && !(es'.all (foldedForSure 8)) && !(es'.all (constantsAlone 8))
    | _ => false
  | .aug i op e, st => match st with
    | .AugAssign (.Name x _) op' e' _ => decide (N[i]? = some x) && locB sc x && decide (op = op') && mE N sc e e'
    | _ => false
  | .ex e, st => match st with
    | .Expr e' _ => mE N sc e e' && (match e' with | .ListComp .. => false | _ => true)
    | _ => false
  | .ret e, st => match st with
    | .Return (some e') _ => mE N sc e e'
    | _ => false
  | .retN, st => match st with
    | .Return none _ => true
    | _ => false
  | .ite c p q, st => match st with
    | .If c' p' q' _ => mB N sc c c' && mCs N sc rs p p' && mCs N sc rs q q'
    | _ => false
  | .tryM p hs, st => match st with
    | .Try p' (h :: hds) [] [] _ => mCs N sc rs p p' && mHds N sc rs hs (h :: hds)
    | _ => false
  | .tryR p y h, st => match st with
    | .Try p' [.ExceptHandler (some (.Name x _)) none hb _] [] [] _ => decide (x = y) && glB sc x && notDbg x && rs.contains x && mCs N sc rs p p' && (match h, hb with
        | .retB k, [.Return (some (.Constant (.bool k') _ _)) _] => decide (k = k')
        | _, _ => false)
    | _ => false
  | .whil c p, st => match st with
    | .While c' p' [] _ => mB N sc c c' && mCs N sc rs p p'
    | _ => false
  | .loop t it p, st => match st with
    | .For t' it' p' [] _ => zipOk it t' && mT N sc t t' && mI N sc it it' && mCs N sc rs p p'
    | _ => false
  | .brk, st => match st with
    | .Break _ => true
    | _ => false
  | .cnt, st => match st with
    | .Continue _ => true
    | _ => false
  | .pass, st => match st with
    | .Pass _ => true
    | _ => false
  | .rais x, st => match st with
    | .Raise (some (.Call (.Name y _) [.Constant (.str _) _ _] [] _)) none _ => decide (x = y) && glB sc y && decide (x ∈ rs) && notDbg y
    | _ => false
  | .lock c, st => mC N sc rs c st
  | .augI _ _ _ _, _ => false
def mCs (N : List Str) (sc : Scope) (rs : List Str) : List C → List Stmt → Bool
  | [], es => match es with
    | [] => true
    | _ => false
  | a :: as, es => match es with
    | e :: es => mC N sc rs a e && mCs N sc rs as es
    | _ => false
end
end M

set_option maxHeartbeats 1000000
namespace M
open PySem PySem.Spec L2
abbrev XLoc := Str → Loc → Sto → Prop
/-- a promise over heaps -/
def lSp (K : PySem.W.Frag) (ec : Str → Option Addr) (sp : Spec) : Sp := fun xs H Q E => ∃ vs S, RepVs K H vs xs ∧ Cor K S H ∧
  app sp vs S (fin K S H Q) (fun c S' => ∀ C, ec c = some C → ∀ H', Evo S H S' H' → Cor K S' H' → E (.ref C) none H')
def FnM (P : Program) (w : World) (K : PySem.W.Frag) (mg : Str → Option Value) (base : Heap) (k : Nat) (ec : Str → Option Addr) (x : Str) (sp : Spec) : Prop :=
  ∃ f fd ps, mg x = some (.ref f) ∧ PySem.W.keepIn K (.ref f) = true ∧ Binds K fd ps [] ∧ FnOk P w K mg base (L2.CX P w) k f fd ps (lSp K ec sp)
def bltNames : List Str := ["len", "abs", "min", "max", "int", "str", "list", "tuple", "sorted", "set", "sum", "bool", "isinstance", "range", "zip", "enumerate", "reversed", "repr", "dict"]
/-- a class that makes instances -/
def NewM (P : Program) (w : World) (K : PySem.W.Frag) (mg : Str → Option Value) (base : Heap) (k : Nat) (ec : Str → Option Addr) (C : Str) (sp : Spec) : Prop :=
  ∃ j f fd ps, j + 1 ≤ k ∧ mg C = some (.ref (He.ga K C)) ∧ Mk K (He.ga K C) f ∧ Binds K fd ps [] ∧ FnOk P w K mg base (L2.CX P w) j f fd ps (lSp K ec sp)
/-- a method -/
def MetM (P : Program) (w : World) (K : PySem.W.Frag) (mg : Str → Option Value) (base : Heap) (k : Nat) (ec : Str → Option Addr) (C m : Str) (sp : Spec) : Prop :=
  ∃ f fd ps, Cls K (He.ga K C) ∧ Meth K (He.ga K C) m f ∧ Binds K fd ps [] ∧ FnOk P w K mg base (L2.CX P w) k f fd ps (lSp K ec sp)
structure GOk (P : Program) (w : World) (K : PySem.W.Frag) (mg : Str → Option Value) (base : Heap) (k : Nat) (G : Gam) : Prop where
  fn : ∀ x sp, G.fn x = some sp → FnM P w K mg base k G.ecls x sp
  cst : ∀ x v, G.cst x = some v → ∃ y u, mg x = some u ∧ RelV y u ∧ ∀ H, RepV K H v y
  blt : ∀ x ∈ bltNames, mg x = none
  fo : ∀ C f, G.fo C f = true → Cls K (He.ga K C) ∧ NoAttr K (He.ga K C) f
  new : ∀ C sp, G.new C = some sp → NewM P w K mg base k G.ecls C sp
  mt : ∀ C m sp, G.mt C m = some sp → MetM P w K mg base k G.ecls C m sp
  exm : ∀ c y b, G.exm c y = some b → ∃ C Y, G.ecls c = some C ∧ G.ecls y = some Y ∧ PySem.W.exmOne K (.ref C) (.ref Y) = some b
  exi : ∀ c y b, G.exi c y = some b → ∃ C, G.ecls c = some C ∧ ExcC K C ∧ ((∃ Y, mg y = some (.ref Y) ∧ PySem.W.kitOne K (.ref C) (.ref Y) = some b) ∨ mg y = none ∧ ∃ t, bootBuiltins y = some (.type t) ∧ PySem.W.kitOne K (.ref C) (.type t) = some b)
def WM (K : PySem.W.Frag) (ec : Str → Option Addr) (S0 : Sto) (H0 : Hp) (XP : XLoc) : WX := fun cls d σ H =>
  ∃ c C ρ S, ec c = some C ∧ cls = .ref C ∧ d = none ∧ CorL K H ρ σ ∧ Cor K S H ∧ Evo S0 H0 S H ∧ XP c ρ S
structure Sd (X : Cx) (G : Gam) (k : Nat) (S0 : Sto) (H0 : Hp) (XP : XLoc) : Prop where
  room : Room k X.A
  calm : X.calm = true
  nd : X.N.Nodup
  g : GOk X.prog X.w X.K X.mg X.base k G
  tk : Takes X (WM X.K G.ecls S0 H0 XP)
  gd : G.rp = true → X.A.guards = some []
/-- readings over stores -/
def lE (K : PySem.W.Frag) (S0 : Sto) (H0 : Hp) (t : Loc → Sto → Post → Prop) : TE := fun σ H Q => ∃ ρ S, CorL K H ρ σ ∧ Cor K S H ∧ Evo S0 H0 S H ∧ t ρ S (fin K S H Q)
def lB (K : PySem.W.Frag) (S0 : Sto) (H0 : Hp) (t : Loc → Sto → (Bool → Sto → Prop) → Prop) : TT := fun σ H Q => ∃ ρ S, CorL K H ρ σ ∧ Cor K S H ∧ Evo S0 H0 S H ∧ t ρ S (fun b S' => ∀ H', Evo S H S' H' → Cor K S' H' → Q b H')
def lA (K : PySem.W.Frag) (S0 : Sto) (H0 : Hp) (t : Loc → Sto → (List Val → Sto → Prop) → Prop) : TA := fun σ H Q => ∃ ρ S, CorL K H ρ σ ∧ Cor K S H ∧ Evo S0 H0 S H ∧ t ρ S (fun vs S' => ∀ H' xs, Evo S H S' H' → Cor K S' H' → RepVs K H' vs xs → Q xs H')
def lP (K : PySem.W.Frag) (S0 : Sto) (H0 : Hp) (t : Loc → Sto → (Option Int → Sto → Prop) → Prop) : TO := fun σ H Q => ∃ ρ S, CorL K H ρ σ ∧ Cor K S H ∧ Evo S0 H0 S H ∧ t ρ S (fun o S' => ∀ H', Evo S H S' H' → Cor K S' H' → Q o H')
theorem PE.imp {X : Cx} {e : Expr} {t t' : TE} (h : PE X e t) (i : ∀ σ H Q, t' σ H Q → t σ H Q) : PE X e t' := ⟨fun pins s σ H Q I q => h.run pins s σ H Q I (i _ _ _ q)⟩
theorem PT.imp {X : Cx} {e : Expr} {t t' : TT} (h : PT X e t) (i : ∀ σ H Q, t' σ H Q → t σ H Q) : PT X e t' := ⟨fun pins s σ H Q I q => h.run pins s σ H Q I (i _ _ _ q)⟩
theorem PW.imp {X : Cx} {e : Expr} {t t' : TT} (h : PW X e t) (i : ∀ σ H Q, t' σ H Q → t σ H Q) : PW X e t' := ⟨fun wh pins s σ H Q I q => h.run wh pins s σ H Q I (i _ _ _ q)⟩
theorem PA.imp {X : Cx} {e : List Expr} {t t' : TA} (h : PA X e t) (i : ∀ σ H Q, t' σ H Q → t σ H Q) : PA X e t' := ⟨fun pos pins s σ H Q I q => h.run pos pins s σ H Q I (i _ _ _ q)⟩
theorem PO.imp {X : Cx} {e : Option Expr} {t t' : TO} (h : PO X e t) (i : ∀ σ H Q, t' σ H Q → t σ H Q) : PO X e t' := ⟨fun pins s σ H Q I q => h.run pins s σ H Q I (i _ _ _ q)⟩
theorem PTs.imp {X : Cx} {e : List Expr} {t t' : TT} (h : PTs X e t) (i : ∀ σ H Q, t' σ H Q → t σ H Q) : PTs X e t' := ⟨fun pins s σ H Q I q => h.run pins s σ H Q I (i _ _ _ q)⟩
theorem fin.mono {K : PySem.W.Frag} {S S1 : Sto} {H H1 : Hp} {Q : VK} (e : Evo S H S1 H1) {r : Val} {S' : Sto} (h : fin K S H Q r S') : fin K S1 H1 Q r S' := fun H' z e' c r => h H' z (e.trans e') c r
/-- two readings in a row -/
theorem lE.two {K : PySem.W.Frag} {S0 : Sto} {H0 : Hp} {ta tb : Loc → Sto → Post → Prop} {f : Val → Val → Sto → Post → Prop} {σ : L2.St} {H : Hp} {Q : VK} {R : R2}
    (ma : ∀ {ρ S Q Q'}, (∀ v S', Q v S' → Q' v S') → ta ρ S Q → ta ρ S Q') (mb : ∀ {ρ S Q Q'}, (∀ v S', Q v S' → Q' v S') → tb ρ S Q → tb ρ S Q')
    (mf : ∀ {v w S Q Q'}, (∀ v S', Q v S' → Q' v S') → f v w S Q → f v w S Q')
    (hR : ∀ x y H Q, l2 K f x y H Q → R x y H Q)
    (h : lE K S0 H0 (fun ρ S Q => ta ρ S fun v S1 => tb ρ S1 fun w S2 => f v w S2 Q) σ H Q) : tOp R (lE K S0 H0 ta) (lE K S0 H0 tb) σ H Q := by
  obtain ⟨ρ, S, cl, c, e0, q⟩ := h
  refine ⟨ρ, S, cl, c, e0, ma (fun v S1 q H1 x e1 c1 r1 => ?_) q⟩
  refine ⟨ρ, S1, cl.evo e1, c1, e0.trans e1, mb (fun w S2 q H2 y e2 c2 r2 => ?_) q⟩
  exact hR _ _ _ _ ⟨v, w, S2, r1.evo e2, r2, c2, mf (fun r S3 q => q.mono (e1.trans e2)) q⟩
theorem lookup_vis {sc : Scope} {x : Str} (h : visB sc x = true) : Vis sc x := by
  unfold visB at h
  split at h
  · exact .inl (by assumption)
  · exact .inr (.inl (by assumption))
  · exact .inr (.inr (by assumption))
  · cases h
theorem lookup_loc {sc : Scope} {x : Str} (h : locB sc x = true) : L2.Loc sc x := by
  unfold locB at h
  split at h
  · exact .inl (by assumption)
  · exact .inr (by assumption)
  · cases h
theorem gl_of {X : Cx} {x : Str} (h : glB X.env.scope x = true) : Gl X x := by
  unfold glB at h
  split at h
  · assumption
  · cases h
theorem dbg_of {x : Str} (h : notDbg x = true) : (x == ("__debug__" : Str)) = false ∧ (x == ("__classdict__" : Str)) = false := by
  unfold notDbg at h
  simp only [Bool.and_eq_true, Bool.not_eq_true'] at h
  exact h
theorem base_of {e : Expr} {f : Str} {env : Env} {whole : Sem Value} (h : baseOk e = true) : attributeBase e f env whole = whole := by
  unfold baseOk at h
  split at h
  · unfold attributeBase
    simp only [h, Bool.true_or, if_true]
  · rename_i hne
    unfold attributeBase
    split
    · exact absurd rfl (hne _ _ _)
    · rfl
end M

set_option maxHeartbeats 2000000
namespace M
open PySem PySem.Spec L2
/-- J walks the values xs while keep holds -/
def Walks (K : PySem.W.Frag) (S1 : Sto) (H1 : Hp) (xs : List Val) (keep : Sto → Prop) (J : It) : Prop := ∀ (i : Nat) (S : Sto) (H : Hp), Evo S1 H1 S H → Cor K S H → keep S →
  (i < xs.length → J.go i H ∧ ∀ x H', J.yld i H x H' → ∃ v, xs[i]? = some v ∧ RepV K H' v x ∧ Evo S H S H' ∧ Cor K S H') ∧ (i = xs.length → J.stop i H)
def lI (K : PySem.W.Frag) (S0 : Sto) (H0 : Hp) (t : Loc → Sto → (List Val → (Sto → Prop) → Sto → Prop) → Prop) : TI := fun σ H R => ∃ ρ S, CorL K H ρ σ ∧ Cor K S H ∧ Evo S0 H0 S H ∧
  t ρ S (fun xs keep S' => ∀ H' J, Evo S H S' H' → Cor K S' H' → Walks K S' H' xs keep J → R J H')
section
variable {X : Cx} {tg : Expr}
/-- a list, a tuple or a text is walked -/
def iAny (K : PySem.W.Frag) (tl : TE) : TI := fun σ H R => tl σ H fun x H1 => (∃ a, x = .ref a ∧ (∃ xs, SqL K H1 a xs) ∧ R (Itl K a) H1) ∨ (∃ a, x = .ref a ∧ (∃ xs, SqT K H1 a xs) ∧ R (Itt K a) H1) ∨ ∃ z, x = .str z ∧ R (Its z) H1
theorem pi_any {l : Expr} {tl : TE} (hl : PE X l tl) : PI X tg l (iAny X.K tl) := by
  refine ⟨fun pins s σ H R I h => ?_⟩
  refine thn (hl.run pins s σ H _ I h) fun v s1 ⟨x, H1, I1, r1, q1⟩ => ?_
  rcases q1 with ⟨a, e, ⟨xs, hq⟩, q⟩ | ⟨a, e, ⟨xs, hq⟩, q⟩ | ⟨z, e, q⟩
  · subst e
    cases r1
    obtain ⟨its, rv, p, hz⟩ := I1.list hq
    refine wpAny_pyIter_list p.isList ?_
    exact pi_one (tk := s1.toks) I1 _ (turn_list a _) ⟨_, Heap.get?_push_size _ rfl, rfl, rfl⟩ q
  · subst e
    cases r1
    obtain ⟨its, rv, p, hz⟩ := I1.tuple hq
    refine wpAny_pyIter_tuple (show s1.heap.IsTuple a its.toArray from p) ?_
    exact pi_one (tk := s1.toks) I1 _ (turn_tuple a _) ⟨_, Heap.get?_push_size _ rfl, rfl, rfl⟩ q
  · subst e
    obtain ⟨t, rfl⟩ := r1
    cases ha : z.cps.all (· < 128)
    · exact PySem.wpAny_pyIter_wide ha (pi_one (tk := s1.toks) I1 _ (turn_str _ z t "str_iterator" (.inr rfl)) ⟨_, Heap.get?_push_size _ rfl, rfl, rfl⟩ q)
    · exact PySem.wpAny_pyIter_ascii ha (pi_one (tk := s1.toks) I1 _ (turn_str _ z t "str_ascii_iterator" (.inl rfl)) ⟨_, Heap.get?_push_size _ rfl, rfl, rfl⟩ q)
theorem PI.imp {l : Expr} {w w' : TI} (h : PI X tg l w) (i : ∀ σ H R, w' σ H R → w σ H R) : PI X tg l w' := ⟨fun pins s σ H R I q => h.run pins s σ H R I (i _ _ _ q)⟩
end
section
variable {K : PySem.W.Frag} {S1 : Sto} {H1 : Hp}
theorem walks_list {a : Addr} {vs : List Val} : Walks K S1 H1 vs (fun S => rdL S a vs) (Itl K a) := fun i S H e c k => by
  obtain ⟨xs, l, r⟩ := c.rd k
  refine ⟨fun hi => ?_, fun hi => ⟨xs, l, by rw [r.length]; exact Nat.le_of_eq hi.symm⟩⟩
  have hx : i < xs.length := by rw [r.length]; exact hi
  refine ⟨⟨xs, xs[i], l, by simp [hx]⟩, fun x H' y => ?_⟩
  obtain ⟨e1, y⟩ := y
  subst e1
  obtain ⟨v, ev, rv⟩ := r.getR (y xs l)
  exact ⟨v, ev, rv, .refl, c⟩
theorem walks_tup {a : Addr} {vs : List Val} {xs : List V} (t : SqT K H1 a xs) (r : RepVs K H1 vs xs) : Walks K S1 H1 vs (fun _ => True) (Itt K a) := fun i S H e c k => by
  have l := SqT.evo e.tup e.frz t
  have r := r.evo e
  refine ⟨fun hi => ?_, fun hi => ⟨xs, l, by rw [r.length]; exact Nat.le_of_eq hi.symm⟩⟩
  have hx : i < xs.length := by rw [r.length]; exact hi
  refine ⟨⟨xs, xs[i], l, by simp [hx]⟩, fun x H' y => ?_⟩
  obtain ⟨e1, y⟩ := y
  subst e1
  obtain ⟨v, ev, rv⟩ := r.getR (y xs l)
  exact ⟨v, ev, rv, .refl, c⟩
theorem walks_str {z : Str} : Walks K S1 H1 (z.cps.toList.map fun c => .str ⟨#[c]⟩) (fun _ => True) (Its z) := fun i S H e c k => by
  refine ⟨fun hi => ?_, fun hi => ?_⟩
  · have hx : i < z.cps.size := by simpa using hi
    refine ⟨hx, fun x H' y => ?_⟩
    obtain ⟨e1, ch, h1, h2⟩ := y
    subst e1; subst h2
    refine ⟨.str ⟨#[ch]⟩, ?_, by simp only [RepV], .refl, c⟩
    rw [List.getElem?_map, Array.getElem?_toList, h1]; rfl
  · show z.cps.size ≤ i
    simp at hi; omega
theorem walks_rrng {n : Nat} : Walks K S1 H1 (rngV 0 n).reverse (fun _ => True) (Itc (0 + ((n : Nat) : Int) - 1) (-1) n) := fun i S H e c k => by
  have hl : (rngV 0 n).reverse.length = n := by unfold rngV; simp
  refine ⟨fun hi => ?_, fun hi => ?_⟩
  · rw [hl] at hi
    refine ⟨hi, fun x H' y => ?_⟩
    obtain ⟨e1, e2⟩ := y
    subst e1; subst e2
    refine ⟨.int (0 + ((n : Nat) : Int) - 1 + (i : Nat) * (-1)), ?_, by simp only [RepV], .refl, c⟩
    have hl2 : (rngV 0 n).length = n := by unfold rngV; simp
    rw [List.getElem?_reverse (by rw [hl2]; exact hi), hl2]
    unfold rngV
    rw [List.getElem?_map, List.getElem?_range (by omega)]
    show some (Val.int (0 + ((n - 1 - i : Nat) : Int))) = _
    congr 2
    omega
  · rw [hl] at hi
    show n ≤ i
    omega
theorem walks_rng {lo : Int} {n : Nat} : Walks K S1 H1 (rngV lo n) (fun _ => True) (Itr lo n) := fun i S H e c k => by
  have hl : (rngV lo n).length = n := by unfold rngV; simp
  refine ⟨fun hi => ?_, fun hi => ?_⟩
  · rw [hl] at hi
    refine ⟨hi, fun x H' y => ?_⟩
    obtain ⟨e1, e2⟩ := y
    subst e1; subst e2
    refine ⟨.int (lo + i), ?_, by simp only [RepV], .refl, c⟩
    unfold rngV
    rw [List.getElem?_map, List.getElem?_range hi]; rfl
  · rw [hl] at hi
    show n ≤ i
    omega
end
section
variable {K : PySem.W.Frag} {S1 : Sto} {H1 : Hp}
theorem RepK.at' {κ : Type} {H : Hp} {kvs : List (κ × Val)} {us : List (κ × V)} (h : RepK K H kvs us) : ∀ {i : Nat} {k : κ} {x : V}, us[i]? = some (k, x) → ∃ v, kvs[i]? = some (k, v) := by
  unfold RepK at h
  induction h with
  | nil => intro i k x e; simp at e
  | @cons p q ps qs hh t ih =>
    intro i k x e
    cases i with
    | zero =>
      simp only [List.getElem?_cons_zero, Option.some.injEq] at e ⊢
      subst e
      obtain ⟨p1, p2⟩ := p
      obtain ⟨h1, _⟩ := hh
      exact ⟨p2, by rw [show p1 = k from h1]⟩
    | succ i => simp only [List.getElem?_cons_succ] at e ⊢; exact ih e
theorem walks_keys {a : Addr} {o : Obj} {kvs : List (Key × Val)} {us : List (Key × V)} (hf : H1 a = some (.frz o (.dK us))) (r : RepK K H1 kvs us) : Walks K S1 H1 (kvs.map fun kv => kval kv.1) (fun S => S a = some (.fK kvs)) (Itk a o us) := fun i S H e c k => by
  have h1 := e.frz _ _ _ hf
  have hl := r.length'
  refine ⟨fun hi => ?_, fun hi => ⟨h1, by rw [hl]; rw [List.length_map] at hi; exact Nat.le_of_eq hi.symm⟩⟩
  rw [List.length_map] at hi
  refine ⟨⟨h1, by rw [hl]; exact hi⟩, fun x H' y => ?_⟩
  obtain ⟨e1, kk, v, e2, e3⟩ := y
  subst e1; subst e3
  obtain ⟨w, ew⟩ := r.at' e2
  exact ⟨kval kk, by rw [List.getElem?_map, ew]; rfl, rep_kval, .refl, c⟩
theorem walks_keysT {a : Addr} {o : Obj} {kvs : List (List Key × Val)} {us : List (List Key × V)} (hf : H1 a = some (.frz o (.dT us))) (r : RepK K H1 kvs us) : Walks K S1 H1 (kvs.map fun kv => .ptup (kv.1.map kval)) (fun S => S a = some (.fT kvs)) (Itkt a o us) := fun i S H e c k => by
  have h1 := e.frz _ _ _ hf
  have hl := r.length'
  refine ⟨fun hi => ?_, fun hi => ⟨h1, by rw [hl]; rw [List.length_map] at hi; exact Nat.le_of_eq hi.symm⟩⟩
  rw [List.length_map] at hi
  refine ⟨⟨h1, by rw [hl]; exact hi⟩, fun x H' y => ?_⟩
  obtain ⟨e1, kk, v, q, e2, e3, e4⟩ := y
  subst e1; subst e3
  obtain ⟨w, ew⟩ := r.at' e2
  exact ⟨.ptup (kk.map kval), by rw [List.getElem?_map, ew]; rfl, by simp only [RepV]; exact ⟨q, _, rfl, e4, rep_kvals⟩, .refl, c⟩
theorem pair_new {S : Sto} {H : Hp} {T : Addr} {v w : Val} {x y : V} (c : Cor K S H) (hT : H T = none) (r : RepV K H v x) (r' : RepV K H w y) : RepV K (upd H T (.tup [x, y])) (.ptup [v, w]) (.ref T) ∧ Evo S H S (upd H T (.tup [x, y])) ∧ Cor K S (upd H T (.tup [x, y])) := by
  have e : Evo S H S (upd H T (.tup [x, y])) := .tupN hT
  refine ⟨?_, e, c.tupN hT⟩
  simp only [RepV]
  exact ⟨T, _, rfl, upd_same, .cons (r.evo e) (.cons (r'.evo e) .nil)⟩
theorem zw_get {xs ys : List Val} {i : Nat} {v w : Val} (h : xs[i]? = some v) (h' : ys[i]? = some w) : (List.zipWith (fun x y => Val.ptup [x, y]) xs ys)[i]? = some (.ptup [v, w]) := by
  rw [List.getElem?_zipWith, h, h']
theorem walks_zip {a b : Addr} {xs ys : List Val} : Walks K S1 H1 (List.zipWith (fun x y => .ptup [x, y]) xs ys) (fun S => rdL S a xs ∧ rdL S b ys) (Itz K a b) := fun i S H e c k => by
  obtain ⟨us, l1, r1⟩ := c.rd k.1
  obtain ⟨ws, l2, r2⟩ := c.rd k.2
  have h1 := r1.length
  have h2 := r2.length
  refine ⟨fun hi => ?_, fun hi => ?_⟩
  · rw [List.length_zipWith] at hi
    have hx : i < us.length := by omega
    have hy : i < ws.length := by omega
    refine ⟨⟨us, ws, us[i], ws[i], l1, l2, by simp [hx], by simp [hy]⟩, fun x H' y => ?_⟩
    obtain ⟨T, z, z', rfl, hT, rfl, q1, q2⟩ := y
    obtain ⟨v, ev, rv⟩ := r1.getR (q1 us l1)
    obtain ⟨w, ew, rw'⟩ := r2.getR (q2 ws l2)
    obtain ⟨p1, p2, p3⟩ := pair_new c hT rv rw'
    exact ⟨_, zw_get ev ew, p1, p2, p3⟩
  · rw [List.length_zipWith] at hi
    exact ⟨us, ws, l1, l2, by omega⟩
theorem walks_zipT {a b : Addr} {xs ys : List Val} {us ws : List V} (t1 : SqT K H1 a us) (t2 : SqT K H1 b ws) (r1 : RepVs K H1 xs us) (r2 : RepVs K H1 ys ws) : Walks K S1 H1 (List.zipWith (fun x y => .ptup [x, y]) xs ys) (fun _ => True) (RZ.ItzT K a b) := fun i S H e c k => by
  have l1 := SqT.evo e.tup e.frz t1
  have l2 := SqT.evo e.tup e.frz t2
  have r1 := r1.evo e
  have r2 := r2.evo e
  have h1 := r1.length
  have h2 := r2.length
  refine ⟨fun hi => ?_, fun hi => ?_⟩
  · rw [List.length_zipWith] at hi
    have hx : i < us.length := by omega
    have hy : i < ws.length := by omega
    refine ⟨⟨us, ws, us[i], ws[i], l1, l2, by simp [hx], by simp [hy]⟩, fun x H' y => ?_⟩
    obtain ⟨T, z, z', rfl, hT, rfl, q1, q2⟩ := y
    obtain ⟨v, ev, rv⟩ := r1.getR (q1 us l1)
    obtain ⟨w, ew, rw'⟩ := r2.getR (q2 ws l2)
    obtain ⟨p1, p2, p3⟩ := pair_new c hT rv rw'
    exact ⟨_, zw_get ev ew, p1, p2, p3⟩
  · rw [List.length_zipWith] at hi
    exact ⟨us, ws, l1, l2, by omega⟩
theorem rev_get {α : Type} {xs : List α} {i : Nat} (h : i < xs.length) : xs.reverse[i]? = xs[xs.length - 1 - i]? := List.getElem?_reverse h
theorem walks_rev {a : Addr} {vs : List Val} {n : Nat} (hn : n = vs.length) : Walks K S1 H1 vs.reverse (fun S => rdL S a vs) (Itv K a n) := fun i S H e c k => by
  subst hn
  obtain ⟨xs, l, r⟩ := c.rd k
  have hl := r.length
  refine ⟨fun hi => ?_, fun hi => by rw [List.length_reverse] at hi; exact Nat.le_of_eq hi.symm⟩
  rw [List.length_reverse] at hi
  have hx : vs.length - 1 - i < xs.length := by omega
  refine ⟨⟨hi, xs, xs[vs.length - 1 - i], l, by simp [hx]⟩, fun x H' y => ?_⟩
  obtain ⟨e1, y⟩ := y
  subst e1
  obtain ⟨v, ev, rv⟩ := r.getR (y xs l)
  exact ⟨v, by rw [rev_get hi]; exact ev, rv, .refl, c⟩
theorem walks_revT {a : Addr} {vs : List Val} {xs : List V} {n : Nat} (hn : n = vs.length) (t : SqT K H1 a xs) (r : RepVs K H1 vs xs) : Walks K S1 H1 vs.reverse (fun _ => True) (RT.ItvT K a n) := fun i S H e c k => by
  subst hn
  have l := SqT.evo e.tup e.frz t
  have r := r.evo e
  have hl := r.length
  refine ⟨fun hi => ?_, fun hi => by rw [List.length_reverse] at hi; exact Nat.le_of_eq hi.symm⟩
  rw [List.length_reverse] at hi
  have hx : vs.length - 1 - i < xs.length := by omega
  refine ⟨⟨hi, xs, xs[vs.length - 1 - i], l, by simp [hx]⟩, fun x H' y => ?_⟩
  obtain ⟨e1, y⟩ := y
  subst e1
  obtain ⟨v, ev, rv⟩ := r.getR (y xs l)
  exact ⟨v, by rw [rev_get hi]; exact ev, rv, .refl, c⟩
end
theorem mE_star {N : List Str} {sc : Scope} {m : E} {a : Expr} {p : Pos} : mE N sc m (.Starred a p) = false := by cases m <;> simp [mE]
theorem mE_slice {N : List Str} {sc : Scope} {m : E} {a b c : Option Expr} {p : Pos} : mE N sc m (.Slice a b c p) = false := by cases m <;> simp [mE]
theorem star_one {N : List Str} {sc : Scope} {m : E} {e : Expr} (h : mE N sc m e = true) (es : List Expr) (env : Env) : starEach (e :: es) env = (false, eval e env) :: starEach es env := by
  cases e
  case Starred => rw [mE_star] at h; cases h
  all_goals rfl
theorem backTo_any {N : List Str} {sc : Scope} {pos : Pos} {env : Env} : ∀ {ms : List E} {es : List Expr}, mEs N sc ms es = true → (backTo pos (starEach es env)).any (·.1) = false
  | [], es, h => by cases es <;> simp only [mEs] at h <;> first | rfl | cases h
  | m :: ms, es, h => by
    cases es with
    | nil => simp [mEs] at h
    | cons e es =>
      simp only [mEs, Bool.and_eq_true] at h
      rw [star_one h.1]
      have ih := backTo_any (pos := pos) (env := env) h.2
      unfold backTo at ih ⊢
      simp only [List.map_cons, List.any_cons, Bool.false_or]
      exact ih
theorem backTo_all {N : List Str} {sc : Scope} {pos : Pos} {env : Env} {ms : List E} {es : List Expr} (h : mEs N sc ms es = true) : (backTo pos (starEach es env)).all (fun x => !x.1) = true := by
  have := backTo_any (pos := pos) (env := env) h
  rw [List.any_eq_false] at this
  rw [List.all_eq_true]
  intro x hx
  have := this x hx
  simp at this ⊢
  exact this
theorem mEs_length {N : List Str} {sc : Scope} : ∀ {ms : List E} {es : List Expr}, mEs N sc ms es = true → es.length = ms.length
  | [], es, h => by cases es <;> simp [mEs] at h; rfl
  | m :: ms, es, h => by
    cases es with
    | nil => simp [mEs] at h
    | cons e es =>
      simp only [mEs, Bool.and_eq_true] at h
      simp only [List.length_cons, mEs_length h.2]
theorem truth_of {N : List Str} {sc : Scope} {m : E} {e : Expr} {env : Env} (h : mB N sc (.val m) e = true) : mE N sc m e = true ∧ ∀ whole, isTrue e env whole = (do let v ← whole; standAt e.pos; holding [v] (truthy v)) := by
  cases e <;> simp only [mB] at h <;> first | cases h | exact ⟨h, fun _ => rfl⟩
theorem plainIx_of {N : List Str} {sc : Scope} {m : E} {e : Expr} (h : mE N sc m e = true) : PlainIx e := by
  cases e
  case Slice => rw [mE_slice] at h; cases h
  all_goals exact fun _ _ => rfl
theorem noSet {N : List Str} {sc : Scope} {it : I} {e : Expr} (h : mI N sc it e = true) (env : Env) : ∀ x, foldedSetIterable e env x = pure x := by
  cases e
  case Set => cases it <;> simp [mI] at h
  all_goals exact fun _ => rfl
theorem wipeL_get {ρ : Loc} {i : Nat} {v : Val} : ∀ {vs : List Nat}, (wipeL ρ vs)[i]? = some (some v) → ρ[i]? = some (some v) ∧ i ∉ vs
  | [], h => ⟨h, by simp⟩
  | w :: vs, h => by
    unfold wipeL at h
    by_cases hi : w = i
    · subst hi
      by_cases hv : w < (wipeL ρ vs).length
      · rw [List.getElem?_set_self hv] at h; cases h
      · rw [List.getElem?_eq_none (by simpa using hv)] at h; cases h
    · rw [List.getElem?_set_ne hi] at h
      obtain ⟨h1, h2⟩ := wipeL_get h
      exact ⟨h1, by simp only [List.mem_cons, not_or]; exact ⟨fun e => hi e.symm, h2⟩⟩
theorem wipeL_length (ρ : Loc) : ∀ vs : List Nat, (wipeL ρ vs).length = ρ.length
  | [] => rfl
  | v :: vs => by unfold wipeL; rw [List.length_set, wipeL_length ρ vs]
theorem CorL.wipe {K : PySem.W.Frag} {H : Hp} {ρ : Loc} {σ : L2.St} (h : CorL K H ρ σ) (vs : List Nat) : CorL K H (wipeL ρ vs) (L2.wipe σ vs) := by
  refine ⟨by rw [wipeL_length, L2.wipe_length]; exact h.1, fun i v e => ?_⟩
  obtain ⟨e1, n⟩ := wipeL_get e
  obtain ⟨x, e2, r⟩ := h.2 i v e1
  exact ⟨x, by rw [wipe_out n]; exact e2, r⟩
theorem wipe_eq {σ σ' : L2.St} {vs : List Nat} (hl : σ'.length = σ.length) (h : ∀ j, j ∉ vs → σ'[j]? = σ[j]?) : L2.wipe σ' vs = L2.wipe σ vs := by
  refine List.ext_getElem? fun j => ?_
  by_cases hj : j ∈ vs
  · have none_at : ∀ (τ : L2.St) (vs : List Nat), j ∈ vs → (L2.wipe τ vs)[j]? = if j < τ.length then some none else none := by
      intro τ vs
      induction vs with
      | nil => intro h; cases h
      | cons w ws ih =>
        intro hm
        unfold L2.wipe
        by_cases hw : w = j
        · subst hw
          rw [List.getElem?_set]
          simp only [if_true, L2.wipe_length]
        · rw [List.getElem?_set_ne hw]
          exact ih ((List.mem_cons.mp hm).resolve_left (fun e => hw e.symm))
    rw [none_at _ _ hj, none_at _ _ hj, hl]
  · rw [wipe_out hj, wipe_out hj]; exact h j hj
theorem wipe_idem (σ : L2.St) (vs : List Nat) : L2.wipe (L2.wipe σ vs) vs = L2.wipe σ vs := wipe_eq (by rw [L2.wipe_length]) fun j hj => wipe_out hj
theorem CorL.set {K : PySem.W.Frag} {H : Hp} {ρ : Loc} {σ : L2.St} (h : CorL K H ρ σ) (i : Nat) {v : Val} {x : V} (r : RepV K H v x) : CorL K H (ρ.set i (some v)) (σ.set i (some x)) := by
  refine ⟨by simp [h.1], fun j w e => ?_⟩
  by_cases hj : i = j
  · subst hj
    rw [List.getElem?_set] at e ⊢
    simp only [if_true] at e ⊢
    split at e
    · rename_i hl
      rw [if_pos (by rw [h.1]; exact hl)]
      cases e
      exact ⟨x, rfl, r⟩
    · cases e
  · rw [List.getElem?_set_ne hj] at e ⊢
    exact h.2 j w e
def lG' (K : PySem.W.Frag) (S0 : Sto) (H0 : Hp) (sl : List Nat) (t : Val → Loc → Sto → (Loc → Sto → Prop) → Prop) : TG := fun x σ H Q => ∃ v ρ S, RepV K H v x ∧ CorL K H ρ σ ∧ Cor K S H ∧ Evo S0 H0 S H ∧
  t v ρ S (fun ρ' S' => ∀ σ' H', Evo S H S' H' → Cor K S' H' → CorL K H' ρ' σ' → σ'.length = σ.length → (∀ j, j ∉ sl → σ'[j]? = σ[j]?) → Q σ' H')
def lGs' (K : PySem.W.Frag) (S0 : Sto) (H0 : Hp) (sl : List Nat) (t : List Val → Loc → Sto → (Loc → Sto → Prop) → Prop) : TGs := fun xs σ H Q => ∃ vs ρ S, RepVs K H vs xs ∧ CorL K H ρ σ ∧ Cor K S H ∧ Evo S0 H0 S H ∧
  t vs ρ S (fun ρ' S' => ∀ σ' H', Evo S H S' H' → Cor K S' H' → CorL K H' ρ' σ' → σ'.length = σ.length → (∀ j, j ∉ sl → σ'[j]? = σ[j]?) → Q σ' H')
theorem PG.imp {X : Cx} {e : Expr} {t t' : TG} (h : PG X e t) (i : ∀ v σ H Q, t' v σ H Q → t v σ H Q) : PG X e t' := ⟨fun pins s σ H v u Q I r q => h.run pins s σ H v u Q I r (i _ _ _ _ q)⟩
theorem PGs.imp {X : Cx} {e : List Expr} {t t' : TGs} (h : PGs X e t) (i : ∀ v σ H Q, t' v σ H Q → t v σ H Q) : PGs X e t' := ⟨fun pins s σ H v u Q I r q => h.run pins s σ H v u Q I r (i _ _ _ _ q)⟩
end M

set_option maxHeartbeats 4000000
namespace M
open PySem PySem.Spec L2
theorem PG.or {X : Cx} {e : Expr} {t t' : TG} (h : PG X e t) (h' : PG X e t') : PG X e (fun v σ H Q => t v σ H Q ∨ t' v σ H Q) := ⟨fun pins s σ H v u Q I r q => q.elim (h.run pins s σ H v u Q I r) (h'.run pins s σ H v u Q I r)⟩
theorem boot_isinst : bootBuiltins "isinstance" = some (.builtin "isinstance") := by decide +kernel
theorem boot_repr : bootBuiltins "repr" = some (.builtin "repr") := by decide +kernel
theorem ty_boot {t : String} (h : tyOk t = true) : bootBuiltins (Str.ofString t) = some (.type t) := by
  unfold tyOk at h
  simp only [Bool.or_eq_true, beq_iff_eq] at h
  rcases h with ((((h | h) | h) | h) | h) | h <;> subst h <;> decide +kernel
theorem ty_blt {t : String} (h : tyOk t = true) : Str.ofString t ∈ bltNames := by
  unfold tyOk at h
  simp only [Bool.or_eq_true, beq_iff_eq] at h
  rcases h with ((((h | h) | h) | h) | h) | h <;> subst h <;> decide +kernel
theorem ty_nn {t : String} (h : tyOk t = true) : Str.ofString t ≠ "__name__" ∧ (Str.ofString t == ("__debug__" : Str)) = false := by
  unfold tyOk at h
  simp only [Bool.or_eq_true, beq_iff_eq] at h
  rcases h with ((((h | h) | h) | h) | h) | h <;> subst h <;> decide +kernel
theorem blt_mem : ∀ b : Blt, bltName b ∈ bltNames := by intro b; cases b <;> decide +kernel
/-- the context of a comprehension's block -/
theorem Sd.blk {X : Cx} {G : Gam} {k : Nat} {S0 : Sto} {H0 : Hp} {XP : XLoc} (D : Sd X G k S0 H0 XP) (s : Shared) (H : Hp) (scope : Scope) (cenv : Env) (fp : List Addr) :
    Sd (X.blk s H scope cenv fp) G k S0 H0 (fun _ _ _ => False) :=
  ⟨D.room, D.calm, D.nd, D.g, Takes.imp (W := fun _ _ _ _ => False) takes0 (fun c d σ H ⟨_, _, _, _, _, _, _, _, _, _, z⟩ => z), D.gd⟩
theorem Sd.noX {X : Cx} {G : Gam} {k : Nat} {S0 : Sto} {H0 : Hp} {XP : XLoc} (D : Sd X G k S0 H0 XP) : Sd X G k S0 H0 (fun _ _ _ => False) :=
  ⟨D.room, D.calm, D.nd, D.g, Takes.imp (W := fun _ _ _ _ => False) takes0 (fun c d σ H ⟨_, _, _, _, _, _, _, _, _, _, z⟩ => z), D.gd⟩
theorem pe_callM {X : Cx} {k : Nat} {f : Addr} {fd : FuncData} {ps : List Str} {sp : Sp} {W : WX} {x : Str} {p pos : Pos} {N : List Str} {sc : Scope} {m : E} {ms : List E} {e : Expr} {es : List Expr} {t : TA} (F : FnOk X.prog X.w X.K X.mg X.base (L2.CX X.prog X.w) k f fd ps sp) (hr : Room k X.A) (hg : Gl X x) (hm : X.mg x = some (.ref f)) (hk : PySem.W.keepIn X.K (.ref f) = true) (hb : Binds X.K fd ps []) (tk : Takes X W)
    (he : mE N sc m e = true) (hes : mEs N sc ms es = true) (ha : PA X (e :: es) t) (hdb : (x == ("__debug__" : Str)) = false) :
    PE X (.Call (.Name x p) (e :: es) [] pos) (tCallSD sp [] (WE W) t) := pe_callSD F hr hg hm hk hb .nil (fun σ => passAt tk σ) ha hdb (star_one he _ _) (backTo_any hes)
theorem pe_callM0 {X : Cx} {k : Nat} {f : Addr} {fd : FuncData} {ps : List Str} {sp : Sp} {W : WX} {x : Str} {p pos : Pos} (F : FnOk X.prog X.w X.K X.mg X.base (L2.CX X.prog X.w) k f fd ps sp) (hr : Room k X.A) (hg : Gl X x) (hm : X.mg x = some (.ref f)) (hk : PySem.W.keepIn X.K (.ref f) = true) (hb : Binds X.K fd ps []) (tk : Takes X W)
    (hdb : (x == ("__debug__" : Str)) = false) : PE X (.Call (.Name x p) [] [] pos) (fun σ H Q => sp [] H Q (WE W σ)) := by
  refine ⟨fun pins s σ H Q I h => ?_⟩
  refine wpAny_Call_Name_kw (ld_glob I hg hm ?_ hdb)
  exact PySem.W.callWith_K0 I.kIn hk (run_fnSD (us := []) (vs := []) (dvs := []) (ds := []) F hr hb .nil (fun pins H s e s' => passAt tk σ pins H s e s') I .nil h)
theorem blk_own {N : List Str} {sc scope : Scope} {own : List (Str × Nat)} {sl : List Nat} (ok : BlkOk N sc scope own) (h : (own.all fun p => (match scope.names.lookup p.1 with | some .local => true | some .cell => true | _ => false)) = true) (hs : ∀ i ∈ sl, i ∈ own.map (·.2)) :
    ∀ i ∈ sl, ∀ x, N[i]? = some x → ((fun x => scope.names.lookup x == some .cell) x = true ∨ (relS scope sc).names.lookup x = some .local) := fun i hi x hx => by
  obtain ⟨p, hp, rfl⟩ := List.mem_map.mp (hs i hi)
  have e := ok.ix p hp
  rw [hx] at e; cases e
  have q := List.all_eq_true.mp h p hp
  split at q
  · rename_i hl
    exact .inr (lookup_relS_keep (by decide) hl)
  · rename_i hl
    left
    simp only [hl]; rfl
  · cases q
theorem mT_star {N : List Str} {sc : Scope} {m : T} {a : Expr} {p : Pos} : mT N sc m (.Starred a p) = false := by cases m <;> simp [mT]
theorem assign_one {N : List Str} {sc : Scope} {t : T} {e : Expr} (h : mT N sc t e = true) (es : List Expr) (env : Env) : assignEach (e :: es) env = (false, assign e env) :: assignEach es env := by
  cases e
  case Starred => rw [mT_star] at h; cases h
  all_goals rfl
theorem mTs_len {N : List Str} {sc : Scope} (env : Env) : ∀ {ts : List T} {es : List Expr}, mTs N sc ts es = true → (assignEach es env).length = ts.length ∧ (assignEach es env).findIdx? (·.1) = none
  | [], es, h => by
    cases es with
    | nil => exact ⟨rfl, rfl⟩
    | cons => simp [mTs] at h
  | t :: ts, es, h => by
    cases es with
    | nil => simp [mTs] at h
    | cons e es =>
      simp only [mTs, Bool.and_eq_true] at h
      obtain ⟨h1, h2⟩ := mTs_len env h.2
      rw [assign_one h.1]
      exact ⟨by simp [h1], by simp [List.findIdx?_cons, h2]⟩
theorem clsAll : ∀ ts : List String, Paired ClsV (ts.map V.ty) (ts.map Value.type)
  | [] => .nil
  | t :: ts => .cons (.ty t) (clsAll ts)
theorem sTys {X : Cx} (hb : ∀ x ∈ bltNames, X.mg x = none) : ∀ (ts : List String) {es : List Expr}, mTys X.env.scope ts es = true → PA X es (fun _ H Q => Q (ts.map V.ty) H)
  | [], es, h => by
    cases es with
    | nil => exact PA.imp pa_nil fun _ _ _ q => q
    | cons e es => simp [mTys] at h
  | t :: ts, es, h => by
    cases es with
    | nil => simp [mTys] at h
    | cons e es =>
      unfold mTys at h
      split at h
      · rename_i heq; cases heq
      · rename_i heq1 heq2
        cases heq1; cases heq2
        simp only [Bool.and_eq_true, decide_eq_true_eq] at h
        obtain ⟨⟨⟨h1, rfl⟩, h3⟩, h4⟩ := h
        exact PA.imp (pa_cons (pe_bltn (v := .ty t) (gl_of h3) (hb _ (ty_blt h1)) (ty_boot h1) rfl (ty_nn h1).1 (ty_nn h1).2) (sTys hb ts h4) rfl) fun σ H Q q => q
      · cases h
theorem compW_len {keep : Sto → Prop} {turn : Val → Sto → (Option Val → Sto → Prop) → Prop} {xs acc : List Val} {S : Sto} {Q : Post} (h : compW keep turn xs acc S Q) : keep S := by
  cases xs with
  | nil => exact h.1
  | cons x xs => exact h.1
/-- a comprehension's reading -/
theorem lc_read {K : PySem.W.Frag} {S0 : Sto} {H0 : Hp} {vs : List Nat} (sl : List Nat) (hsl : ∀ i ∈ sl, i ∈ vs)
    {tI : Loc → Sto → (List Val → (Sto → Prop) → Sto → Prop) → Prop} {tG : Val → Loc → Sto → (Loc → Sto → Prop) → Prop} {tB : Loc → Sto → (Bool → Sto → Prop) → Prop} {tE : Loc → Sto → Post → Prop}
    (mI : ∀ {ρ S} {R R' : List Val → (Sto → Prop) → Sto → Prop}, (∀ xs k S', R xs k S' → R' xs k S') → tI ρ S R → tI ρ S R')
    (mG : ∀ {v ρ S} {Q Q' : Loc → Sto → Prop}, (∀ v S', Q v S' → Q' v S') → tG v ρ S Q → tG v ρ S Q')
    (mB : ∀ {ρ S} {Q Q' : Bool → Sto → Prop}, (∀ v S', Q v S' → Q' v S') → tB ρ S Q → tB ρ S Q')
    (mE : ∀ {ρ S} {Q Q' : Post}, (∀ v S', Q v S' → Q' v S') → tE ρ S Q → tE ρ S Q')
    {σ : L2.St} {H : Hp} {Q : VK}
    (q : lE K S0 H0 (fun ρ S Q => tI ρ S (fun xs keep S1 => compW keep (fun x S2 R => tG x (wipeL ρ vs) S2 fun ρ' S3 => tB ρ' S3 fun k S4 => if k = true then tE ρ' S4 fun v S5 => R (some v) S5 else R none S4) xs [] S1 Q)) σ H Q) :
    tLc (lI K S0 H0 tI) (lG' K S0 H0 sl tG) (lB K S0 H0 tB) (lE K S0 H0 tE) vs σ H Q := by
  obtain ⟨ρ, S, cl, c, e0, q⟩ := q
  refine ⟨ρ, S, cl, c, e0, mI (fun xs keep S1 q H1 J e1 c1 wk D hD => ?_) q⟩
  refine ⟨fun i m H2 => m = xs.length - i ∧ i ≤ xs.length ∧ ∃ S2 acc accV, Cor K S2 H2 ∧ Evo S1 H1 S2 H2 ∧ S2 D = none ∧ H2 D = some (.lst accV) ∧ RepVs K H2 acc accV ∧
    compW keep (fun x S2 R => tG x (wipeL ρ vs) S2 fun ρ' S3 => tB ρ' S3 fun k S4 => if k = true then tE ρ' S4 fun v S5 => R (some v) S5 else R none S4) (xs.drop i) acc S2 (fin K S H Q),
    ⟨xs.length, rfl, Nat.zero_le _, S1, [], [], c1.more (upd_keep hD), .more (upd_keep hD), c1.free hD, upd_same, .nil, q⟩, ?_⟩
  rintro i m H2 ⟨rfl, hi, S2, acc, accV, c2, e2, nD, hD2, ra, q2⟩
  have kp := compW_len q2
  obtain ⟨w1, w2⟩ := wk i S2 H2 e2 c2 kp
  by_cases hlt : i < xs.length
  · obtain ⟨go, yl⟩ := w1 hlt
    refine .inr ⟨go, fun H' => ∃ m', m' = xs.length - (i + 1) ∧ (m' = xs.length - (i + 1) ∧ i + 1 ≤ xs.length ∧ ∃ S2 acc accV, Cor K S2 H' ∧ Evo S1 H1 S2 H' ∧ S2 D = none ∧ H' D = some (.lst accV) ∧ RepVs K H' acc accV ∧
      compW keep (fun x S2 R => tG x (wipeL ρ vs) S2 fun ρ' S3 => tB ρ' S3 fun k S4 => if k = true then tE ρ' S4 fun v S5 => R (some v) S5 else R none S4) (xs.drop (i + 1)) acc S2 (fin K S H Q)), fun H' ⟨m', h1, h2⟩ => ⟨m', by omega, h2⟩, fun x H3 y => ?_⟩
    obtain ⟨v, hv, rv, e3, c3⟩ := yl x H3 y
    have hd : xs.drop i = v :: xs.drop (i + 1) := by
      rw [List.drop_eq_getElem_cons hlt]
      rw [List.getElem?_eq_getElem hlt] at hv
      cases hv; rfl
    rw [hd] at q2
    obtain ⟨_, q2⟩ := q2
    have e13 := e2.trans e3
    obtain ⟨hD3, nD3⟩ := e3.frame D _ hD2 nD
    refine ⟨v, wipeL ρ vs, S2, rv, ((cl.evo e1).evo e13).wipe vs, c3, (e0.trans e1).trans e13, mG (fun ρ' S3 q3 σ4 H4 e4 c4 cl4 hl4 hs4 => ?_) q2⟩
    refine ⟨by rw [wipe_eq (by rw [hl4]) (fun j hj => hs4 j (fun z => hj (hsl j z)))]; exact wipe_idem _ _, ?_⟩
    have e14 := e13.trans e4
    obtain ⟨hD4, nD4⟩ := e4.frame D _ hD3 nD3
    refine ⟨ρ', S3, cl4, c4, (e0.trans e1).trans e14, mB (fun kk S4 q4 H5 e5 c5 => ?_) q3⟩
    have e15 := e14.trans e5
    obtain ⟨hD5, nD5⟩ := e5.frame D _ hD4 nD4
    cases kk with
    | false =>
      simp only [Bool.false_eq_true, if_false] at q4 ⊢
      exact ⟨_, rfl, rfl, hlt, S4, acc, accV, c5, e15, nD5, hD5, ((ra.evo e3).evo e4).evo e5, q4⟩
    | true =>
      simp only [if_true] at q4 ⊢
      refine ⟨ρ', S4, cl4.evo e5, c5, (e0.trans e1).trans e15, mE (fun z S5 q5 H6 zz e6 c6 r6 => ?_) q4⟩
      obtain ⟨hD6, nD6⟩ := e6.frame D _ hD5 nD5
      have ra6 := (((ra.evo e3).evo e4).evo e5).evo e6
      refine ⟨accV, hD6, by rw [ra6.length]; exact q5.1, _, rfl, rfl, hlt, S5, acc ++ [z], accV ++ [zz], ?_, ?_, nD6, upd_same, ?_, q5.2⟩
      · exact fun a o h => (c6 a o h).ext (fun u hu => by rw [upd_ne (fun e => by rw [e, nD6] at h; cases h)]; exact hu) (chg_tup hD6 trivial) (chg_frz hD6 trivial)
      · have e16 := e15.trans e6
        refine ⟨fun p xs h => chg_tup hD6 trivial _ _ (e16.tup p xs h), fun p o u h => chg_frz hD6 trivial _ _ _ (e16.frz p o u h), fun a o h n => ?_⟩
        obtain ⟨h1, h2⟩ := e16.frame a o h n
        rw [upd_ne (fun e => by rw [e, hD] at h; cases h)]
        exact ⟨h1, h2⟩
      · exact RepVs.evo' (chg_tup hD6 trivial) (chg_frz hD6 trivial) _ (ra6.append (.cons r6 .nil))
  · have hE : i = xs.length := by omega
    refine .inl ⟨w2 hE, ?_⟩
    subst hE
    rw [List.drop_length] at q2
    refine q2.2 D nD H2 _ ?_ ?_ (by simp only [RepV])
    · have e12 := e1.trans e2
      refine ⟨e12.tup, e12.frz, fun a o h n => ?_⟩
      obtain ⟨h1, h2⟩ := e12.frame a o h n
      refine ⟨h1, ?_⟩
      rw [Sto.upd_ne (fun e => ?_)]; exact h2
      subst e
      have := (e1.frame a o h n).1
      rw [hD] at this; cases this
    · intro a o h
      by_cases e : a = D
      · subst e; rw [Sto.upd_same] at h; cases h
        simp only [RepA]; exact ⟨accV, hD2, ra⟩
      · rw [Sto.upd_ne e] at h; exact c2 a o h
theorem mthSlot (m : Mth) : ∃ (_ : PlainAttrs (mthTy m)), Slot (mthTy m) (mthName m) (mthId m) ∧ typeOf (.builtin (mthId m)) = pure (.type "method_descriptor") := by
  cases m
  · exact ⟨PySem.F.plainAttrs_list, PySem.F.slot_list_append, PySem.F.type_list_append⟩
  · exact ⟨PySem.F.plainAttrs_list, PySem.F.slot_list_pop, PySem.F.type_list_pop⟩
  · exact ⟨PySem.F.plainAttrs_list, PySem.F.slot_list_pop, PySem.F.type_list_pop⟩
  · exact ⟨PySem.F.plainAttrs_list, PySem.F.slot_list_extend, PySem.F.type_list_extend⟩
  · exact ⟨PySem.F.plainAttrs_list, PySem.F.slot_list_insert, PySem.F.type_list_insert⟩
  · exact ⟨PySem.F.plainAttrs_list, PySem.F.slot_list_remove, PySem.F.type_list_remove⟩
  · exact ⟨PySem.F.plainAttrs_list, PySem.F.slot_list_reverse, PySem.F.type_list_reverse⟩
  · exact ⟨PySem.F.plainAttrs_list, PySem.F.slot_list_index, PySem.F.type_list_index⟩
  · exact ⟨PySem.F.plainAttrs_list, PySem.F.slot_list_count, PySem.F.type_list_count⟩
  · exact ⟨PySem.F.plainAttrs_dict, PySem.F.slot_dict_get, PySem.F.type_dict_get⟩
  · exact ⟨PySem.F.plainAttrs_dict, PySem.F.slot_dict_get, PySem.F.type_dict_get⟩
  · exact ⟨PySem.F.plainAttrs_dict, PySem.F.slot_dict_keys, PySem.F.type_dict_keys⟩
  · exact ⟨PySem.F.plainAttrs_str, PySem.F.slot_str_split, PySem.F.type_str_split⟩
  · exact ⟨PySem.F.plainAttrs_str, PySem.F.slot_str_join, PySem.F.type_str_join⟩
  · exact ⟨PySem.F.plainAttrs_str, PySem.F.slot_str_index, PySem.F.type_str_index⟩
  · exact ⟨PySem.F.plainAttrs_dict, PySem.F.slot_dict_setdefault, PySem.F.type_dict_setdefault⟩
  · exact ⟨PySem.F.plainAttrs_tuple, PySem.F.slot_tuple_index, PySem.F.type_tuple_index⟩
  · exact ⟨PySem.F.plainAttrs_tuple, PySem.F.slot_tuple_count, PySem.F.type_tuple_count⟩
/-- a built-in method called -/
theorem pe_mthM {X : Cx} (m : Mth) {o e : Expr} {es : List Expr} {ms : List E} {N : List Str} {sc : Scope} {ap p : Pos} {to : TE} {ta : TA} (hb : baseOk o = true) (hl : ap.endLine = p.line) (hes : mEs N sc ms (e :: es) = true) (hn : ms.length < 5) (ho : PE X o to) (ha : PA X (e :: es) ta) :
    PE X (.Call (.Attribute o (mthName m) ap) (e :: es) [] p) (tBM X.K (mthTy m) (lM X.K (wMth m)) to ta) := by
  obtain ⟨pa, sl, ty⟩ := mthSlot m
  cases ms with
  | nil => simp [mEs] at hes
  | cons m1 ms =>
    have hes' := hes
    simp only [mEs, Bool.and_eq_true] at hes'
    refine pe_bm pa sl ty (mth_snd m) ho ha (base_of hb) ?_ (by simp [hl]) (star_one hes'.1 _ _) (backTo_any hes'.2)
    have h1 := backTo_all (pos := p) (env := X.env) hes
    have h2 := mEs_length hes
    rw [h1]
    simp only [keywordEach, backToKw, List.map_nil, List.all_nil, Bool.true_and, List.length_nil, List.isEmpty_nil, if_true, Nat.add_zero, decide_eq_true_eq]
    rw [h2]; omega
theorem pe_mthM0 {X : Cx} (m : Mth) {o : Expr} {ap p : Pos} {to : TE} (hb : baseOk o = true) (hl : ap.endLine = p.line) (ho : PE X o to) :
    PE X (.Call (.Attribute o (mthName m) ap) [] [] p) (tBM0 X.K (mthTy m) (lM X.K (wMth m)) to) := by
  obtain ⟨pa, sl, ty⟩ := mthSlot m
  exact pe_bm0 pa sl ty (mth_snd m) ho (base_of hb) (by simp [hl])
/-- o.m(e, ..), o an instance -/
def tMethM (m : Str) (C0 : Addr → Addr → Sp → Prop) (E : L2.St → XK) (ta : TE) (t : TA) : TE := fun σ H Q => ta σ H fun x H1 => ∃ a C dx fs g sp, x = .ref a ∧ H1 a = some (.ins C dx fs) ∧ fs.lookup m = none ∧ C0 C g sp ∧ t σ H1 fun vs H2 => sp (x :: vs) H2 Q (E σ)
def MetOk (X : Cx) (k : Nat) (m : Str) (C g : Addr) (sp : Sp) : Prop := Cls X.K C ∧ Meth X.K C m g ∧ ∃ fd ps, Binds X.K fd ps [] ∧ FnOk X.prog X.w X.K X.mg X.base (L2.CX X.prog X.w) k g fd ps sp
theorem mform {N : List Str} {sc : Scope} {o : Expr} {m : Str} {es : List Expr} {ms : List E} {ap p : Pos} {env : Env} (hb : baseOk o = true) (hl : ap.endLine = p.line) (hes : mEs N sc ms es = true) (hn : ms.length < 5) :
    eval (.Call (.Attribute o m ap) es [] p) env = (do
      let ov ← eval o env
      standAt ap.atName
      let (f, first) ← holding [ov] (getMethod ov m (plainOf o env))
      callWith p f first (backTo p (starEach es env)) (backToKw p (keywordEach [] env))) := by
  rw [arm_eval_Call, base_of hb]
  congr 1
  funext ov
  congr 1
  funext _
  refine mcall_line ?_ (by simp [hl])
  have h1 := backTo_all (pos := p) (env := env) hes
  have h2 := mEs_length hes
  unfold methodCallForm
  rw [h1]
  simp only [keywordEach, backToKw, List.map_nil, List.all_nil, Bool.true_and, List.length_nil, List.isEmpty_nil, if_true, Nat.add_zero, decide_eq_true_eq]
  rw [h2]; omega
theorem pe_methM {X : Cx} {k : Nat} {m : Str} {W : WX} {N : List Str} {sc : Scope} {o e : Expr} {es : List Expr} {ms : List E} {ap p : Pos} {ta : TE} {t : TA} (hr : Room k X.A) (tk : Takes X W) (hb : baseOk o = true) (hl : ap.endLine = p.line) (hes : mEs N sc ms (e :: es) = true) (hn : ms.length < 5) (he : PE X o ta) (ha : PA X (e :: es) t) :
    PE X (.Call (.Attribute o m ap) (e :: es) [] p) (tMethM m (MetOk X k m) (WE W) ta t) := by
  refine ⟨fun pins s σ H Q I h => ?_⟩
  refine PySem.W.methodCall_KW (thn (he.run pins s σ H _ I h) fun u s1 ⟨x, H1, I1, rx, a, C, dx, fs, g, sp, ex, ea, l, ⟨c, hm, fd, ps, hbd, F⟩, q⟩ => ?_) (mform hb hl hes hn)
  subst ex
  obtain rfl : u = Value.ref a := rx
  refine getmeth_ok I1 ea c hm l ?_
  obtain ⟨m1, r1, rfl, h1, h2⟩ : ∃ m1 r1, ms = m1 :: r1 ∧ mE N sc m1 e = true ∧ mEs N sc r1 es = true := by
    cases ms with
    | nil => simp [mEs] at hes
    | cons m1 r1 => simp only [mEs, Bool.and_eq_true] at hes; exact ⟨m1, r1, rfl, hes.1, hes.2⟩
  refine PySem.W.callWith_K (first := [.ref a]) (h₀ := X.base) I.ok.mod.kin hm.kp (thn (ha.run p pins s1 σ H1 _ I1 q) fun us s2 ⟨vs, H2, I2, r, q2⟩ => ⟨I2.kIn, ?_⟩) (star_one h1 _ _) (backTo_any h2)
  exact run_fnSD (us := .ref a :: us) (vs := .ref a :: vs) (dvs := []) (ds := []) F hr hbd .nil (passAt tk σ) I2 (.cons rfl r) (by simpa using q2)
theorem pe_methM0 {X : Cx} {k : Nat} {m : Str} {W : WX} {o : Expr} {ap p : Pos} {ta : TE} (hr : Room k X.A) (tk : Takes X W) (hb : baseOk o = true) (hl : ap.endLine = p.line) (he : PE X o ta) :
    PE X (.Call (.Attribute o m ap) [] [] p) (tMethM m (MetOk X k m) (WE W) ta tNil) := by
  refine ⟨fun pins s σ H Q I h => ?_⟩
  refine PySem.W.methodCall_KW (thn (he.run pins s σ H _ I h) fun u s1 ⟨x, H1, I1, rx, a, C, dx, fs, g, sp, ex, ea, l, ⟨c, hm, fd, ps, hbd, F⟩, q⟩ => ?_) (mform (N := []) (sc := X.env.scope) (ms := []) hb hl (by simp [mEs]) (by simp))
  subst ex
  obtain rfl : u = Value.ref a := rx
  refine getmeth_ok I1 ea c hm l ?_
  exact PySem.W.callWith_K0 (first := [.ref a]) I1.kIn hm.kp (run_fnSD (us := [.ref a]) (vs := [.ref a]) (dvs := []) (ds := []) F hr hbd .nil (passAt tk σ) I1 (.cons rfl .nil) (by show sp [V.ref a] H1 Q (WE W σ); exact q))
/-- C(e, ..) -/
theorem pe_newM {X : Cx} {j : Nat} {f : Addr} {fd : FuncData} {ps : List Str} {sp : Sp} {x : Str} {C : Addr} {p pos : Pos} {N : List Str} {sc : Scope} {m : E} {ms : List E} {e : Expr} {es : List Expr} {t : TA} (M : Mk X.K C f) (F : FnOk X.prog X.w X.K X.mg X.base (L2.CX X.prog X.w) j f fd ps sp) (hr : Room (j + 1) X.A) (hg : Gl X x) (hm : X.mg x = some (.ref C)) (hb : Binds X.K fd ps [])
    (he : mE N sc m e = true) (hes : mEs N sc ms es = true) (ha : PA X (e :: es) t) (hdb : (x == ("__debug__" : Str)) = false) :
    PE X (.Call (.Name x p) (e :: es) [] pos) (tMake C sp [] E0 t) := pe_make M F hr hg hm hb .nil passL ha hdb (star_one he _ _) (backTo_any hes)
/-- t.index(e) -/
theorem pe_mthT {X : Cx} {o e : Expr} {es : List Expr} {ms : List E} {N : List Str} {sc : Scope} {ap p : Pos} {to : TE} {ta : TA} (hb : baseOk o = true) (hl : ap.endLine = p.line) (hes : mEs N sc ms (e :: es) = true) (hn : ms.length < 5) (ho : PE X o to) (ha : PA X (e :: es) ta) :
    PE X (.Call (.Attribute o (mthName .tindex) ap) (e :: es) [] p) (tBMN X.K (lM X.K (wMth .tindex)) to ta) := by
  obtain ⟨pa, sl, ty⟩ := mthSlot .tindex
  cases ms with
  | nil => simp [mEs] at hes
  | cons m1 ms =>
    have hes' := hes
    simp only [mEs, Bool.and_eq_true] at hes'
    refine pe_bmN pa sl ty (mth_snd .tindex) ho ha (base_of hb) ?_ (by simp [hl]) (star_one hes'.1 _ _) (backTo_any hes'.2)
    have h1 := backTo_all (pos := p) (env := X.env) hes
    have h2 := mEs_length hes
    rw [h1]
    simp only [keywordEach, backToKw, List.map_nil, List.all_nil, Bool.true_and, List.length_nil, List.isEmpty_nil, if_true, Nat.add_zero, decide_eq_true_eq]
    rw [h2]; omega
theorem m1_of {X : Cx} {o e : Expr} {m : E} {nm : Str} {ap p : Pos} (hb : baseOk o = true) (hl : ap.endLine = p.line) (h : mE X.N X.env.scope m e = true) : M1 X o nm ap e p := by
  have hs := star_one h [] X.env
  refine ⟨base_of hb, ?_, by simp [hl], by rw [hs]; rfl⟩
  rw [hs]; rfl
theorem m2_of {X : Cx} {o e f : Expr} {m m' : E} {nm : Str} {ap p : Pos} (hb : baseOk o = true) (hl : ap.endLine = p.line) (h : mE X.N X.env.scope m e = true) (h' : mE X.N X.env.scope m' f = true) : M2 X o nm ap e f p := by
  have hs := star_one h [f] X.env
  have hs' := star_one h' [] X.env
  refine ⟨base_of hb, ?_, by simp [hl], by rw [hs, hs']; rfl⟩
  rw [hs, hs']; rfl
theorem pc_dinM {X : Cx} {i o : Expr} {ty td : TE} (n : Bool) (hu : X.A.units + 1 < cLine) (hi : PE X i ty) (ho : PE X o td) : PC X (if n = true then .NotIn else .In) i o (fun σ H Q => ty σ H fun y H1 => td σ H1 fun x H2 => ∃ a r, x = .ref a ∧ DGet H2 a y r ∧ Q (.bl (n ^^ r.isSome)) H2) := by
  cases n
  · have := pc_din hu hi ho
    unfold tDIn at this
    simpa only [Bool.false_eq_true, if_false, Bool.false_xor] using this
  · have := pc_dnotin hu hi ho
    unfold tDNotIn at this
    simpa only [if_true, Bool.true_xor] using this
theorem RepO.some_eq {K : PySem.W.Frag} {H : Hp} {o : Option Val} {r : Option V} (h : RepO K H o r) : r.isSome = o.isSome := by
  cases o with
  | none => rw [show r = none from h]; rfl
  | some v => obtain ⟨x, rfl, _⟩ := h; rfl
theorem rgV_eq (a b : Int) : rgV a b = (List.range (b - a).toNat).map fun i => V.int (a + (i : Nat)) := rfl
theorem rep_rng {K : PySem.W.Frag} {H : Hp} {lo : Int} {n : Nat} : RepVs K H (rngV lo n) ((List.range n).map fun i => V.int (lo + (i : Nat))) := by
  have key : ∀ l : List Nat, RepVs K H (l.map fun (i : Nat) => Val.int (lo + (i : Int))) (l.map fun i => V.int (lo + (i : Nat))) := by
    intro l
    induction l with
    | nil => exact .nil
    | cons a l ih => exact .cons (by simp only [RepV]) ih
  exact key _
theorem Sd.start {X : Cx} {G : Gam} {k : Nat} {S0 : Sto} {H0 : Hp} (D : Sd X G k S0 H0 (fun _ _ _ => False)) (S1 : Sto) (H1 : Hp) : Sd X G k S1 H1 (fun _ _ _ => False) :=
  ⟨D.room, D.calm, D.nd, D.g, Takes.imp (W := fun _ _ _ _ => False) takes0 (fun c d σ H ⟨_, _, _, _, _, _, _, _, _, _, z⟩ => z), D.gd⟩
section
variable {K : PySem.W.Frag} {S S1 : Sto} {H H1 : Hp} {d : Addr} {od : Obj}
theorem Cor.lockK {kvs : List (Key × Val)} {us : List (Key × V)} (c : Cor K S H) (hs : S d = some (.dK kvs)) (e : H d = some (.dK us)) (r : RepK K H kvs us) : Cor K (S.upd d (.fK kvs)) (upd H d (.frz od (.dK us))) :=
  c.chg hs e trivial (by simp only [RepA]; exact ⟨od, us, upd_same, r.evo' (chg_tup e trivial) (chg_frz e trivial)⟩)
theorem Cor.lockT {kvs : List (List Key × Val)} {us : List (List Key × V)} (c : Cor K S H) (hs : S d = some (.dT kvs)) (e : H d = some (.dT us)) (r : RepK K H kvs us) : Cor K (S.upd d (.fT kvs)) (upd H d (.frz od (.dT us))) :=
  c.chg hs e trivial (by simp only [RepA]; exact ⟨od, us, upd_same, r.evo' (chg_tup e trivial) (chg_frz e trivial)⟩)
theorem RepVs.unfrz {a : Addr} {u : HO} (hh : H a = some (.frz od u)) (hc : Chg u) (hv : ∀ xs, u ≠ .tup xs) : ∀ {vs : List Val} {xs : List V}, RepVs K H vs xs → RepVs K (upd H a u) vs xs
  | [], _, h => by simp only [RepVs] at h ⊢; exact h
  | v :: vs, _, h => by
    simp only [RepVs] at h ⊢
    obtain ⟨y, ys, e, p, q⟩ := h
    exact ⟨y, ys, e, .unfrz hh hc hv _ p, RepVs.unfrz hh hc hv q⟩
theorem RepK.unfrz {κ : Type} {a : Addr} {u : HO} {kvs : List (κ × Val)} {us : List (κ × V)} (hh : H a = some (.frz od u)) (hc : Chg u) (hv : ∀ xs, u ≠ .tup xs) (h : RepK K H kvs us) : RepK K (upd H a u) kvs us := Paired.mapP h fun _ _ q => ⟨q.1, .unfrz hh hc hv _ q.2⟩
theorem RepA.unfrz {a b : Addr} {u : HO} {o : MO} (hh : H a = some (.frz od u)) (hc : Chg u) (hv : ∀ xs, u ≠ .tup xs) (hb : b ≠ a) (h : RepA K H b o) : RepA K (upd H a u) b o := by
  cases o <;> simp only [RepA] at h ⊢
  · obtain ⟨xs, e, r⟩ := h; exact ⟨xs, by rw [upd_ne hb]; exact e, r.unfrz hh hc hv⟩
  · obtain ⟨xs, e, r⟩ := h
    refine ⟨xs, ?_, r.unfrz hh hc hv⟩
    rcases e with e | ⟨o, e⟩
    · exact .inl (by rw [upd_ne hb]; exact e)
    · exact .inr ⟨o, by rw [upd_ne hb]; exact e⟩
  · obtain ⟨xs, e, r⟩ := h; exact ⟨xs, by rw [upd_ne hb]; exact e, r.unfrz hh hc hv⟩
  · obtain ⟨xs, e, r⟩ := h; exact ⟨xs, by rw [upd_ne hb]; exact e, r.unfrz hh hc hv⟩
  · obtain ⟨dx, xs, e, r⟩ := h; exact ⟨dx, xs, by rw [upd_ne hb]; exact e, r.unfrz hh hc hv⟩
  · obtain ⟨dx, xs, e, r⟩ := h; exact ⟨dx, xs, by rw [upd_ne hb]; exact e, r.unfrz hh hc hv⟩
  · obtain ⟨dx, xs, e, r⟩ := h; exact ⟨dx, xs, by rw [upd_ne hb]; exact e, r.unfrz hh hc hv⟩
theorem Cor.unlockK {kvs : List (Key × Val)} {us : List (Key × V)} (c : Cor K S1 H1) (hs : S1 d = some (.fK kvs)) (e : H1 d = some (.frz od (.dK us))) : Cor K (S1.upd d (.dK kvs)) (upd H1 d (.dK us)) := fun b o q => by
  by_cases eb : b = d
  · subst eb
    rw [Sto.upd_same] at q; cases q
    have := c b _ hs
    simp only [RepA] at this ⊢
    obtain ⟨_, us', e', r⟩ := this
    rw [e] at e'; cases e'
    exact ⟨us, upd_same, r.unfrz e trivial (fun _ z => by cases z)⟩
  · rw [Sto.upd_ne eb] at q
    exact (c b o q).unfrz e trivial (fun _ z => by cases z) eb
theorem Cor.unlockT {kvs : List (List Key × Val)} {us : List (List Key × V)} (c : Cor K S1 H1) (hs : S1 d = some (.fT kvs)) (e : H1 d = some (.frz od (.dT us))) : Cor K (S1.upd d (.dT kvs)) (upd H1 d (.dT us)) := fun b o q => by
  by_cases eb : b = d
  · subst eb
    rw [Sto.upd_same] at q; cases q
    have := c b _ hs
    simp only [RepA] at this ⊢
    obtain ⟨_, us', e', r⟩ := this
    rw [e] at e'; cases e'
    exact ⟨us, upd_same, r.unfrz e trivial (fun _ z => by cases z)⟩
  · rw [Sto.upd_ne eb] at q
    exact (c b o q).unfrz e trivial (fun _ z => by cases z) eb
theorem CorL.unfrz {ρ : Loc} {σ : L2.St} {a : Addr} {u : HO} (hh : H a = some (.frz od u)) (hc : Chg u) (hv : ∀ xs, u ≠ .tup xs) (h : CorL K H ρ σ) : CorL K (upd H a u) ρ σ := ⟨h.1, fun i v q => let ⟨x, a, b⟩ := h.2 i v q; ⟨x, a, .unfrz hh hc hv _ b⟩⟩
end
theorem RepK.look {K : PySem.W.Frag} {H : Hp} {f : Str} {v : Val} : ∀ {fs : List (Str × Val)} {us : List (Str × V)}, RepK K H fs us → fs.lookup f = some v → ∃ x, us.lookup f = some x ∧ RepV K H v x
  | [], _, h, e => by cases e
  | (g, w) :: fs, us, h, e => by
    cases h with
    | cons h1 h2 =>
      rename_i q us
      obtain ⟨g', y⟩ := q
      obtain ⟨e1, r⟩ := h1
      simp only at e1 r
      subst e1
      rw [List.lookup_cons] at e ⊢
      cases hh : (f == g) with
      | true => rw [hh] at e; cases e; exact ⟨y, rfl, r⟩
      | false => rw [hh] at e; exact RepK.look h2 e
theorem RepK.look0 {K : PySem.W.Frag} {H : Hp} {f : Str} : ∀ {fs : List (Str × Val)} {us : List (Str × V)}, RepK K H fs us → fs.lookup f = none → us.lookup f = none
  | [], _, h, e => by cases h; rfl
  | (g, w) :: fs, us, h, e => by
    cases h with
    | cons h1 h2 =>
      rename_i q us
      obtain ⟨g', y⟩ := q
      obtain ⟨e1, r⟩ := h1
      simp only at e1 r
      subst e1
      rw [List.lookup_cons] at e ⊢
      cases hh : (f == g) with
      | true => rw [hh] at e; cases e
      | false => rw [hh] at e; exact RepK.look0 h2 e
theorem RepK.put {K : PySem.W.Frag} {H : Hp} {f : Str} {v : Val} {x : V} (r : RepV K H v x) : ∀ {fs : List (Str × Val)} {us : List (Str × V)}, RepK K H fs us → RepK K H (putV f v fs) (putF f x us)
  | [], _, h => by cases h; exact .cons ⟨rfl, r⟩ .nil
  | (g, w) :: fs, us, h => by
    cases h with
    | cons h1 h2 =>
      rename_i q us
      obtain ⟨g', y⟩ := q
      obtain ⟨e1, r1⟩ := h1
      simp only at e1 r1
      subst e1
      unfold putV putF
      split
      · rename_i e; first | rw [if_pos e] | skip
        exact .cons ⟨rfl, r⟩ h2
      · rename_i e; first | rw [if_neg e] | skip
        exact .cons ⟨rfl, r1⟩ (RepK.put r h2)
theorem Cor.ins {K : PySem.W.Frag} {S : Sto} {H : Hp} {a : Addr} {C : Str} {fs : List (Str × Val)} (c : Cor K S H) (h : S a = some (.ins C fs)) : ∃ dx us, H a = some (.ins (He.ga K C) dx us) ∧ RepK K H fs us := by
  have := c a _ h; simpa only [RepA] using this
theorem call_repr {X : Cx} (hu : X.A.units + 70 < cLine) (hg : X.A.guards = some []) : CallR X (.builtin "repr") (fun xs H Q => ∃ x d, xs = [x] ∧ Dp X.K H x d ∧ PyData.showable d = true ∧ d.shown.length ≤ sizeLine ∧ d.depth ≤ 64 ∧ d.hasDict = false ∧ Q (.str d.shown) H) := by
  intro pins s σ H xs us Q I r h
  obtain ⟨x, d, rfl, hd, h1, h2, h3, h4, q⟩ := h
  obtain ⟨u, rfl, ru⟩ := vals1 r
  obtain ⟨as, rd⟩ := Dp.reads I d x u hd ru
  have fin : ∀ (h' : Heap) (u' tk : Tok), (∀ b o, s.heap.get? b = some o → h'.get? b = some o) → EP X pins σ Q (.str d.shown u') { s with heap := h', toks := tk } := fun h' u' tk hk => ⟨.str _, H, I.kept (h' := h') (t' := tk) hk, ⟨_, rfl⟩, q⟩
  cases hd with
  | non => cases ru; exact PySem.P.repr_of_none ⟨.str _, H, I.tok _, ⟨_, rfl⟩, q⟩
  | bl b => cases ru; exact PySem.P.repr_of_bool ⟨.str _, H, I.tok _, ⟨_, rfl⟩, q⟩
  | int i => obtain ⟨t, rfl⟩ := ru; exact PySem.P.repr_of_int (by simpa [PyData.showable] using h1) ⟨.str _, H, I.tok _, ⟨_, rfl⟩, q⟩
  | str z => obtain ⟨t, rfl⟩ := ru; exact PySem.P.repr_of_str ⟨.str _, H, I.tok _, ⟨_, rfl⟩, q⟩ h2
  | tup _ _ => cases ru; exact repr_of_reads' rd h1 (fun z => by rw [h4] at z; cases z) hg (by omega) (fun _ _ e => e) fin h2
  | lst _ _ => cases ru; exact repr_of_reads' rd h1 (fun z => by rw [h4] at z; cases z) hg (by omega) (fun _ _ e => e) fin h2
section
variable {X : Cx} {G : Gam} {k : Nat} {S0 : Sto} {H0 : Hp} {XP : XLoc}
theorem wp_exn (D : Sd X G k S0 H0 XP) {ρ : Loc} {σ : L2.St} {S S1 : Sto} {H H1 : Hp} (cl : CorL X.K H1 ρ σ) (e0 : Evo S0 H0 S H) (e1 : Evo S H S1 H1) {sp : Spec} {vs : List Val} {xs : List V} {Q : VK} (c1 : Cor X.K S1 H1) (r : RepVs X.K H1 vs xs)
    (h : app sp vs S1 (fin X.K S H Q) (fun c S' => XP c ρ S')) : lSp X.K G.ecls sp xs H1 Q (WE (WM X.K G.ecls S0 H0 XP) σ) :=
  ⟨vs, S1, r, c1, h.mono (fun v S' q => q.mono e1) fun c S' q C hC H' e' c' => ⟨c, C, ρ, S', hC, rfl, rfl, cl.evo e', c', (e0.trans e1).trans e', q⟩⟩
mutual
theorem sE (G : Gam) (k : Nat) (S0 : Sto) (H0 : Hp) : ∀ (m : E) {X : Cx} {XP : XLoc} (D : Sd X G k S0 H0 XP) {e : Expr}, mE X.N X.env.scope m e = true → PE X e (lE X.K S0 H0 fun ρ S Q => wE G (fun c S' => XP c ρ S') m ρ S Q)
  | .v i, X, XP, D, e, h => by
    simp only [mE] at h; split at h
    · simp only [Bool.and_eq_true, decide_eq_true_eq] at h
      obtain ⟨⟨h1, h2⟩, h3⟩ := h
      obtain ⟨d1, d2⟩ := dbg_of h3
      refine PE.imp (pe_var h1 (lookup_vis h2) d1 d2) fun σ H Q ⟨ρ, S, cl, c, e0, q⟩ => ?_
      simp only [wE] at q
      obtain ⟨v, hv, q⟩ := q
      obtain ⟨x, hx, r⟩ := cl.2 i v hv
      exact ⟨x, hx, q H x .refl c r⟩
    · cases h
  | .int i, X, XP, D, e, h => by
    simp only [mE] at h; split at h
    · simp only [decide_eq_true_eq] at h; subst h
      refine PE.imp pe_int fun σ H Q ⟨ρ, S, cl, c, e0, q⟩ => ?_
      simp only [wE] at q
      exact q.int c
    · cases h
  | .bl i, X, XP, D, e, h => by
    simp only [mE] at h; split at h
    · simp only [decide_eq_true_eq] at h; subst h
      refine PE.imp pe_bl fun σ H Q ⟨ρ, S, cl, c, e0, q⟩ => ?_
      simp only [wE] at q
      exact q.bl c
    · cases h
  | .non, X, XP, D, e, h => by
    simp only [mE] at h; split at h
    · refine PE.imp pe_non fun σ H Q ⟨ρ, S, cl, c, e0, q⟩ => ?_
      simp only [wE] at q
      exact q.non c
    · cases h
  | .str i, X, XP, D, e, h => by
    simp only [mE] at h; split at h
    · simp only [decide_eq_true_eq] at h; subst h
      refine PE.imp pe_str fun σ H Q ⟨ρ, S, cl, c, e0, q⟩ => ?_
      simp only [wE] at q
      exact q.str c
    · cases h
  | .g x, X, XP, D, e, h => by
    simp only [mE] at h; split at h
    · simp only [Bool.and_eq_true, decide_eq_true_eq] at h
      obtain ⟨⟨rfl, h2⟩, h3⟩ := h
      refine ⟨fun pins s σ H Q I ⟨ρ, S, cl, c, e0, q⟩ => ?_⟩
      simp only [wE] at q
      obtain ⟨v, hv, q⟩ := q
      obtain ⟨y, u, hm, ru, rv⟩ := D.g.cst _ _ hv
      exact (pe_glob (gl_of h2) hm ru (dbg_of h3).1).run pins s σ H Q I (q H y .refl c (rv H))
    · cases h
  | .bin op a b, X, XP, D, e, h => by
    simp only [mE] at h; split at h
    · simp only [Bool.and_eq_true, decide_eq_true_eq] at h
      obtain ⟨⟨rfl, h2⟩, h3⟩ := h
      refine PE.imp (pe_op (bin_snd op) (sE G k S0 H0 a D h2) (sE G k S0 H0 b D h3)) fun σ H Q q => ?_
      simp only [wE] at q
      exact lE.two (wE_mono G _ a) (wE_mono G _ b) (fun {v w S Q Q'} h => wBin_mono h op v w S) (fun _ _ _ _ h => h) q
    · cases h
  | .neg a, X, XP, D, e, h => by
    simp only [mE] at h; split at h
    · refine PE.imp (pe_un un_neg (sE G k S0 H0 a D h)) fun σ H Q ⟨ρ, S, cl, c, e0, q⟩ => ?_
      simp only [wE] at q
      refine ⟨ρ, S, cl, c, e0, wE_mono G _ a (fun v S1 ⟨i, e, q⟩ H1 x e1 c1 r => ?_) q⟩
      subst e
      simp only [RepV] at r; subst r
      exact ⟨i, rfl, (q.mono e1).int c1⟩
    · cases h
  | .cmp op a b, X, XP, D, e, h => by
    simp only [mE] at h; split at h
    · simp only [Bool.and_eq_true, decide_eq_true_eq, Bool.not_eq_true'] at h
      obtain ⟨⟨⟨rfl, h2⟩, h3⟩, h4⟩ := h
      refine PE.imp (pe_cmpR (cmp_snd (by have := D.room.units0; have := D.room.units; have := D.room.un; omega) op) (sE G k S0 H0 a D h2) (sE G k S0 H0 b D h3) h4) fun σ H Q q => ?_
      simp only [wE] at q
      exact lE.two (wE_mono G _ a) (wE_mono G _ b) (fun {v w S Q Q'} h => wCmp_mono h op v w S) (fun _ _ _ _ h => h) q
    · cases h
  | .chain o1 o2 a b c, X, XP, D, e, h => by
    simp only [mE] at h; split at h
    · simp only [Bool.and_eq_true, decide_eq_true_eq, Bool.not_eq_true'] at h
      obtain ⟨⟨⟨⟨⟨⟨rfl, rfl⟩, h2⟩, h3⟩, h5⟩, h4⟩, h6⟩ := h
      have hu : X.A.units + 65 < cLine := by have := D.room.un; omega
      refine PE.imp (pe_chain (cmp_snd hu o1) (cmp_snd hu o2) (sE G k S0 H0 a D h2) (sE G k S0 H0 b D h3) (sE G k S0 H0 c D h5) (by simp only [lastMarks]; exact h6)) fun σ H Q ⟨ρ, S, cl, c, e0, q⟩ => ?_
      simp only [wE] at q
      refine ⟨ρ, S, cl, c, e0, wE_mono G _ a (fun v S1 q H1 x e1 c1 r1 => ?_) q⟩
      refine ⟨ρ, S1, cl.evo e1, c1, e0.trans e1, wE_mono G _ b (fun w S2 q H2 y e2 c2 r2 => ?_) q⟩
      refine ⟨v, w, S2, r1.evo e2, r2, c2, wCmp_mono (fun z S3 ⟨kk, e, q⟩ H3 zz e3 c3 r3 => ?_) _ _ _ _ q⟩
      subst e
      simp only [RepV] at r3; subst r3
      refine ⟨kk, rfl, ?_⟩
      have e03 := (e1.trans e2).trans e3
      cases kk with
      | true =>
        simp only [if_true] at q ⊢
        refine ⟨ρ, S3, cl.evo e03, c3, e0.trans e03, wE_mono G _ _ (fun u S4 q H4 uu e4 c4 r4 => ?_) q⟩
        exact ⟨w, u, S4, (r2.evo e3).evo e4, r4, c4, wCmp_mono (fun r S5 q => q.mono (e03.trans e4)) _ _ _ _ q⟩
      | false =>
        simp only [Bool.false_eq_true, if_false] at q ⊢
        exact (q.mono e03).bl c3
    · cases h
  | .and es, X, XP, D, e, h => by
    simp only [mE] at h; split at h
    · simp only [Bool.and_eq_true] at h
      refine PE.imp (sAndV G k S0 H0 es D h.1 (by simpa using h.2)) fun σ H Q q => ?_
      simp only [wE] at q; exact q
    · cases h
  | .or es, X, XP, D, e, h => by
    simp only [mE] at h; split at h
    · simp only [Bool.and_eq_true] at h
      refine PE.imp (sOrV G k S0 H0 es D h.1 (by simpa using h.2)) fun σ H Q q => ?_
      simp only [wE] at q; exact q
    · cases h
  | .not a, X, XP, D, e, h => by
    simp only [mE] at h; split at h
    · refine PE.imp (pe_not (sE G k S0 H0 a D h)) fun σ H Q ⟨ρ, S, cl, c, e0, q⟩ => ?_
      simp only [wE] at q
      refine ⟨ρ, S, cl, c, e0, wE_mono G _ a (fun v S1 ⟨i, e, q⟩ H1 x e1 c1 r => ?_) q⟩
      subst e
      simp only [RepV] at r; subst r
      exact ⟨i, rfl, (q.mono e1).bl c1⟩
    · cases h
  | .ife t a b, X, XP, D, e, h => by
    simp only [mE] at h; split at h
    · simp only [Bool.and_eq_true] at h
      obtain ⟨⟨h1, h2⟩, h3⟩ := h
      refine PE.imp (pe_ifExp (sB G k S0 H0 t D h1) (sE G k S0 H0 a D h2) (sE G k S0 H0 b D h3)) fun σ H Q ⟨ρ, S, cl, c, e0, q⟩ => ?_
      simp only [wE] at q
      refine ⟨ρ, S, cl, c, e0, wB_mono G _ t (fun kk S1 q H1 e1 c1 => ?_) q⟩
      cases kk with
      | true => simp only [if_true] at q ⊢; exact ⟨ρ, S1, cl.evo e1, c1, e0.trans e1, wE_mono G _ a (fun v S2 q => q.mono e1) q⟩
      | false => simp only [Bool.false_eq_true, if_false] at q ⊢; exact ⟨ρ, S1, cl.evo e1, c1, e0.trans e1, wE_mono G _ b (fun v S2 q => q.mono e1) q⟩
    · cases h
  | .tup es, X, XP, D, e, h => by
    simp only [mE] at h; split at h
    · refine PE.imp (pe_tupN (sEs G k S0 H0 es D h)) fun σ H Q ⟨ρ, S, cl, c, e0, q⟩ => ?_
      simp only [wE] at q
      refine ⟨ρ, S, cl, c, e0, wEs_mono G _ es (fun vs S1 ⟨hl, q⟩ H1 xs e1 c1 r => ⟨by rw [r.length]; exact hl, fun p o hp ho => (q.mono e1).tupN c1 r hp ho⟩) q⟩
    · cases h
  | .lst es, X, XP, D, e, h => by
    simp only [mE] at h; split at h
    · refine PE.imp (pe_lst (sEs G k S0 H0 es D h)) fun σ H Q ⟨ρ, S, cl, c, e0, q⟩ => ?_
      simp only [wE] at q
      refine ⟨ρ, S, cl, c, e0, wEs_mono G _ es (fun vs S1 ⟨hl, q⟩ H1 xs e1 c1 r => ⟨by rw [r.length]; exact hl, fun p hp => fin.lstN c1 (fun p hp => (q p hp).mono e1) r hp⟩) q⟩
    · cases h
  | .ix a i, X, XP, D, e, h => by
    simp only [mE] at h; split at h
    · simp only [Bool.and_eq_true] at h
      refine PE.imp (pe_ix ix_snd (sE G k S0 H0 a D h.1) (sE G k S0 H0 i D h.2) (plainIx_of h.2)) fun σ H Q q => ?_
      simp only [wE] at q
      exact lE.two (wE_mono G _ a) (wE_mono G _ i) (fun {v w S Q Q'} h => vIx_mono h v w S) (fun _ _ _ _ h => h) q
    · cases h
  | .sl a lo hi, X, XP, D, e, h => by
    simp only [mE] at h; split at h
    · simp only [Bool.and_eq_true] at h
      obtain ⟨⟨h1, h2⟩, h3⟩ := h
      refine PE.imp (pe_slice sl_snd (sE G k S0 H0 a D h1) (sP G k S0 H0 lo D h2) (sP G k S0 H0 hi D h3)) fun σ H Q ⟨ρ, S, cl, c, e0, q⟩ => ?_
      simp only [wE] at q
      refine ⟨ρ, S, cl, c, e0, wE_mono G _ a (fun v S1 q H1 x e1 c1 r1 => ?_) q⟩
      refine ⟨ρ, S1, cl.evo e1, c1, e0.trans e1, wP_mono G _ lo (fun l S2 q H2 e2 c2 => ?_) q⟩
      refine ⟨ρ, S2, (cl.evo e1).evo e2, c2, (e0.trans e1).trans e2, wP_mono G _ hi (fun u S3 q H3 e3 c3 => ?_) q⟩
      exact ⟨v, S3, (r1.evo e2).evo e3, c3, vSl_mono (fun r S4 q => q.mono ((e1.trans e2).trans e3)) _ _ _ _ q⟩
    · cases h
  | .rev a, X, XP, D, e, h => by
    simp only [mE] at h; split at h
    · refine PE.imp (pe_revL (sE G k S0 H0 a D h)) fun σ H Q ⟨ρ, S, cl, c, e0, q⟩ => ?_
      simp only [wE] at q
      refine ⟨ρ, S, cl, c, e0, wE_mono G _ a (fun v S1 ⟨p, vs, e, l, q⟩ H1 x e1 c1 r => ?_) q⟩
      subst e
      simp only [RepV] at r; subst r
      obtain ⟨xs, t, r⟩ := c1.rd l
      exact ⟨p, xs, rfl, t, fun p hp => fin.lstN c1 (fun p hp => (q p hp).mono e1) r.reverse hp⟩
    · cases h
  | .fld a f, X, XP, D, e, h => by
    simp only [mE] at h; split at h
    · simp only [Bool.and_eq_true, decide_eq_true_eq] at h
      obtain ⟨⟨rfl, h2⟩, h3⟩ := h
      refine PE.imp (pe_fld (sE G k S0 H0 a D h2) (base_of h3)) fun σ H Q ⟨ρ, S, cl, c, e0, q⟩ => ?_
      simp only [wE] at q
      refine ⟨ρ, S, cl, c, e0, wE_mono G _ a (fun v S1 q H1 x e1 c1 r1 => ?_) q⟩
      unfold vFld at q
      split at q
      · obtain ⟨C, fs, w, hs, ho, hf, q⟩ := q
        simp only [RepV] at r1; subst r1
        obtain ⟨dx, us, eh, rk⟩ := c1.ins hs
        obtain ⟨cl', na⟩ := D.g.fo _ _ ho
        obtain ⟨y, ey, ry⟩ := rk.look hf
        exact ⟨_, _, dx, us, y, rfl, eh, cl', na, ey, q H1 y e1 c1 ry⟩
      · exact q.elim
    · cases h
  | .call f es, X, XP, D, e, h => by
    simp only [mE] at h; split at h
    · simp only [Bool.and_eq_true, decide_eq_true_eq] at h
      obtain ⟨⟨⟨rfl, h2⟩, h3⟩, h4⟩ := h
      rename_i es' _
      cases es with
      | nil =>
        cases es' with
        | cons => simp [mEs] at h4
        | nil =>
          refine ⟨fun pins s σ H Q I ⟨ρ, S, cl, c, e0, q⟩ => ?_⟩
          simp only [wE, wEs] at q
          obtain ⟨sp, hsp, q⟩ := q
          obtain ⟨fa, fd, ps, hm, hk, hb, F⟩ := D.g.fn _ _ hsp
          exact (pe_callM0 F D.room (gl_of h2) hm hk hb D.tk (dbg_of h3).1).run pins s σ H Q I (wp_exn D cl e0 .refl c .nil q)
      | cons m ms =>
        cases es' with
        | nil => simp [mEs] at h4
        | cons e es' =>
          have h4' := h4
          simp only [mEs, Bool.and_eq_true] at h4'
          refine ⟨fun pins s σ H Q I ⟨ρ, S, cl, c, e0, q⟩ => ?_⟩
          simp only [wE] at q
          obtain ⟨sp, hsp, q⟩ := q
          obtain ⟨fa, fd, ps, hm, hk, hb, F⟩ := D.g.fn _ _ hsp
          refine (pe_callM F D.room (gl_of h2) hm hk hb D.tk h4'.1 h4'.2 (sEs G k S0 H0 (m :: ms) D h4) (dbg_of h3).1).run pins s σ H Q I ?_
          refine ⟨ρ, S, cl, c, e0, wEs_mono G _ (m :: ms) (fun vs S1 q H1 xs e1 c1 r1 => ?_) q⟩
          show lSp X.K G.ecls sp (xs ++ []) H1 Q _
          rw [List.append_nil]
          exact wp_exn D (cl.evo e1) e0 e1 c1 r1 q
    · cases h
  | .new f es, X, XP, D, e, h => by
    simp only [mE] at h; split at h
    · simp only [Bool.and_eq_true, decide_eq_true_eq] at h
      obtain ⟨⟨⟨rfl, h2⟩, h3⟩, h4⟩ := h
      rename_i es' _
      have key : ∀ {H1 : Hp} {S1 : Sto} {S : Sto} {H : Hp} {Q : VK} {vs : List Val} {xs : List V} {sp : Spec} (e1 : Evo S H S1 H1) (c1 : Cor X.K S1 H1) (r1 : RepVs X.K H1 vs xs) (q : ∀ p, S1 p = none → app sp (.ref p :: vs) (S1.upd p (.ins f [])) (fun r S2 => r = .non ∧ fin X.K S H Q (.ref p) S2) M.noX),
          ∀ x dx, H1 x = none → H1 dx = none → dx ≠ x → lSp X.K G.ecls sp (.ref x :: (xs ++ [])) (upd (upd H1 dx (.own x)) x (.ins (He.ga X.K f) dx [])) (fun v H2 => v = .non ∧ Q (.ref x) H2) E0 := by
        intro H1 S1 S H Q vs xs sp e1 c1 r1 q x dx hx hdx hne
        have k1 : ∀ b u, H1 b = some u → upd H1 dx (.own x) b = some u := upd_keep hdx
        have hx1 : upd H1 dx (.own x) x = none := by rw [upd_ne (Ne.symm hne)]; exact hx
        have c2 : Cor X.K S1 (upd H1 dx (.own x)) := c1.more k1
        have e2 : Evo S1 H1 S1 (upd H1 dx (.own x)) := .more k1
        have e3 : Evo S1 (upd H1 dx (.own x)) (S1.upd x (.ins f [])) (upd (upd H1 dx (.own x)) x (.ins (He.ga X.K f) dx [])) := .newO hx1
        have c3 := c2.newO (o := .ins f []) (u := .ins (He.ga X.K f) dx []) hx1 (by simp only [RepA]; exact ⟨dx, [], upd_same, .nil⟩)
        rw [List.append_nil]
        refine ⟨.ref x :: vs, _, .cons (by simp only [RepV]) ((r1.evo e2).evo e3), c3, (q x (c1.free hx)).mono (fun v S2 ⟨hv, z⟩ H' zz e' c' r' => ?_) fun c S' z => z.elim⟩
        subst hv
        simp only [RepV] at r'
        exact ⟨r', z H' _ (((e1.trans e2).trans e3).trans e') c' (by simp only [RepV])⟩
      cases es with
      | nil =>
        cases es' with
        | cons => simp [mEs] at h4
        | nil =>
          refine ⟨fun pins s σ H Q I ⟨ρ, S, cl, c, e0, q⟩ => ?_⟩
          simp only [wE, wEs] at q
          obtain ⟨sp, hsp, q⟩ := q
          obtain ⟨j, fa, fd, ps, hj, hm, M, hb, F⟩ := D.g.new _ _ hsp
          exact (pe_make0 M F (D.room.mono hj) (gl_of h2) hm hb .nil passL (dbg_of h3).1).run pins s σ H Q I (key .refl c .nil q)
      | cons m ms =>
        cases es' with
        | nil => simp [mEs] at h4
        | cons e es' =>
          have h4' := h4
          simp only [mEs, Bool.and_eq_true] at h4'
          refine ⟨fun pins s σ H Q I ⟨ρ, S, cl, c, e0, q⟩ => ?_⟩
          simp only [wE] at q
          obtain ⟨sp, hsp, q⟩ := q
          obtain ⟨j, fa, fd, ps, hj, hm, M, hb, F⟩ := D.g.new _ _ hsp
          refine (pe_newM M F (D.room.mono hj) (gl_of h2) hm hb h4'.1 h4'.2 (sEs G k S0 H0 (m :: ms) D h4) (dbg_of h3).1).run pins s σ H Q I ?_
          exact ⟨ρ, S, cl, c, e0, wEs_mono G _ (m :: ms) (fun vs S1 q H1 xs e1 c1 r1 => key e1 c1 r1 q) q⟩
    · cases h
  | .meth o m es, X, XP, D, e, h => by
    simp only [mE] at h; split at h
    · simp only [Bool.and_eq_true, decide_eq_true_eq] at h
      obtain ⟨⟨⟨⟨⟨h1, rfl⟩, h3⟩, h4⟩, h5⟩, h6⟩ := h
      rename_i es' _
      cases es' with
      | nil =>
        cases es with
        | cons => simp [mEs] at h5
        | nil =>
          refine PE.imp (pe_methM0 D.room D.tk h3 h4 (sE G k S0 H0 o D h1)) fun σ H Q ⟨ρ, S, cl, c, e0, q⟩ => ?_
          simp only [wE, wEs] at q
          refine ⟨ρ, S, cl, c, e0, wE_mono G _ o (fun v S1 ⟨a, C, fs, sp, ev, hs, hf, hsp, q⟩ H1 x e1 c1 r1 => ?_) q⟩
          subst ev
          simp only [RepV] at r1; subst r1
          obtain ⟨dx, us, eh, rk⟩ := c1.ins hs
          obtain ⟨g, fd, ps, c', hm, hb, F⟩ := D.g.mt _ _ _ hsp
          exact ⟨a, _, dx, us, g, _, rfl, eh, rk.look0 hf, ⟨c', hm, fd, ps, hb, F⟩, wp_exn D (cl.evo e1) e0 e1 c1 (.cons (by simp only [RepV]) .nil) q⟩
      | cons e' es' =>
        refine PE.imp (pe_methM D.room D.tk h3 h4 h5 h6 (sE G k S0 H0 o D h1) (sEs G k S0 H0 es D h5)) fun σ H Q ⟨ρ, S, cl, c, e0, q⟩ => ?_
        simp only [wE] at q
        refine ⟨ρ, S, cl, c, e0, wE_mono G _ o (fun v S1 ⟨a, C, fs, sp, ev, hs, hf, hsp, q⟩ H1 x e1 c1 r1 => ?_) q⟩
        subst ev
        simp only [RepV] at r1; subst r1
        obtain ⟨dx, us, eh, rk⟩ := c1.ins hs
        obtain ⟨g, fd, ps, c', hm, hb, F⟩ := D.g.mt _ _ _ hsp
        refine ⟨a, _, dx, us, g, _, rfl, eh, rk.look0 hf, ⟨c', hm, fd, ps, hb, F⟩, ρ, S1, cl.evo e1, c1, e0.trans e1, wEs_mono G _ es (fun vs S2 q H2 xs e2 c2 r2 => ?_) q⟩
        exact wp_exn D ((cl.evo e1).evo e2) e0 (e1.trans e2) c2 (.cons (by simp only [RepV]) r2) q
    · cases h
  | .repr a, X, XP, D, e, h => by
    simp only [mE] at h; split at h
    · simp only [Bool.and_eq_true, decide_eq_true_eq] at h
      obtain ⟨⟨rfl, h2⟩, h3⟩ := h
      refine ⟨fun pins s σ H Q I ⟨ρ, S, cl, c, e0, q⟩ => ?_⟩
      simp only [wE] at q
      obtain ⟨hg, q⟩ := q
      refine (pe_callB (call_repr (by have := D.room.un; omega) (D.gd hg)) (gl_of h2) (D.g.blt _ (by decide +kernel)) boot_repr (pa_cons (sE G k S0 H0 a D h3) pa_nil (star_one h3 _ _)) (by decide) (by decide) (star_one h3 _ _) rfl).run pins s σ H Q I ?_
      refine ⟨ρ, S, cl, c, e0, wE_mono G _ a (fun v S1 ⟨d, h1, h2, h3, h4, h5, q⟩ H1 x e1 c1 r1 => ?_) q⟩
      exact ⟨x, d, rfl, dp_of c1 h1 r1, h2, h3, h4, h5, (q.mono e1).str c1⟩
    · cases h
  | .blt b es, X, XP, D, e, h => by
    simp only [mE] at h; split at h
    · simp only [Bool.and_eq_true, decide_eq_true_eq] at h
      obtain ⟨⟨⟨rfl, h2⟩, h3⟩, h4⟩ := h
      rename_i es' _
      cases es with
      | nil => simp at h4
      | cons m ms =>
        cases es' with
        | nil => simp [mEs] at h3
        | cons e es' =>
          have h3' := h3
          simp only [mEs, Bool.and_eq_true] at h3'
          have hm : X.mg (bltName b) = none := D.g.blt _ (blt_mem b)
          have key : ∀ p1 p2, PE X (.Call (.Name (bltName b) p1) (e :: es') [] p2) (tCB (lN X.K (wBlt b)) (lA X.K S0 H0 fun ρ S Q => wEs G (fun c S' => XP c ρ S') (m :: ms) ρ S Q)) := fun p1 p2 => by
            have hb := blt_snd (X := X) D.calm (by have := D.room.un; omega) b
            have hv := bltBoot b
            obtain ⟨n1, n2⟩ := bltNN b
            unfold bltVal at hb hv
            split at hb
            · rename_i hty; rw [if_pos hty] at hv
              exact pe_callTy hb (gl_of h2) hm hv (sEs G k S0 H0 (m :: ms) D h3) n1 n2 (star_one h3'.1 _ _) (backTo_any h3'.2)
            · rename_i hty; rw [if_neg hty] at hv
              exact pe_callB hb (gl_of h2) hm hv (sEs G k S0 H0 (m :: ms) D h3) n1 n2 (star_one h3'.1 _ _) (backTo_any h3'.2)
          refine PE.imp (key _ _) fun σ H Q ⟨ρ, S, cl, c, e0, q⟩ => ?_
          simp only [wE] at q
          refine ⟨ρ, S, cl, c, e0, wEs_mono G _ (m :: ms) (fun vs S1 q H1 xs e1 c1 r1 => ?_) q⟩
          exact ⟨vs, S1, r1, c1, wBlt_mono (fun r S2 q => q.mono e1) _ _ _ q⟩
    · cases h
  | .mth m o es, X, XP, D, e, h => by
    simp only [mE] at h; split at h
    · simp only [Bool.and_eq_true, decide_eq_true_eq] at h
      obtain ⟨⟨⟨⟨⟨⟨h1, rfl⟩, h3⟩, h4⟩, h5⟩, h6⟩, h7⟩ := h
      rename_i es' _
      cases es' with
      | nil =>
        cases es with
        | cons => simp [mEs] at h5
        | nil =>
          by_cases hn : m = .tindex
          · subst hn
            exact absurd rfl (h7 rfl)
          refine PE.imp (pe_mthM0 m h3 h4 (sE G k S0 H0 o D h1)) fun σ H Q ⟨ρ, S, cl, c, e0, q⟩ => ?_
          simp only [wE, wEs] at q
          refine ⟨ρ, S, cl, c, e0, wE_mono G _ o (fun v S1 ⟨ty, q⟩ H1 x e1 c1 r1 => ?_) q⟩
          exact ⟨tyM_rep c1 r1 ty hn, v, [], S1, r1, .nil, c1, wMth_mono (fun r S3 q => q.mono e1) _ _ _ _ q⟩
      | cons e' es' =>
        by_cases hn : m = .tindex
        · subst hn
          refine PE.imp (pe_mthT h3 h4 h5 h6 (sE G k S0 H0 o D h1) (sEs G k S0 H0 es D h5)) fun σ H Q ⟨ρ, S, cl, c, e0, q⟩ => ?_
          simp only [wE] at q
          refine ⟨ρ, S, cl, c, e0, wE_mono G _ o (fun v S1 ⟨ty, q⟩ H1 x e1 c1 r1 => ?_) q⟩
          cases v <;> simp only [tyM] at ty
          have r1' := r1
          simp only [RepV] at r1'
          obtain ⟨p, xs, ex, t, _⟩ := r1'
          refine ⟨⟨p, xs, ex, t⟩, ρ, S1, cl.evo e1, c1, e0.trans e1, wEs_mono G _ es (fun vs S2 q H2 xs e2 c2 r2 => ?_) q⟩
          exact ⟨_, vs, S2, r1.evo e2, r2, c2, wMth_mono (fun r S3 q => q.mono (e1.trans e2)) _ _ _ _ q⟩
        refine PE.imp (pe_mthM m h3 h4 h5 h6 (sE G k S0 H0 o D h1) (sEs G k S0 H0 es D h5)) fun σ H Q ⟨ρ, S, cl, c, e0, q⟩ => ?_
        simp only [wE] at q
        refine ⟨ρ, S, cl, c, e0, wE_mono G _ o (fun v S1 ⟨ty, q⟩ H1 x e1 c1 r1 => ?_) q⟩
        refine ⟨tyM_rep c1 r1 ty hn, ρ, S1, cl.evo e1, c1, e0.trans e1, wEs_mono G _ es (fun vs S2 q H2 xs e2 c2 r2 => ?_) q⟩
        exact ⟨v, vs, S2, r1.evo e2, r2, c2, wMth_mono (fun r S3 q => q.mono (e1.trans e2)) _ _ _ _ q⟩
    · cases h
  | .isi a t, X, XP, D, e, h => by
    simp only [mE] at h; split at h
    · simp only [Bool.and_eq_true, decide_eq_true_eq] at h
      obtain ⟨⟨⟨⟨⟨rfl, h2⟩, h3⟩, h4⟩, rfl⟩, h6⟩ := h
      refine PE.imp (pe_callB call_isi (gl_of h2) (D.g.blt _ (by decide +kernel)) boot_isinst (pa_cons (sE G k S0 H0 a D h3) (pa_cons (pe_bltn (v := .ty t) (gl_of h6) (D.g.blt _ (ty_blt h4)) (ty_boot h4) rfl (ty_nn h4).1 (ty_nn h4).2) pa_nil rfl) (star_one h3 _ _))
        (by decide) (by decide) (star_one h3 _ _) rfl) fun σ H Q ⟨ρ, S, cl, c, e0, q⟩ => ?_
      simp only [wE] at q
      refine ⟨ρ, S, cl, c, e0, wE_mono G _ a (fun v S1 ⟨n, kk, hn, hk, q⟩ H1 x e1 c1 r1 => ?_) q⟩
      exact ⟨x, .ty t, _, _, kk, rfl, .ty t, ty_rep c1 r1 hn, kit_ty hk, (q.mono e1).bl c1⟩
    · cases h
  | .isiT a ts, X, XP, D, e, h => by
    simp only [mE] at h; split at h
    · simp only [Bool.and_eq_true, decide_eq_true_eq] at h
      obtain ⟨⟨⟨⟨rfl, h2⟩, h3⟩, h4⟩, hlen⟩ := h
      refine PE.imp (pe_callB call_isiT (gl_of h2) (D.g.blt _ (by decide +kernel)) boot_isinst (pa_cons (sE G k S0 H0 a D h3) (pa_cons (pe_tup (sTys D.g.blt ts h4)) pa_nil rfl) (star_one h3 _ _))
        (by decide) (by decide) (star_one h3 _ _) rfl) fun σ H Q ⟨ρ, S, cl, c, e0, q⟩ => ?_
      simp only [wE] at q
      refine ⟨ρ, S, cl, c, e0, wE_mono G _ a (fun v S1 ⟨n, hn, hk, q⟩ H1 x e1 c1 r1 => ?_) q⟩
      refine ⟨by rw [List.length_map]; exact Nat.le_trans hlen (by show 100 ≤ sizeLine; decide), fun p hp => ?_⟩
      refine ⟨x, p, _, _, _, _, rfl, upd_same, clsAll ts, ty_rep (c1.tupN hp) (r1.evo (.tupN (S := S1) hp)) hn, kitAny_of ts hk, ?_⟩
      exact (q.mono (e1.trans (.tupN hp))).bl (c1.tupN hp)
    · cases h
  | .lc own t it ifs b, X, XP, D, e, h => by
    simp only [mE] at h; split at h
    · simp only [Bool.and_eq_true, decide_eq_true_eq] at h
      obtain ⟨⟨⟨⟨⟨⟨⟨⟨hz, h1⟩, h2⟩, h3⟩, h4⟩, h5⟩, h6⟩, h7⟩, h8⟩ := h
      rename_i scope _
      have hown := blk_own (blkOk_by h1) h8 h7
      refine PE.imp (pe_lc (g := lG' X.K S0 H0 (slots t) fun v ρ S Q => wTg G M.noX t v ρ S Q) (tt := lB X.K S0 H0 fun ρ S Q => wBs G M.noX ifs ρ S Q) (te := lE X.K S0 H0 fun ρ S Q => wE G M.noX b ρ S Q) D.calm D.nd (sI G k S0 H0 it D h2 hz) (blkOk_by h1) (fun s H C cl fp => sT G k S0 H0 t (D.blk s H scope (compEnvC scope cl C X.env) fp) h3 hown) (fun s H C cl fp => sBs G k S0 H0 ifs (D.blk s H scope (compEnvC scope cl C X.env) fp) h4 h5) (fun s H C cl fp => sE G k S0 H0 b (D.blk s H scope (compEnvC scope cl C X.env) fp) h6) (noSet h2 _)) fun σ H Q q => ?_
      simp only [wE] at q
      exact lc_read (tI := fun ρ S R => wI G (fun c S' => XP c ρ S') it ρ S R) (tG := fun v ρ S Q => wTg G M.noX t v ρ S Q) (tB := fun ρ S Q => wBs G M.noX ifs ρ S Q) (tE := fun ρ S Q => wE G M.noX b ρ S Q) (slots t) h7 (wI_mono G _ it) (wTg_mono G _ t) (wBs_mono G _ ifs) (wE_mono G _ b) q
    · cases h
  | .dK0, X, XP, D, e, h => by
    simp only [mE] at h; split at h
    · refine PE.imp pe_dnewK fun σ H Q ⟨ρ, S, cl, c, e0, q⟩ p hp => ?_
      simp only [wE] at q
      exact q p (c.free hp) _ _ (.newO hp) (c.newO hp (by simp only [RepA]; exact ⟨[], upd_same, .nil⟩)) (by simp only [RepV])
    · cases h
  | .dT0, X, XP, D, e, h => by
    simp only [mE] at h; split at h
    · refine PE.imp pe_dnewT fun σ H Q ⟨ρ, S, cl, c, e0, q⟩ p hp => ?_
      simp only [wE] at q
      exact q p (c.free hp) _ _ (.newO hp) (c.newO hp (by simp only [RepA]; exact ⟨[], upd_same, .nil⟩)) (by simp only [RepV])
    · cases h
  | .dT1 a b, X, XP, D, e, h => by
    simp only [mE] at h; split at h
    · simp only [Bool.and_eq_true] at h
      refine PE.imp (pe_dispT (by have := D.room.un; omega) (sE G k S0 H0 a D h.1) (sE G k S0 H0 b D h.2)) fun σ H Q ⟨ρ, S, cl, c, e0, q⟩ p hp => ?_
      simp only [wE] at q
      have c1 : Cor X.K (S.upd p (.dT [])) (upd H p (.dT [])) := c.newO hp (by simp only [RepA]; exact ⟨[], upd_same, .nil⟩)
      have e1 : Evo S H (S.upd p (.dT [])) (upd H p (.dT [])) := .newO hp
      refine ⟨ρ, S.upd p (.dT []), cl.evo e1, c1, e0.trans e1, wE_mono G _ a (fun w S1 q H1 x e2 c2 r2 => ?_) (q p (c.free hp))⟩
      refine ⟨ρ, S1, (cl.evo e1).evo e2, c2, (e0.trans e1).trans e2, wE_mono G _ b (fun u S2 ⟨ks, ew, hs, q9⟩ H2 y e3 c3 r3 => ?_) q⟩
      subst ew
      have r2 := r2.evo e3
      simp only [RepV] at r2
      obtain ⟨bb, xs, rfl, hb, rk⟩ := r2
      have := kvals_rep rk; subst this
      have hd := c3 p _ hs
      simp only [RepA] at hd
      obtain ⟨us, eu, ru⟩ := hd
      cases ru
      refine ⟨eu, ks, bb, rfl, hb, ?_⟩
      have e4 : Evo S2 H2 (S2.upd p (.dT [(ks, u)])) (upd H2 p (.dT [(ks, y)])) := .chg hs eu trivial
      refine q9 _ _ (((e1.trans e2).trans e3).trans e4) (c3.chg hs eu trivial ?_) (by simp only [RepV])
      simp only [RepA]
      exact ⟨_, upd_same, .cons ⟨rfl, r3.evo e4⟩ .nil⟩
    · cases h
  | .addL a b, X, XP, D, e, h => by
    simp only [mE] at h; split at h
    · simp only [Bool.and_eq_true] at h
      obtain ⟨h2, h3⟩ := h
      refine PE.imp (pe_op addL_snd (sE G k S0 H0 a D h2) (sE G k S0 H0 b D h3)) fun σ H Q q => ?_
      simp only [wE] at q
      exact lE.two (wE_mono G _ a) (wE_mono G _ b) (fun {v w S Q Q'} h => lAdd_mono h v w S) (fun _ _ _ _ h => h) q
    · cases h
  | .revT a, X, XP, D, e, h => by
    simp only [mE] at h; split at h
    · refine PE.imp (pe_revT (sE G k S0 H0 a D h)) fun σ H Q ⟨ρ, S, cl, c, e0, q⟩ => ?_
      simp only [wE] at q
      refine ⟨ρ, S, cl, c, e0, wE_mono G _ a (fun v S1 ⟨xs, ev, q⟩ H1 x e1 c1 r => ?_) q⟩
      subst ev
      simp only [RepV] at r
      obtain ⟨p, us, rfl, t, r⟩ := r
      exact ⟨p, us, rfl, t.sq, fun p o hp ho => (q.mono e1).tupN c1 r.reverse hp ho⟩
    · cases h
  | .ktup es, X, XP, D, e, h => by
    simp only [mE] at h; split at h
    · refine PE.imp (pe_tup (sEs G k S0 H0 es D h)) fun σ H Q ⟨ρ, S, cl, c, e0, q⟩ => ?_
      simp only [wE] at q
      refine ⟨ρ, S, cl, c, e0, wEs_mono G _ es (fun vs S1 ⟨hl, q⟩ H1 xs e1 c1 r => ⟨by rw [r.length]; exact hl, fun p hp => (q.mono e1).ptupN c1 r hp⟩) q⟩
    · cases h
  | .lrng1 a, X, XP, D, e, h => by
    simp only [mE] at h; split at h
    · simp only [Bool.and_eq_true, decide_eq_true_eq] at h
      obtain ⟨⟨⟨⟨rfl, g1⟩, rfl⟩, g2⟩, h3⟩ := h
      refine PE.imp (pe_listRg D.calm (gl_of g1) (D.g.blt _ (by decide +kernel)) (prg_1 (gl_of g2) (D.g.blt _ (by decide +kernel)) (sE G k S0 H0 a D h3) (star_one h3 _ _))) fun σ H Q ⟨ρ, S, cl, c, e0, q⟩ => ?_
      simp only [wE] at q
      refine ⟨ρ, S, cl, c, e0, wE_mono G _ a (fun v S1 ⟨n, ev, h1, h2, q⟩ H1 x e1 c1 r => ?_) q⟩
      subst ev
      simp only [RepV] at r; subst r
      refine ⟨n, rfl, ⟨by decide, by decide, h1, by omega, by omega⟩, fun p hp => ?_⟩
      rw [rgV_eq, show (n - 0).toNat = n.toNat from by rw [Int.sub_zero]]
      exact fin.lstN c1 (fun p hp => (q p hp).mono e1) rep_rng hp
    · cases h
  | .lrng2 a b, X, XP, D, e, h => by
    simp only [mE] at h; split at h
    · simp only [Bool.and_eq_true, decide_eq_true_eq] at h
      obtain ⟨⟨⟨⟨⟨rfl, g1⟩, rfl⟩, g2⟩, h3⟩, h4⟩ := h
      refine PE.imp (pe_listRg D.calm (gl_of g1) (D.g.blt _ (by decide +kernel)) (prg_2 (gl_of g2) (D.g.blt _ (by decide +kernel)) (sE G k S0 H0 a D h3) (sE G k S0 H0 b D h4) (star_one h3 _ _) (star_one h4 _ _) (by rw [star_one h4]; rfl))) fun σ H Q ⟨ρ, S, cl, c, e0, q⟩ => ?_
      simp only [wE] at q
      refine ⟨ρ, S, cl, c, e0, wE_mono G _ a (fun v S1 q H1 x e1 c1 r => ?_) q⟩
      refine ⟨ρ, S1, cl.evo e1, c1, e0.trans e1, wE_mono G _ b (fun w S2 ⟨i, j, ev, ew, h1, h2, h3, q'⟩ H2 y e2 c2 r2 => ?_) q⟩
      subst ev; subst ew
      simp only [RepV] at r r2; subst r; subst r2
      refine ⟨i, j, rfl, rfl, ⟨h1.1, h1.2, h2.1, h2.2, h3⟩, fun p hp => ?_⟩
      rw [rgV_eq]
      exact fin.lstN c2 (fun p hp => (q' p hp).mono (e1.trans e2)) rep_rng hp
    · cases h
  | .lrev a, X, XP, D, e, h => by
    simp only [mE] at h; split at h
    · simp only [Bool.and_eq_true, decide_eq_true_eq] at h
      obtain ⟨⟨⟨⟨rfl, g1⟩, rfl⟩, g2⟩, h3⟩ := h
      refine PE.imp (pe_lstRevN D.calm (gl_of g1) (D.g.blt _ (by decide +kernel)) (gl_of g2) (D.g.blt _ (by decide +kernel)) (sE G k S0 H0 a D h3) (star_one h3 _ _)) fun σ H Q ⟨ρ, S, cl, c, e0, q⟩ => ?_
      simp only [wE] at q
      refine ⟨ρ, S, cl, c, e0, wE_mono G _ a (fun v S1 ⟨p, xs, ev, l, q⟩ H1 x e1 c1 r => ?_) q⟩
      subst ev
      simp only [RepV] at r; subst r
      obtain ⟨us, t, r⟩ := c1.rd l
      exact ⟨p, us, rfl, t, fun p hp => fin.lstN c1 (fun p hp => (q p hp).mono e1) r.reverse hp⟩
    · cases h
  | .trev a, X, XP, D, e, h => by
    simp only [mE] at h; split at h
    · simp only [Bool.and_eq_true, decide_eq_true_eq] at h
      obtain ⟨⟨⟨⟨rfl, g1⟩, rfl⟩, g2⟩, h3⟩ := h
      refine PE.imp (pe_tupRevN D.calm (gl_of g1) (D.g.blt _ (by decide +kernel)) (gl_of g2) (D.g.blt _ (by decide +kernel)) (sE G k S0 H0 a D h3) (star_one h3 _ _)) fun σ H Q ⟨ρ, S, cl, c, e0, q⟩ => ?_
      simp only [wE] at q
      refine ⟨ρ, S, cl, c, e0, wE_mono G _ a (fun v S1 ⟨p, xs, ev, l, q⟩ H1 x e1 c1 r => ?_) q⟩
      subst ev
      simp only [RepV] at r; subst r
      obtain ⟨us, t, r⟩ := c1.rd l
      exact ⟨p, us, rfl, t, fun p o hp ho => (q.mono e1).tupN c1 r.reverse hp ho⟩
    · cases h
  | .sset a, X, XP, D, e, h => by
    simp only [mE] at h; split at h
    · simp only [Bool.and_eq_true, decide_eq_true_eq] at h
      obtain ⟨⟨⟨⟨rfl, g1⟩, rfl⟩, g2⟩, h3⟩ := h
      refine PE.imp (pe_sortSet D.calm (gl_of g1) (D.g.blt _ (by decide +kernel)) (gl_of g2) (D.g.blt _ (by decide +kernel)) (sE G k S0 H0 a D h3) (star_one h3 _ _)) fun σ H Q ⟨ρ, S, cl, c, e0, q⟩ => ?_
      simp only [wE] at q
      refine ⟨ρ, S, cl, c, e0, wE_mono G _ a (fun v S1 ⟨ns, ev, hl, q⟩ H1 x e1 c1 r => ?_) q⟩
      subst ev
      simp only [RepV] at r
      obtain ⟨p, xs, rfl, t, r⟩ := r
      have := ints_reps ns r; subst this
      exact ⟨p, ns, rfl, t.sq, hl, fun ns' p h1 h2 hp => fin.lstN c1 (fun p hp => (q ns' h1 h2 p hp).mono e1) (reps_ints ns') hp⟩
    · cases h
  | .dix d i, X, XP, D, e, h => by
    simp only [mE] at h; split at h
    · simp only [Bool.and_eq_true] at h
      refine PE.imp (pe_dget (by have := D.room.un; omega) (sE G k S0 H0 d D h.1) (sE G k S0 H0 i D h.2) (fun ov iv => plainIx_of h.2 ov iv)) fun σ H Q ⟨ρ, S, cl, c, e0, q⟩ => ?_
      simp only [wE] at q
      refine ⟨ρ, S, cl, c, e0, wE_mono G _ d (fun v S1 q H1 x e1 c1 r => ?_) q⟩
      refine ⟨ρ, S1, cl.evo e1, c1, e0.trans e1, wE_mono G _ i (fun w S2 ⟨a, z, ev, dg, q'⟩ H2 y e2 c2 r2 => ?_) q⟩
      subst ev
      simp only [RepV] at r; subst r
      obtain ⟨ro, g, zz, rfl, rz⟩ := c2.dget dg r2
      exact ⟨a, zz, rfl, g, (q'.mono (e1.trans e2)) H2 zz .refl c2 rz⟩
    · cases h
  | .dg1 d i, X, XP, D, e, h => by
    simp only [mE] at h; split at h
    · simp only [Bool.and_eq_true, decide_eq_true_eq] at h
      obtain ⟨⟨⟨⟨rfl, h2⟩, h3⟩, h4⟩, h5⟩ := h
      refine PE.imp (pe_dget1 (by have := D.room.un; omega) (sE G k S0 H0 d D h4) (sE G k S0 H0 i D h5) (m1_of h2 h3 h5)) fun σ H Q ⟨ρ, S, cl, c, e0, q⟩ => ?_
      simp only [wE] at q
      refine ⟨ρ, S, cl, c, e0, wE_mono G _ d (fun v S1 ⟨a, ev, is, q⟩ H1 x e1 c1 r => ?_) q⟩
      subst ev
      simp only [RepV] at r; subst r
      refine ⟨a, rfl, c1.isD is, ρ, S1, cl.evo e1, c1, e0.trans e1, wE_mono G _ i (fun w S2 ⟨o, dg, q⟩ H2 y e2 c2 r2 => ?_) q⟩
      obtain ⟨ro, g, ho⟩ := c2.dget dg r2
      refine ⟨ro, g, q H2 _ (e1.trans e2) c2 ?_⟩
      cases o with
      | none => rw [show ro = none from ho]; simp only [Option.getD, RepV]
      | some w => obtain ⟨z, rfl, rz⟩ := ho; exact rz
    · cases h
  | .dg2 d i u, X, XP, D, e, h => by
    simp only [mE] at h; split at h
    · simp only [Bool.and_eq_true, decide_eq_true_eq] at h
      obtain ⟨⟨⟨⟨⟨rfl, h2⟩, h3⟩, h4⟩, h5⟩, h6⟩ := h
      refine PE.imp (pe_dget2 (by have := D.room.un; omega) (sE G k S0 H0 d D h4) (sE G k S0 H0 i D h5) (sE G k S0 H0 u D h6) (m2_of h2 h3 h5 h6)) fun σ H Q ⟨ρ, S, cl, c, e0, q⟩ => ?_
      simp only [wE] at q
      refine ⟨ρ, S, cl, c, e0, wE_mono G _ d (fun v S1 ⟨a, ev, is, q⟩ H1 x e1 c1 r => ?_) q⟩
      subst ev
      simp only [RepV] at r; subst r
      refine ⟨a, rfl, c1.isD is, ρ, S1, cl.evo e1, c1, e0.trans e1, wE_mono G _ i (fun w S2 q H2 y e2 c2 r2 => ?_) q⟩
      refine ⟨ρ, S2, (cl.evo e1).evo e2, c2, (e0.trans e1).trans e2, wE_mono G _ u (fun w' S3 ⟨o, dg, q⟩ H3 y' e3 c3 r3 => ?_) q⟩
      obtain ⟨ro, g, ho⟩ := c3.dget dg (r2.evo e3)
      refine ⟨ro, g, q H3 _ ((e1.trans e2).trans e3) c3 ?_⟩
      cases o with
      | none => rw [show ro = none from ho]; exact r3
      | some w => obtain ⟨z, rfl, rz⟩ := ho; exact rz
    · cases h
  | .dsd d i u, X, XP, D, e, h => by
    simp only [mE] at h; split at h
    · simp only [Bool.and_eq_true, decide_eq_true_eq] at h
      obtain ⟨⟨⟨⟨⟨rfl, h2⟩, h3⟩, h4⟩, h5⟩, h6⟩ := h
      refine PE.imp (pe_dsetd (sE G k S0 H0 d D h4) (sE G k S0 H0 i D h5) (sE G k S0 H0 u D h6) (m2_of h2 h3 h5 h6)) fun σ H Q ⟨ρ, S, cl, c, e0, q⟩ => ?_
      simp only [wE] at q
      refine ⟨ρ, S, cl, c, e0, wE_mono G _ d (fun v S1 ⟨a, ev, is, q⟩ H1 x e1 c1 r => ?_) q⟩
      subst ev
      simp only [RepV] at r; subst r
      refine ⟨a, rfl, c1.isD is, ρ, S1, cl.evo e1, c1, e0.trans e1, wE_mono G _ i (fun w S2 q H2 y e2 c2 r2 => ?_) q⟩
      refine ⟨ρ, S2, (cl.evo e1).evo e2, c2, (e0.trans e1).trans e2, wE_mono G _ u (fun w' S3 ⟨kvs, key, hs, ek, hl, q1, q2⟩ H3 y' e3 c3 r3 => ?_) q⟩
      subst ek
      have := kval_rep (r2.evo e3); subst this
      have hd := c3 a _ hs
      simp only [RepA] at hd
      obtain ⟨us, eu, rk⟩ := hd
      have hv := rk.val key
      have e13 := (e1.trans e2).trans e3
      refine ⟨us, key, eu, rfl, by rw [rk.length']; exact hl, fun v hvv => ?_, fun hn => ?_⟩
      · cases ho : vlK kvs key with
        | none => rw [ho] at hv; rw [show valV us key = none from hv] at hvv; cases hvv
        | some w =>
          rw [ho] at hv
          obtain ⟨z, ez, rz⟩ := hv
          rw [hvv] at ez; cases ez
          exact q1 w ho H3 _ e13 c3 rz
      · cases ho : vlK kvs key with
        | none =>
          have ev2 : Evo S3 H3 (S3.upd a (.dK (ptK kvs key w'))) (upd H3 a (.dK (putK us key y'))) := .chg hs eu trivial
          refine q2 ho _ _ (e13.trans ev2) (c3.chg hs eu trivial ?_) (r3.evo ev2)
          simp only [RepA]
          exact ⟨_, upd_same, (rk.putK' r3).evo' (chg_tup eu trivial) (chg_frz eu trivial)⟩
        | some w =>
          rw [ho] at hv
          obtain ⟨z, ez, rz⟩ := hv
          rw [hn] at ez; cases ez
    · cases h
  | .dpop d i, X, XP, D, e, h => by
    simp only [mE] at h; split at h
    · simp only [Bool.and_eq_true, decide_eq_true_eq] at h
      obtain ⟨⟨⟨⟨rfl, h2⟩, h3⟩, h4⟩, h5⟩ := h
      refine PE.imp (pe_dpop1 (sE G k S0 H0 d D h4) (sE G k S0 H0 i D h5) (m1_of h2 h3 h5)) fun σ H Q ⟨ρ, S, cl, c, e0, q⟩ => ?_
      simp only [wE] at q
      refine ⟨ρ, S, cl, c, e0, wE_mono G _ d (fun v S1 ⟨a, ev, is, q⟩ H1 x e1 c1 r => ?_) q⟩
      subst ev
      simp only [RepV] at r; subst r
      refine ⟨a, rfl, c1.isD is, ρ, S1, cl.evo e1, c1, e0.trans e1, wE_mono G _ i (fun w S2 ⟨kvs, key, z, hs, ek, hz, q⟩ H2 y e2 c2 r2 => ?_) q⟩
      subst ek
      have := kval_rep r2; subst this
      have hd := c2 a _ hs
      simp only [RepA] at hd
      obtain ⟨us, eu, rk⟩ := hd
      have hv := rk.val key
      rw [hz] at hv
      obtain ⟨zz, ez, rz⟩ := hv
      have ev2 : Evo S2 H2 (S2.upd a (.dK (drK kvs key))) (upd H2 a (.dK (dropK us key))) := .chg hs eu trivial
      refine ⟨us, key, zz, eu, rfl, ez, q _ _ ((e1.trans e2).trans ev2) (c2.chg hs eu trivial ?_) (rz.evo ev2)⟩
      simp only [RepA]
      exact ⟨_, upd_same, rk.dropK'.evo' (chg_tup eu trivial) (chg_frz eu trivial)⟩
    · cases h
  | .din n i d, X, XP, D, e, h => by
    simp only [mE] at h; split at h
    · simp only [Bool.and_eq_true, decide_eq_true_eq, Bool.not_eq_true'] at h
      obtain ⟨⟨⟨rfl, h2⟩, h3⟩, h4⟩ := h
      refine PE.imp (pe_cmp (pc_dinM n (by have := D.room.un; omega) (sE G k S0 H0 i D h2) (sE G k S0 H0 d D h3)) h4) fun σ H Q ⟨ρ, S, cl, c, e0, q⟩ => ?_
      simp only [wE] at q
      refine ⟨ρ, S, cl, c, e0, wE_mono G _ i (fun w S1 q H1 x e1 c1 r => ?_) q⟩
      refine ⟨ρ, S1, cl.evo e1, c1, e0.trans e1, wE_mono G _ d (fun v S2 ⟨a, o, ev, dg, q⟩ H2 y e2 c2 r2 => ?_) q⟩
      subst ev
      simp only [RepV] at r2; subst r2
      obtain ⟨ro, g, ho⟩ := c2.dget dg (r.evo e2)
      exact ⟨a, ro, rfl, g, by rw [ho.some_eq]; exact (q.mono (e1.trans e2)).bl c2⟩
    · cases h
  | .lockE a, X, XP, D, e, h => by
    simp only [mE] at h; split at h
    · rename_i b g s p
      have key : PE X (.ListComp b g s p) (fun σ H Q => ∃ S0 H0, lE X.K S0 H0 (fun ρ S Q => wE G M.noX a ρ S Q) σ H Q) := ⟨fun pins s σ H Q I ⟨S0, H0, q⟩ => (sE G k S0 H0 a (D.noX.start S0 H0) h).run pins s σ H Q I q⟩
      refine PE.imp (pe_lock key) fun σ H Q ⟨ρ, S, cl, c, e0, q⟩ => ?_
      simp only [wE] at q
      obtain ⟨d, ⟨kvs, hs, q⟩ | ⟨kvs, hs, q⟩⟩ := q
      · have hd := c d _ hs
        simp only [RepA] at hd
        obtain ⟨us, eu, rk⟩ := hd
        refine ⟨d, _, eu, trivial, fun od => ⟨S.upd d (.fK kvs), _, ρ, S.upd d (.fK kvs), cl.evo (.lockO (o' := .fK kvs) hs eu trivial), c.lockK hs eu rk, .refl, wE_mono G _ a (fun v S1 ⟨hs1, q⟩ H1 x e1 c1 r1 => ?_) q⟩⟩
        have hf : H1 d = some (.frz od (.dK us)) := e1.frz _ _ _ upd_same
        exact ⟨hf, q _ _ (.unlockO hs eu trivial e1) (c1.unlockK hs1 hf) (.unfrz hf trivial (fun _ z => by cases z) _ r1)⟩
      · have hd := c d _ hs
        simp only [RepA] at hd
        obtain ⟨us, eu, rk⟩ := hd
        refine ⟨d, _, eu, trivial, fun od => ⟨S.upd d (.fT kvs), _, ρ, S.upd d (.fT kvs), cl.evo (.lockO (o' := .fT kvs) hs eu trivial), c.lockT hs eu rk, .refl, wE_mono G _ a (fun v S1 ⟨hs1, q⟩ H1 x e1 c1 r1 => ?_) q⟩⟩
        have hf : H1 d = some (.frz od (.dT us)) := e1.frz _ _ _ upd_same
        exact ⟨hf, q _ _ (.unlockO hs eu trivial e1) (c1.unlockT hs1 hf) (.unfrz hf trivial (fun _ z => by cases z) _ r1)⟩
    · cases h
theorem sEs (G : Gam) (k : Nat) (S0 : Sto) (H0 : Hp) : ∀ (ms : List E) {X : Cx} {XP : XLoc} (D : Sd X G k S0 H0 XP) {es : List Expr}, mEs X.N X.env.scope ms es = true → PA X es (lA X.K S0 H0 fun ρ S Q => wEs G (fun c S' => XP c ρ S') ms ρ S Q)
  | [], X, XP, D, es, h => by
    simp only [mEs] at h; split at h
    · refine PA.imp pa_nil fun σ H Q ⟨ρ, S, cl, c, e0, q⟩ => ?_
      simp only [wEs] at q
      exact q H [] .refl c .nil
    · cases h
  | m :: ms, X, XP, D, es, h => by
    simp only [mEs] at h; split at h
    · simp only [Bool.and_eq_true] at h
      refine PA.imp (pa_cons (sE G k S0 H0 m D h.1) (sEs G k S0 H0 ms D h.2) (star_one h.1 _ _)) fun σ H Q ⟨ρ, S, cl, c, e0, q⟩ => ?_
      simp only [wEs] at q
      refine ⟨ρ, S, cl, c, e0, wE_mono G _ m (fun v S1 q H1 x e1 c1 r1 => ?_) q⟩
      exact ⟨ρ, S1, cl.evo e1, c1, e0.trans e1, wEs_mono G _ ms (fun vs S2 q H2 xs e2 c2 r2 => q H2 _ (e1.trans e2) c2 (.cons (r1.evo e2) r2)) q⟩
    · cases h
theorem sAndV (G : Gam) (k : Nat) (S0 : Sto) (H0 : Hp) : ∀ (ms : List E) {X : Cx} {XP : XLoc} (D : Sd X G k S0 H0 XP) {es : List Expr} {pos : Pos}, mEs X.N X.env.scope ms es = true → ms ≠ [] → PE X (.BoolOp .And es pos) (lE X.K S0 H0 fun ρ S Q => wAndV G (fun c S' => XP c ρ S') ms ρ S Q)
  | [], _, _, _, _, _, _, h => absurd rfl h
  | [m], X, XP, D, es, pos, h, _ => by
    simp only [mEs] at h; split at h
    · simp only [Bool.and_eq_true] at h
      rename_i e es _
      have h2 := h.2
      split at h2
      · refine PE.imp (pe_one (sE G k S0 H0 m D h.1)) fun σ H Q ⟨ρ, S, cl, c, e0, q⟩ => ?_
        simp only [wAndV, List.isEmpty_nil, if_true] at q
        exact ⟨ρ, S, cl, c, e0, q⟩
      · cases h2
    · cases h
  | m :: m' :: ms, X, XP, D, es, pos, h, _ => by
    simp only [mEs] at h; split at h
    · simp only [Bool.and_eq_true] at h
      rename_i e es _
      obtain ⟨h1, h2⟩ := h
      split at h2
      · rename_i e' es'
        have h2' : mEs X.N X.env.scope (m' :: ms) (e' :: es') = true := by simp only [mEs]; exact h2
        refine PE.imp (pe_and (sE G k S0 H0 m D h1) (sAndV G k S0 H0 (m' :: ms) D h2' (by simp))) fun σ H Q ⟨ρ, S, cl, c, e0, q⟩ => ?_
        replace q : wAndV G (fun c S' => XP c ρ S') (m :: m' :: ms) ρ S (fin X.K S H Q) := q
        rw [wAndV] at q
        refine ⟨ρ, S, cl, c, e0, wE_mono G _ m (fun v S1 q H1 x e1 c1 r => ?_) q⟩
        simp only [List.isEmpty_cons, Bool.false_eq_true, if_false] at q
        obtain ⟨b, e, q⟩ := q
        subst e
        simp only [RepV] at r; subst r
        refine ⟨b, rfl, ?_⟩
        cases b with
        | true => simp only [if_true] at q ⊢; exact ⟨ρ, S1, cl.evo e1, c1, e0.trans e1, wAndV_mono G _ (m' :: ms) (fun v S2 q => q.mono e1) q⟩
        | false => simp only [Bool.false_eq_true, if_false] at q ⊢; exact (q.mono e1).bl c1
      · cases h2
    · cases h
theorem sOrV (G : Gam) (k : Nat) (S0 : Sto) (H0 : Hp) : ∀ (ms : List E) {X : Cx} {XP : XLoc} (D : Sd X G k S0 H0 XP) {es : List Expr} {pos : Pos}, mEs X.N X.env.scope ms es = true → ms ≠ [] → PE X (.BoolOp .Or es pos) (lE X.K S0 H0 fun ρ S Q => wOrV G (fun c S' => XP c ρ S') ms ρ S Q)
  | [], _, _, _, _, _, _, h => absurd rfl h
  | [m], X, XP, D, es, pos, h, _ => by
    simp only [mEs] at h; split at h
    · simp only [Bool.and_eq_true] at h
      rename_i e es _
      have h2 := h.2
      split at h2
      · refine PE.imp (pe_one (sE G k S0 H0 m D h.1)) fun σ H Q ⟨ρ, S, cl, c, e0, q⟩ => ?_
        simp only [wOrV, List.isEmpty_nil, if_true] at q
        exact ⟨ρ, S, cl, c, e0, q⟩
      · cases h2
    · cases h
  | m :: m' :: ms, X, XP, D, es, pos, h, _ => by
    simp only [mEs] at h; split at h
    · simp only [Bool.and_eq_true] at h
      rename_i e es _
      obtain ⟨h1, h2⟩ := h
      split at h2
      · rename_i e' es'
        have h2' : mEs X.N X.env.scope (m' :: ms) (e' :: es') = true := by simp only [mEs]; exact h2
        refine PE.imp (pe_or (sE G k S0 H0 m D h1) (sOrV G k S0 H0 (m' :: ms) D h2' (by simp))) fun σ H Q ⟨ρ, S, cl, c, e0, q⟩ => ?_
        replace q : wOrV G (fun c S' => XP c ρ S') (m :: m' :: ms) ρ S (fin X.K S H Q) := q
        rw [wOrV] at q
        refine ⟨ρ, S, cl, c, e0, wE_mono G _ m (fun v S1 q H1 x e1 c1 r => ?_) q⟩
        simp only [List.isEmpty_cons, Bool.false_eq_true, if_false] at q
        obtain ⟨b, e, q⟩ := q
        subst e
        simp only [RepV] at r; subst r
        refine ⟨b, rfl, ?_⟩
        cases b with
        | false => simp only [Bool.false_eq_true, if_false] at q ⊢; exact ⟨ρ, S1, cl.evo e1, c1, e0.trans e1, wOrV_mono G _ (m' :: ms) (fun v S2 q => q.mono e1) q⟩
        | true => simp only [if_true] at q ⊢; exact (q.mono e1).bl c1
      · cases h2
    · cases h
theorem sB (G : Gam) (k : Nat) (S0 : Sto) (H0 : Hp) : ∀ (m : B) {X : Cx} {XP : XLoc} (D : Sd X G k S0 H0 XP) {e : Expr}, mB X.N X.env.scope m e = true → PT X e (lB X.K S0 H0 fun ρ S Q => wB G (fun c S' => XP c ρ S') m ρ S Q)
  | .val a, X, XP, D, e, h => by
    obtain ⟨h1, h2⟩ := truth_of (env := X.env) h
    have pa := sE G k S0 H0 a D h1
    refine ⟨fun pins s σ H Q I ⟨ρ, S, cl, c, e0, q⟩ => ?_⟩
    simp only [wB] at q
    rw [h2]
    have run := pa.run pins s σ H (fun x H1 => ∃ v S1, RepV X.K H1 v x ∧ Cor X.K S1 H1 ∧ wTru v S1 (fun b S' => ∀ H', Evo S1 H1 S' H' → Cor X.K S' H' → Q b H')) I
      ⟨ρ, S, cl, c, e0, wE_mono G _ a (fun v S1 q H1 x e1 c1 r1 => ⟨v, S1, r1, c1, wTru_mono (fun b S2 q H2 e2 c2 => q H2 (e1.trans e2) c2) _ _ q⟩) q⟩
    refine PySem.wpAny_bind (thn run fun v s1 ⟨x, H1, I1, r1, q1⟩ => ?_)
    exact PySem.wpAny_bind (PySem.wpAny_standAt (PySem.wpAny_holding (tru_snd pins s1 σ H1 x v Q I1 r1 q1)))
  | .cmp op a b, X, XP, D, e, h => by
    simp only [mB] at h; split at h
    · simp only [Bool.and_eq_true, decide_eq_true_eq, Bool.not_eq_true'] at h
      obtain ⟨⟨⟨rfl, h2⟩, h3⟩, h4⟩ := h
      refine PT.imp (pt_cmpR (cmp_snd (by have := D.room.un; omega) op) (sE G k S0 H0 a D h2) (sE G k S0 H0 b D h3) h4) fun σ H Q ⟨ρ, S, cl, c, e0, q⟩ => ?_
      simp only [wB] at q
      refine ⟨ρ, S, cl, c, e0, wE_mono G _ a (fun v S1 q H1 x e1 c1 r1 => ?_) q⟩
      refine ⟨ρ, S1, cl.evo e1, c1, e0.trans e1, wE_mono G _ b (fun w S2 q H2 y e2 c2 r2 => ?_) q⟩
      refine ⟨v, w, S2, r1.evo e2, r2, c2, wCmp_mono (fun r S3 ⟨kk, e, q⟩ H3 z e3 c3 r3 => ?_) _ _ _ _ q⟩
      subst e
      simp only [RepV] at r3; subst r3
      exact ⟨kk, rfl, q H3 ((e1.trans e2).trans e3) c3⟩
    · cases h
  | .chain o1 o2 a b c, X, XP, D, e, h => by
    simp only [mB] at h; split at h
    · simp only [Bool.and_eq_true, decide_eq_true_eq, Bool.not_eq_true'] at h
      obtain ⟨⟨⟨⟨⟨⟨rfl, rfl⟩, h2⟩, h3⟩, h5⟩, h4⟩, h6⟩ := h
      have hu : X.A.units + 65 < cLine := by have := D.room.un; omega
      refine PT.imp (pt_chain (cmp_snd hu o1) (cmp_snd hu o2) (sE G k S0 H0 a D h2) (sE G k S0 H0 b D h3) (sE G k S0 H0 c D h5) (by simp only [lastMarks]; exact h6)) fun σ H Q ⟨ρ, S, cl, cc, e0, q⟩ => ?_
      simp only [wB] at q
      refine ⟨ρ, S, cl, cc, e0, wE_mono G _ a (fun v S1 q H1 x e1 c1 r1 => ?_) q⟩
      refine ⟨ρ, S1, cl.evo e1, c1, e0.trans e1, wE_mono G _ b (fun w S2 q H2 y e2 c2 r2 => ?_) q⟩
      refine ⟨v, w, S2, r1.evo e2, r2, c2, wCmp_mono (fun z S3 ⟨kk, e, q⟩ H3 zz e3 c3 r3 => ?_) _ _ _ _ q⟩
      subst e
      simp only [RepV] at r3; subst r3
      refine ⟨kk, rfl, ?_⟩
      have e03 := (e1.trans e2).trans e3
      cases kk with
      | true =>
        simp only [if_true] at q ⊢
        refine ⟨ρ, S3, cl.evo e03, c3, e0.trans e03, wE_mono G _ _ (fun u S4 q H4 uu e4 c4 r4 => ?_) q⟩
        refine ⟨w, u, S4, (r2.evo e3).evo e4, r4, c4, wCmp_mono (fun r S5 ⟨k2, e, q⟩ H5 z5 e5 c5 r5 => ?_) _ _ _ _ q⟩
        subst e
        simp only [RepV] at r5; subst r5
        exact ⟨k2, rfl, q H5 ((e03.trans e4).trans e5) c5⟩
      | false =>
        simp only [Bool.false_eq_true, if_false] at q ⊢
        exact ⟨false, rfl, q H3 e03 c3⟩
    · cases h
  | .chain3 o1 o2 o3 a b c d, X, XP, D, e, h => by
    simp only [mB] at h; split at h
    · simp only [Bool.and_eq_true, decide_eq_true_eq, Bool.not_eq_true'] at h
      obtain ⟨⟨⟨⟨⟨⟨⟨rfl, rfl⟩, rfl⟩, h2⟩, h3⟩, h4⟩, h5⟩, h6⟩ := h
      have hu : X.A.units + 65 < cLine := by have := D.room.un; omega
      refine PT.imp (pt_chain3 (cmp_snd hu o1) (cmp_snd hu o2) (cmp_snd hu o3) (sE G k S0 H0 a D h2) (sE G k S0 H0 b D h3) (sE G k S0 H0 c D h4) (sE G k S0 H0 d D h5) h6) fun σ H Q ⟨ρ, S, cl, cc, e0, q⟩ => ?_
      simp only [wB] at q
      refine ⟨ρ, S, cl, cc, e0, wE_mono G _ a (fun v S1 q H1 x e1 c1 r1 => ?_) q⟩
      refine ⟨ρ, S1, cl.evo e1, c1, e0.trans e1, wE_mono G _ b (fun w S2 q H2 y e2 c2 r2 => ?_) q⟩
      refine ⟨v, w, S2, r1.evo e2, r2, c2, wCmp_mono (fun z S3 ⟨kk, e, q⟩ H3 zz e3 c3 r3 => ?_) _ _ _ _ q⟩
      subst e
      simp only [RepV] at r3; subst r3
      refine ⟨kk, rfl, ?_⟩
      have e03 := (e1.trans e2).trans e3
      cases kk with
      | true =>
        simp only [if_true] at q ⊢
        refine ⟨ρ, S3, cl.evo e03, c3, e0.trans e03, wE_mono G _ _ (fun u S4 q H4 uu e4 c4 r4 => ?_) q⟩
        refine ⟨w, u, S4, (r2.evo e3).evo e4, r4, c4, wCmp_mono (fun r S5 ⟨k2, e, q⟩ H5 z5 e5 c5 r5 => ?_) _ _ _ _ q⟩
        subst e
        simp only [RepV] at r5; subst r5
        refine ⟨k2, rfl, ?_⟩
        have e05 := (e03.trans e4).trans e5
        cases k2 with
        | true =>
          simp only [if_true] at q ⊢
          refine ⟨ρ, S5, cl.evo e05, c5, e0.trans e05, wE_mono G _ _ (fun u2 S6 q H6 uu2 e6 c6 r6 => ?_) q⟩
          refine ⟨u, u2, S6, (r4.evo e5).evo e6, r6, c6, wCmp_mono (fun r S7 ⟨k3, e, q⟩ H7 z7 e7 c7 r7 => ?_) _ _ _ _ q⟩
          subst e
          simp only [RepV] at r7; subst r7
          exact ⟨k3, rfl, q H7 ((e05.trans e6).trans e7) c7⟩
        | false =>
          simp only [Bool.false_eq_true, if_false] at q ⊢
          exact q H5 e05 c5
      | false =>
        simp only [Bool.false_eq_true, if_false] at q ⊢
        exact q H3 e03 c3
    · cases h
  | .not b, X, XP, D, e, h => by
    simp only [mB] at h; split at h
    · refine PT.imp (pt_not (sB G k S0 H0 b D h)) fun σ H Q ⟨ρ, S, cl, c, e0, q⟩ => ?_
      simp only [wB] at q
      exact ⟨ρ, S, cl, c, e0, q⟩
    · cases h
  | .din n i d, X, XP, D, e, h => by
    simp only [mB] at h; split at h
    · simp only [Bool.and_eq_true, decide_eq_true_eq, Bool.not_eq_true'] at h
      obtain ⟨⟨⟨rfl, h2⟩, h3⟩, h4⟩ := h
      refine PT.imp (pt_cmp (pc_dinM n (by have := D.room.un; omega) (sE G k S0 H0 i D h2) (sE G k S0 H0 d D h3)) h4) fun σ H Q ⟨ρ, S, cl, c, e0, q⟩ => ?_
      simp only [wB] at q
      refine ⟨ρ, S, cl, c, e0, wE_mono G _ i (fun w S1 q H1 x e1 c1 r => ?_) q⟩
      refine ⟨ρ, S1, cl.evo e1, c1, e0.trans e1, wE_mono G _ d (fun v S2 ⟨a, o, ev, dg, q⟩ H2 y e2 c2 r2 => ?_) q⟩
      subst ev
      simp only [RepV] at r2; subst r2
      obtain ⟨ro, g, ho⟩ := c2.dget dg (r.evo e2)
      exact ⟨a, ro, rfl, g, _, rfl, by rw [ho.some_eq]; exact q H2 (e1.trans e2) c2⟩
    · cases h
  | .and bs, X, XP, D, e, h => by
    simp only [mB] at h; split at h
    · simp only [Bool.and_eq_true] at h
      refine PT.imp (PW.pt (sAnd G k S0 H0 bs D h.1 (by simpa using h.2))) fun σ H Q q => ?_
      simp only [wB] at q; exact q
    · cases h
  | .or bs, X, XP, D, e, h => by
    simp only [mB] at h; split at h
    · simp only [Bool.and_eq_true] at h
      refine PT.imp (PW.pt (sOr G k S0 H0 bs D h.1 (by simpa using h.2))) fun σ H Q q => ?_
      simp only [wB] at q; exact q
    · cases h
theorem sAnd (G : Gam) (k : Nat) (S0 : Sto) (H0 : Hp) : ∀ (ms : List B) {X : Cx} {XP : XLoc} (D : Sd X G k S0 H0 XP) {es : List Expr} {pos : Pos}, mBs X.N X.env.scope ms es = true → ms ≠ [] → PW X (.BoolOp .And es pos) (lB X.K S0 H0 fun ρ S Q => wAnd G (fun c S' => XP c ρ S') ms ρ S Q)
  | [], _, _, _, _, _, _, h => absurd rfl h
  | [m], X, XP, D, es, pos, h, _ => by
    simp only [mBs] at h; split at h
    · simp only [Bool.and_eq_true] at h
      have h2 := h.2
      split at h2
      · refine PW.imp (pw_and1 (sB G k S0 H0 m D h.1)) fun σ H Q ⟨ρ, S, cl, c, e0, q⟩ => ?_
        simp only [wAnd] at q
        refine ⟨ρ, S, cl, c, e0, wB_mono G _ m (fun b S1 q => ?_) q⟩
        cases b with
        | true => simpa using q
        | false => simpa using q
      · cases h2
    · cases h
  | m :: m' :: ms, X, XP, D, es, pos, h, _ => by
    simp only [mBs] at h; split at h
    · simp only [Bool.and_eq_true] at h
      obtain ⟨h1, h2⟩ := h
      split at h2
      · rename_i e' es'
        have h2' : mBs X.N X.env.scope (m' :: ms) (e' :: es') = true := by simp only [mBs]; exact h2
        refine PW.imp (pw_and (sB G k S0 H0 m D h1) (sAnd G k S0 H0 (m' :: ms) D h2' (by simp))) fun σ H Q ⟨ρ, S, cl, c, e0, q⟩ => ?_
        replace q : wAnd G (fun c S' => XP c ρ S') (m :: m' :: ms) ρ S (fun b S' => ∀ H', Evo S H S' H' → Cor X.K S' H' → Q b H') := q
        rw [wAnd] at q
        refine ⟨ρ, S, cl, c, e0, wB_mono G _ m (fun b S1 q H1 e1 c1 => ?_) q⟩
        cases b with
        | true => simp only [if_true] at q ⊢; exact ⟨ρ, S1, cl.evo e1, c1, e0.trans e1, wAnd_mono G _ (m' :: ms) (fun v S2 q H2 e2 c2 => q H2 (e1.trans e2) c2) q⟩
        | false => simp only [Bool.false_eq_true, if_false] at q ⊢; exact q H1 e1 c1
      · cases h2
    · cases h
theorem sOr (G : Gam) (k : Nat) (S0 : Sto) (H0 : Hp) : ∀ (ms : List B) {X : Cx} {XP : XLoc} (D : Sd X G k S0 H0 XP) {es : List Expr} {pos : Pos}, mBs X.N X.env.scope ms es = true → ms ≠ [] → PW X (.BoolOp .Or es pos) (lB X.K S0 H0 fun ρ S Q => wOr G (fun c S' => XP c ρ S') ms ρ S Q)
  | [], _, _, _, _, _, _, h => absurd rfl h
  | [m], X, XP, D, es, pos, h, _ => by
    simp only [mBs] at h; split at h
    · simp only [Bool.and_eq_true] at h
      have h2 := h.2
      split at h2
      · refine PW.imp (pw_or1 (sB G k S0 H0 m D h.1)) fun σ H Q ⟨ρ, S, cl, c, e0, q⟩ => ?_
        simp only [wOr] at q
        refine ⟨ρ, S, cl, c, e0, wB_mono G _ m (fun b S1 q => ?_) q⟩
        cases b with
        | true => simpa using q
        | false => simpa using q
      · cases h2
    · cases h
  | m :: m' :: ms, X, XP, D, es, pos, h, _ => by
    simp only [mBs] at h; split at h
    · simp only [Bool.and_eq_true] at h
      obtain ⟨h1, h2⟩ := h
      split at h2
      · rename_i e' es'
        have h2' : mBs X.N X.env.scope (m' :: ms) (e' :: es') = true := by simp only [mBs]; exact h2
        refine PW.imp (pw_or (sB G k S0 H0 m D h1) (sOr G k S0 H0 (m' :: ms) D h2' (by simp))) fun σ H Q ⟨ρ, S, cl, c, e0, q⟩ => ?_
        replace q : wOr G (fun c S' => XP c ρ S') (m :: m' :: ms) ρ S (fun b S' => ∀ H', Evo S H S' H' → Cor X.K S' H' → Q b H') := q
        rw [wOr] at q
        refine ⟨ρ, S, cl, c, e0, wB_mono G _ m (fun b S1 q H1 e1 c1 => ?_) q⟩
        cases b with
        | false => simp only [Bool.false_eq_true, if_false] at q ⊢; exact ⟨ρ, S1, cl.evo e1, c1, e0.trans e1, wOr_mono G _ (m' :: ms) (fun v S2 q H2 e2 c2 => q H2 (e1.trans e2) c2) q⟩
        | true => simp only [if_true] at q ⊢; exact q H1 e1 c1
      · cases h2
    · cases h
theorem sBs (G : Gam) (k : Nat) (S0 : Sto) (H0 : Hp) : ∀ (ms : List B) {X : Cx} {XP : XLoc} (D : Sd X G k S0 H0 XP) {es : List Expr}, mBs X.N X.env.scope ms es = true → ms.length ≤ 1 → PTs X es (lB X.K S0 H0 fun ρ S Q => wBs G (fun c S' => XP c ρ S') ms ρ S Q)
  | [], X, XP, D, es, h, _ => by
    simp only [mBs] at h; split at h
    · refine PTs.imp pts_nil fun σ H Q ⟨ρ, S, cl, c, e0, q⟩ => ?_
      simp only [wBs] at q
      exact q H .refl c
    · cases h
  | [m], X, XP, D, es, h, _ => by
    simp only [mBs] at h; split at h
    · simp only [Bool.and_eq_true] at h
      have h2 := h.2
      split at h2
      · refine PTs.imp (pts_one (sB G k S0 H0 m D h.1)) fun σ H Q ⟨ρ, S, cl, c, e0, q⟩ => ?_
        simp only [wBs] at q
        refine ⟨ρ, S, cl, c, e0, wB_mono G _ m (fun b S1 q => ?_) q⟩
        cases b with
        | true => simpa using q
        | false => simpa using q
      · cases h2
    · cases h
  | _ :: _ :: _, _, _, _, _, _, h => absurd h (by simp)
theorem sP (G : Gam) (k : Nat) (S0 : Sto) (H0 : Hp) : ∀ (m : P) {X : Cx} {XP : XLoc} (D : Sd X G k S0 H0 XP) {e : Option Expr}, mP X.N X.env.scope m e = true → PO X e (lP X.K S0 H0 fun ρ S Q => wP G (fun c S' => XP c ρ S') m ρ S Q)
  | .no, X, XP, D, e, h => by
    simp only [mP] at h; split at h
    · refine PO.imp po_none fun σ H Q ⟨ρ, S, cl, c, e0, q⟩ => ?_
      simp only [wP] at q
      exact q H .refl c
    · cases h
  | .at a, X, XP, D, e, h => by
    simp only [mP] at h; split at h
    · refine PO.imp (po_some (sE G k S0 H0 a D h)) fun σ H Q ⟨ρ, S, cl, c, e0, q⟩ => ?_
      simp only [wP] at q
      refine ⟨ρ, S, cl, c, e0, wE_mono G _ a (fun v S1 ⟨i, e, q⟩ H1 x e1 c1 r => ?_) q⟩
      subst e
      simp only [RepV] at r; subst r
      exact ⟨i, rfl, q H1 e1 c1⟩
    · cases h
theorem sT (G : Gam) (k : Nat) (S0 : Sto) (H0 : Hp) : ∀ (t : T) {X : Cx} {XP : XLoc} (D : Sd X G k S0 H0 XP) {e : Expr}, mT X.N X.env.scope t e = true → (∀ i ∈ slots t, ∀ x, X.N[i]? = some x → (X.fn x = true ∨ X.env.scope.names.lookup x = some .local)) → PG X e (lG' X.K S0 H0 (slots t) fun v ρ S Q => wTg G M.noX t v ρ S Q)
  | .nm i, X, XP, D, e, h, hf => by
    simp only [mT] at h; split at h
    · simp only [Bool.and_eq_true, decide_eq_true_eq] at h
      refine PG.imp (pg_name (i := i) D.nd h.1 (lookup_loc h.2) (hf i (by simp [slots]) _ h.1)) fun x σ H Q ⟨v, ρ, S, r, cl, c, e0, q⟩ => ?_
      simp only [wTg] at q
      exact q _ H .refl c (cl.set i r) (by simp) fun j hj => by
        simp only [slots, List.mem_singleton] at hj
        rw [List.getElem?_set_ne (fun e => hj e.symm)]
    · cases h
  | .tup ts, X, XP, D, e, h, hf => by
    simp only [mT] at h; split at h
    · rename_i es kk pos
      have hl := mTs_len X.env h
      have pgs := sTs G k S0 H0 ts D h hf
      refine PG.imp (PG.or (pg_tup (n := ts.length) D.calm pgs hl.1 hl.2) (pg_unl (n := ts.length) D.calm pgs hl.1 hl.2)) fun x σ H Q ⟨v, ρ, S, r, cl, c, e0, q⟩ => ?_
      simp only [wTg] at q
      obtain ⟨vs, hv, hlen, q⟩ := q
      obtain ⟨p, xs, rfl, rs, h1 | h1 | h1⟩ := valD_rep c r hv
      · obtain ⟨a, _, l⟩ := h1
        exact .inr ⟨p, xs, rfl, l, by rw [rs.length]; exact hlen, vs, ρ, S, rs, cl, c, e0, q⟩
      · exact .inl ⟨p, xs, rfl, h1.1.sq, by rw [rs.length]; exact hlen, vs, ρ, S, rs, cl, c, e0, q⟩
      · exact .inl ⟨p, xs, rfl, .inl (.inl h1.1), by rw [rs.length]; exact hlen, vs, ρ, S, rs, cl, c, e0, q⟩
    · cases h
  | .ix a i, X, XP, D, e, h, hf => by
    simp only [mT] at h; split at h
    · simp only [Bool.and_eq_true] at h
      rename_i i' pos
      have hi := h.2
      refine PG.imp (pg_sub (sE G k S0 H0 a D.noX h.1) (sE G k S0 H0 i D.noX h.2) set_list (by
        cases i'
        case Slice => rw [mE_slice] at hi; cases hi
        all_goals exact fun _ => rfl)) fun x σ H Q ⟨v, ρ, S, r, cl, c, e0, q⟩ => ?_
      simp only [wTg] at q
      refine ⟨ρ, S, cl, c, e0, wE_mono G _ a (fun o S1 q H1 x1 e1 c1 r1 => ?_) q⟩
      refine ⟨ρ, S1, cl.evo e1, c1, e0.trans e1, wE_mono G _ i (fun kv S2 q H2 x2 e2 c2 r2 => ?_) q⟩
      obtain ⟨p, vs, j, n, rfl, rfl, hs, hj, q⟩ := q
      simp only [RepV] at r1 r2; subst r1; subst r2
      obtain ⟨xs, eh, rs⟩ := c2.lst hs
      have e12 := e1.trans e2
      have rv := r.evo e12
      refine ⟨p, xs, n, j, rfl, rfl, eh, by rw [rs.length]; exact hj, ?_⟩
      exact q σ _ (e12.trans (.chg hs eh trivial)) (c2.setL hs eh (rs.set j rv)) ((cl.evo e12).evo (S' := S2.upd p (.lst (vs.set j v))) (.chg hs eh trivial)) rfl fun _ _ => rfl
    · cases h
  | .fld a f, X, XP, D, e, h, hf => by simp [mT] at h
  | .dix a i, X, XP, D, e, h, hf => by
    simp only [mT] at h; split at h
    · simp only [Bool.and_eq_true] at h
      rename_i i' pos
      have hi := h.2
      refine PG.imp (pg_sub (sE G k S0 H0 a D.noX h.1) (sE G k S0 H0 i D.noX h.2) (set_dict (by have := D.room.un; omega)) (by
        cases i'
        case Slice => rw [mE_slice] at hi; cases hi
        all_goals exact fun _ => rfl)) fun x σ H Q ⟨v, ρ, S, r, cl, c, e0, q⟩ => ?_
      simp only [wTg] at q
      refine ⟨ρ, S, cl, c, e0, wE_mono G _ a (fun o S1 q H1 x1 e1 c1 r1 => ?_) q⟩
      refine ⟨ρ, S1, cl.evo e1, c1, e0.trans e1, wE_mono G _ i (fun kv S2 ⟨p, eo, q'⟩ H2 x2 e2 c2 r2 => ?_) q⟩
      subst eo
      simp only [RepV] at r1; subst r1
      have e12 := e1.trans e2
      obtain ⟨H3, S3, g, e3, c3, q'⟩ := c2.dput q' r2 (r.evo e12)
      exact ⟨p, H3, rfl, g, q' σ _ (e12.trans e3) c3 ((cl.evo e12).evo e3) rfl fun _ _ => rfl⟩
    · cases h
theorem sTs (G : Gam) (k : Nat) (S0 : Sto) (H0 : Hp) : ∀ (ts : List T) {X : Cx} {XP : XLoc} (D : Sd X G k S0 H0 XP) {es : List Expr}, mTs X.N X.env.scope ts es = true → (∀ i ∈ slots (.tup ts), ∀ x, X.N[i]? = some x → (X.fn x = true ∨ X.env.scope.names.lookup x = some .local)) → PGs X es (lGs' X.K S0 H0 (slots (.tup ts)) fun v ρ S Q => wTgs G M.noX ts v ρ S Q)
  | [], X, XP, D, es, h, hf => by
    simp only [mTs] at h; split at h
    · refine PGs.imp pgs_nil fun xs σ H Q ⟨vs, ρ, S, r, cl, c, e0, q⟩ => ?_
      simp only [wTgs] at q
      obtain ⟨rfl, q⟩ := q
      have := reps0 r; subst this
      exact ⟨rfl, q σ H .refl c cl rfl fun _ _ => rfl⟩
    · cases h
  | t :: ts, X, XP, D, es, h, hf => by
    simp only [mTs] at h; split at h
    · simp only [Bool.and_eq_true] at h
      refine PGs.imp (pgs_cons (sT G k S0 H0 t D h.1 (fun i hi => hf i (by simp only [slots, slotss] at hi ⊢; exact List.mem_append_left _ hi))) (sTs G k S0 H0 ts D h.2 (fun i hi => hf i (by simp only [slots, slotss] at hi ⊢; exact List.mem_append_right _ hi))) (by rw [assign_one h.1]; rfl)) fun xs σ H Q ⟨vs, ρ, S, r, cl, c, e0, q⟩ => ?_
      simp only [wTgs] at q
      obtain ⟨v, rest, rfl, q⟩ := q
      simp only [RepVs] at r
      obtain ⟨y, ys, rfl, r1, r2⟩ := r
      refine ⟨y, ys, rfl, v, ρ, S, r1, cl, c, e0, wTg_mono G _ t (fun ρ' S1 q σ1 H1 e1 c1 cl1 hl1 hs1 => ?_) q⟩
      refine ⟨rest, ρ', S1, r2.evo e1, cl1, c1, e0.trans e1, wTgs_mono G _ ts (fun ρ2 S2 q σ2 H2 e2 c2 cl2 hl2 hs2 => ?_) q⟩
      refine q σ2 H2 (e1.trans e2) c2 cl2 (hl2.trans hl1) fun j hj => ?_
      simp only [slots, slotss, List.mem_append, not_or] at hj hs1 hs2
      rw [hs2 j hj.2, hs1 j hj.1]
    · cases h
theorem sI (G : Gam) (k : Nat) (S0 : Sto) (H0 : Hp) : ∀ (it : I) {X : Cx} {XP : XLoc} (D : Sd X G k S0 H0 XP) {tg e : Expr}, mI X.N X.env.scope it e = true → zipOk it tg = true → PI X tg e (lI X.K S0 H0 fun ρ S R => wI G (fun c S' => XP c ρ S') it ρ S R)
  | .val a, X, XP, D, tg, e, h, _ => by
    have h' : mE X.N X.env.scope a e = true := by
      simp only [mI] at h; split at h
      · cases h
      · exact h
    refine PI.imp (pi_any (sE G k S0 H0 a D h')) fun σ H R ⟨ρ, S, cl, c, e0, q⟩ => ?_
    simp only [wI] at q
    refine ⟨ρ, S, cl, c, e0, wE_mono G _ a (fun v S1 q H1 x e1 c1 r => ?_) q⟩
    split at q
    · simp only [RepV] at r
      obtain ⟨p, xs, rfl, t, r⟩ := r
      exact .inr (.inl ⟨p, rfl, ⟨xs, t.sq⟩, q H1 _ e1 c1 (walks_tup t.sq r)⟩)
    · simp only [RepV] at r; subst r
      obtain ⟨vs, l, q⟩ := q
      obtain ⟨xs, t, r⟩ := c1.rd l
      exact .inl ⟨_, rfl, ⟨xs, t⟩, q H1 _ e1 c1 walks_list⟩
    · simp only [RepV] at r; subst r
      exact .inr (.inr ⟨_, rfl, q H1 _ e1 c1 walks_str⟩)
    · exact q.elim
  | .rng1 a, X, XP, D, tg, e, h, _ => by
    simp only [mI] at h; split at h
    · simp only [Bool.and_eq_true, decide_eq_true_eq] at h
      obtain ⟨⟨rfl, h2⟩, h3⟩ := h
      refine PI.imp (pi_range1 (gl_of h2) (D.g.blt _ (by decide +kernel)) (pa_cons (sE G k S0 H0 a D h3) pa_nil (star_one h3 _ _)) (star_one h3 _ _)) fun σ H R ⟨ρ, S, cl, c, e0, q⟩ => ?_
      simp only [wI] at q
      refine ⟨ρ, S, cl, c, e0, wE_mono G _ a (fun v S1 ⟨j, e, hj, q⟩ H1 x e1 c1 r => ?_) q⟩
      subst e
      simp only [RepV] at r; subst r
      exact ⟨j, rfl, hj.1, hj.2, q H1 _ e1 c1 walks_rng⟩
    · cases h
  | .rng2 a b, X, XP, D, tg, e, h, _ => by
    simp only [mI] at h; split at h
    · simp only [Bool.and_eq_true, decide_eq_true_eq] at h
      obtain ⟨⟨⟨rfl, h2⟩, h3⟩, h4⟩ := h
      refine PI.imp (pi_range2 (gl_of h2) (D.g.blt _ (by decide +kernel)) (pa_cons (sE G k S0 H0 a D h3) (pa_cons (sE G k S0 H0 b D h4) pa_nil (star_one h4 _ _)) (star_one h3 _ _)) (by rw [star_one h3, star_one h4]; rfl) (star_one h4 _ _)) fun σ H R ⟨ρ, S, cl, c, e0, q⟩ => ?_
      simp only [wI] at q
      refine ⟨ρ, S, cl, c, e0, wE_mono G _ a (fun v S1 q H1 x e1 c1 r => ?_) q⟩
      refine ⟨ρ, S1, cl.evo e1, c1, e0.trans e1, wE_mono G _ b (fun w S2 ⟨i, j, hv, hw, hi, hj, q2⟩ H2 y e2 c2 r2 => ?_) q⟩
      subst hv; subst hw
      simp only [RepV] at r r2; subst r; subst r2
      exact ⟨i, j, rfl, ⟨hi.1, hi.2, hj.1, hj.2⟩, q2 H2 _ (e1.trans e2) c2 walks_rng⟩
    · cases h
  | .rng3 .., _, _, _, _, _, h, _ => by simp [mI] at h
  | .rvs1 a, X, XP, D, tg, e, h, _ => by
    simp only [mI] at h; split at h
    · simp only [Bool.and_eq_true, decide_eq_true_eq] at h
      obtain ⟨⟨⟨⟨rfl, rfl⟩, h2⟩, h2'⟩, h3⟩ := h
      refine PI.imp (pi_revR (gl_of h2) (D.g.blt _ (by decide +kernel)) (prg_1 (gl_of h2') (D.g.blt _ (by decide +kernel)) (sE G k S0 H0 a D h3) (star_one h3 _ _))) fun σ H R ⟨ρ, S, cl, c, e0, q⟩ => ?_
      simp only [wI] at q
      refine ⟨ρ, S, cl, c, e0, wE_mono G _ a (fun v S1 ⟨j, e, hj, q⟩ H1 x e1 c1 r => ?_) q⟩
      subst e
      simp only [RepV] at r; subst r
      refine ⟨j, rfl, by decide, by decide, hj.1, hj.2, ?_⟩
      rw [Int.sub_zero]
      exact q H1 _ e1 c1 walks_rrng
    · cases h
  | .rvs2 .., _, _, _, _, _, h, _ => by simp [mI] at h
  | .enum .., _, _, _, _, _, h, _ => by simp [mI] at h
  | .keys a, X, XP, D, tg, e, h, _ => by
    have h' : mE X.N X.env.scope a e = true := by
      simp only [mI] at h; split at h
      · cases h
      · exact h
    refine PI.imp (pi_keys (sE G k S0 H0 a D h')) fun σ H R ⟨ρ, S, cl, c, e0, q⟩ => ?_
    simp only [wI] at q
    refine ⟨ρ, S, cl, c, e0, wE_mono G _ a (fun v S1 ⟨d, ev, q⟩ H1 x e1 c1 r => ?_) q⟩
    subst ev
    simp only [RepV] at r; subst r
    rcases q with ⟨kvs, hs, q⟩ | ⟨kvs, hs, q⟩
    · have hd := c1 d _ hs
      simp only [RepA] at hd
      obtain ⟨o, us, eu, rk⟩ := hd
      exact ⟨d, o, rfl, .inl ⟨us, eu, q H1 _ e1 c1 (walks_keys eu rk)⟩⟩
    · have hd := c1 d _ hs
      simp only [RepA] at hd
      obtain ⟨o, us, eu, rk⟩ := hd
      exact ⟨d, o, rfl, .inr ⟨us, eu, q H1 _ e1 c1 (walks_keysT eu rk)⟩⟩
  | .keysM a, X, XP, D, tg, e, h, _ => by
    simp only [mI] at h; split at h
    · simp only [Bool.and_eq_true, decide_eq_true_eq] at h
      obtain ⟨⟨⟨rfl, h2⟩, h3⟩, h4⟩ := h
      refine PI.imp (pi_keysM (sE G k S0 H0 a D h4) (base_of h2) (by simp [h3])) fun σ H R ⟨ρ, S, cl, c, e0, q⟩ => ?_
      simp only [wI] at q
      refine ⟨ρ, S, cl, c, e0, wE_mono G _ a (fun v S1 ⟨d, kvs, ev, hs, q⟩ H1 x e1 c1 r => ?_) q⟩
      subst ev
      simp only [RepV] at r; subst r
      have hd := c1 d _ hs
      simp only [RepA] at hd
      obtain ⟨o, us, eu, rk⟩ := hd
      exact ⟨d, o, us, rfl, eu, q H1 _ e1 c1 (walks_keys eu rk)⟩
    · cases h
  | .zip a b, X, XP, D, tg, e, h, hz => by
    simp only [mI] at h; split at h
    · simp only [Bool.and_eq_true, decide_eq_true_eq] at h
      obtain ⟨⟨⟨rfl, h2⟩, h3⟩, h4⟩ := h
      cases tg
      case Tuple =>
        refine PI.imp (RZ.pi_zipA (gl_of h2) (D.g.blt _ (by decide +kernel)) (pa_cons (sE G k S0 H0 a D h3) (pa_cons (sE G k S0 H0 b D h4) pa_nil (star_one h4 _ _)) (star_one h3 _ _)) (star_one h3 _ _) (by rw [star_one h4]; rfl)) fun σ H R ⟨ρ, S, cl, c, e0, q⟩ => ?_
        simp only [wI] at q
        refine ⟨ρ, S, cl, c, e0, wE_mono G _ a (fun v S1 q H1 x e1 c1 r => ?_) q⟩
        refine ⟨ρ, S1, cl.evo e1, c1, e0.trans e1, wE_mono G _ b (fun w S2 q H2 y e2 c2 r2 => ?_) q⟩
        have e12 := e1.trans e2
        split at q
        · simp only [RepV] at r r2
          obtain ⟨p, xs, rfl, t, r⟩ := r
          obtain ⟨p2, xs2, rfl, t2, r2⟩ := r2
          have t' := t.evo e2.frz
          exact ⟨p, p2, xs, xs2, rfl, .inr ⟨t'.sq, t2.sq, q H2 _ e12 c2 (walks_zipT t'.sq t2.sq (r.evo e2) r2)⟩⟩
        · simp only [RepV] at r r2; subst r; subst r2
          obtain ⟨xs, ys, l1, l2, q⟩ := q
          obtain ⟨us, t, r⟩ := c2.rd l1
          obtain ⟨us2, t2, r2⟩ := c2.rd l2
          exact ⟨_, _, us, us2, rfl, .inl ⟨t, t2, q H2 _ e12 c2 walks_zip⟩⟩
        · exact q.elim
      all_goals simp [zipOk] at hz
    · cases h
  | .rvs a, X, XP, D, tg, e, h, _ => by
    simp only [mI] at h; split at h
    · simp only [Bool.and_eq_true, decide_eq_true_eq] at h
      obtain ⟨⟨rfl, h2⟩, h3⟩ := h
      refine PI.imp (RT.pi_revA (gl_of h2) (D.g.blt _ (by decide +kernel)) (sE G k S0 H0 a D h3) (star_one h3 _ _)) fun σ H R ⟨ρ, S, cl, c, e0, q⟩ => ?_
      simp only [wI] at q
      refine ⟨ρ, S, cl, c, e0, wE_mono G _ a (fun v S1 q H1 x e1 c1 r => ?_) q⟩
      split at q
      · simp only [RepV] at r
        obtain ⟨p, xs, rfl, t, r⟩ := r
        exact ⟨p, xs, rfl, .inr ⟨t.sq, q H1 _ e1 c1 (walks_revT r.length t.sq r)⟩⟩
      · simp only [RepV] at r; subst r
        obtain ⟨vs, l, q⟩ := q
        obtain ⟨xs, t, r⟩ := c1.rd l
        exact ⟨_, xs, rfl, .inl ⟨t, q H1 _ e1 c1 (walks_rev r.length)⟩⟩
      · exact q.elim
    · cases h
end
end
end M

set_option maxHeartbeats 4000000
namespace M
open PySem PySem.Spec L2
abbrev Sui := Addr → Value → Option Addr → TS
/-- what a clause does: its class, its name's slot, its suite's reading -/
structure Cau where
  c : Value
  n : Option Nat
  ts : Sui
/-- what is wanted behind a suite whose name goes -/
def Ends.off (D : Ends) : Option Nat → Ends
  | none => D
  | some i => { nx := fun σ H => D.nx (σ.set i none) H, rt := D.rt, bk := fun σ H => D.bk (σ.set i none) H, ct := fun σ H => D.ct (σ.set i none) H }
def putN (σ : L2.St) (a : Addr) : Option Nat → L2.St
  | none => σ
  | some i => σ.set i (some (.ref a))
def wMix (K : PySem.W.Frag) (Wo : WX) (D : Ends) : List Cau → WX
  | [] => Wo
  | k :: ks => fun cls d σ H => ∃ b, PySem.W.exmOne K cls k.c = some b ∧ (b = true → ∀ a, H a = none → k.ts a cls d (Ends.off D k.n) (putN σ a k.n) H) ∧ (b = false → wMix K Wo D ks cls d σ H)
/-- a suite keeps its reading -/
def SuiOk (X : Cx) (su : List Stmt) (ts : Sui) : Prop := ∀ (a : Addr) (ob : Obj) (cls : Value) (d : Option Addr) (qs : List (Addr × Obj)), Zc cls d ob → (∃ us, ob.data = .fields us) → PSs (X.suite a ((a, ob) :: qs)) su (ts a cls d)
inductive Cls2 (X : Cx) : List ExceptHandler → List Cau → Prop
  | nil : Cls2 X [] []
  | un {x : Str} {c : Value} {ts : Sui} {b1 : Stmt} {su : List Stmt} {px py : Pos} {hs : List ExceptHandler} {ks : List Cau} : Names X x c → SuiOk X (b1 :: su) ts → Cls2 X hs ks → Cls2 X (.ExceptHandler (some (.Name x px)) none (b1 :: su) py :: hs) (⟨c, none, ts⟩ :: ks)
  | nm {x n : Str} {i : Nat} {c : Value} {ts : Sui} {b1 : Stmt} {su : List Stmt} {px py : Pos} {hs : List ExceptHandler} {ks : List Cau} : Names X x c → X.N[i]? = some n → X.env.kindOf n = some .local → SuiOk X (b1 :: su) ts → Cls2 X hs ks → Cls2 X (.ExceptHandler (some (.Name x px)) (some n) (b1 :: su) py :: hs) (⟨c, some i, ts⟩ :: ks)
section
variable {X : Cx} {pins : List (Addr × Obj)}
theorem sp_ofTry {D : Ends} {xe : Value → Shared → Prop} (ok : X.Ok) {f : Flow} {s : Shared} (h : SP (X.tr (X.pn ++ pins) xe) [] D f s) : SP X pins D f s := by
  cases f with
  | next => obtain ⟨σ1, H1, J1, q⟩ := h; exact ⟨σ1, H1, J1.ofTry ok, q⟩
  | brk => obtain ⟨σ1, H1, J1, q⟩ := h; exact ⟨σ1, H1, J1.ofTry ok, q⟩
  | cont => obtain ⟨σ1, H1, J1, q⟩ := h; exact ⟨σ1, H1, J1.ofTry ok, q⟩
  | ret u => obtain ⟨v, σ1, H1, J1, r, q⟩ := h; exact ⟨v, σ1, H1, J1.ofTry ok, r, q⟩
theorem sp_ofSuite {D : Ends} {a : Addr} {p : Addr × Obj} (ok : X.Ok) {f : Flow} {s : Shared} (h : SP (X.suite a (p :: (X.pn ++ pins))) [] D f s) : SP X pins D f s := by
  cases f with
  | next => obtain ⟨σ1, H1, J1, q⟩ := h; exact ⟨σ1, H1, J1.unsuite ok, q⟩
  | brk => obtain ⟨σ1, H1, J1, q⟩ := h; exact ⟨σ1, H1, J1.unsuite ok, q⟩
  | cont => obtain ⟨σ1, H1, J1, q⟩ := h; exact ⟨σ1, H1, J1.unsuite ok, q⟩
  | ret u => obtain ⟨v, σ1, H1, J1, r, q⟩ := h; exact ⟨v, σ1, H1, J1.unsuite ok, r, q⟩
theorem ps_try_mix {body : List Stmt} {h1 : ExceptHandler} {hr : List ExceptHandler} {ks : List Cau} {pos : Pos} {tb : WX → TS} {Wo : WX} (hst : X.stack = X.env :: X.outer) (hfr : X.env.frame = some X.env.locals) (nd : X.N.Nodup) (tk : Takes X Wo)
    (hb : ∀ (W : WX) (qs : List (Addr × Obj)) (xe : Value → Shared → Prop), Takes (X.tr qs xe) W → PassesOwn (model X.prog X.w) X.A X.env xe → PSs (X.tr qs xe) body (tb W)) (hk : Cls2 X (h1 :: hr) ks) :
    PS X (.Try body (h1 :: hr) [] [] pos) (fun D σ H => tb (wMix X.K Wo D ks) D σ H) := by
  refine ⟨fun pins s σ H D I q0 => ?_⟩
  have ok := I.ok
  have afr : X.A.frames = some (X.env :: X.outer) := ok.frames.trans (congrArg some hst)
  refine wpAny_Try_except (wpAny_mono ((hb (wMix X.K Wo D ks) (X.pn ++ pins) _ (fun u t down => ?_) PassesOwn.looking).run [] s σ H D (I.toTry _) q0) (fun f t sp => ?_) fun _ _ z => z)
  rotate_left
  · have sp := sp_ofTry ok sp
    cases f with
    | next => obtain ⟨σ1, H1, J1, q⟩ := sp; exact wpAny_execs_nil ⟨σ1, H1, J1, q⟩
    | brk => exact sp
    | cont => exact sp
    | ret u => exact sp
  obtain ⟨a, B, t0, ps0, σ1, H1, cls, d, rfl, J, nb, up, sky, na, osE, ag, w⟩ := down
  have J := J.ofTry ok
  rw [show (X.tr (X.pn ++ pins) _).stack = X.env :: X.outer from hst] at sky
  show wpAny (model X.prog X.w) X.A (noteFrame (.ref a) X.env) _ _ _
  refine Sky.land Zc.steady afr hfr sky fun g1 fly up1 => ?_
  have J1 : Inv X pins σ1 H1 { t with heap := g1 } := J.landed nb fly.1 (up.trans up1) osE ag
  obtain ⟨ob, us, hob, hz, hus⟩ := fly.there
  have out : a ∉ frs (X.env :: X.outer) := fun hm => by
    obtain ⟨_, u, hu, no⟩ := fly.2.2.1.mem hm
    cases hob.symm.trans hu
    exact no _ hus
  have notL : a ≠ X.env.locals := fun z => out (List.mem_filterMap.mpr ⟨X.env, List.mem_cons_self, by rw [hfr, z]⟩)
  have notF : a ∉ X.fs := fun hm => by
    obtain ⟨e, he, q⟩ := List.mem_filterMap.mp hm
    exact out (List.mem_filterMap.mpr ⟨e, List.mem_cons_of_mem _ he, q⟩)
  have JS := J1.suite hob hus na notL notF
  have look : PySem.W.Looks (model X.prog X.w) g1 (typeOf (.ref a)) cls := fun _ _ _ _ kp q => wpAny_typeOf_ref (kp _ _ hob) (by rw [hz.1]; exact q)
  -- the name in a clause, then its answer
  have ask : ∀ {x : Str} {c : Value} {px : Pos} {Q : Value → Shared → Prop} {E : Value → Shared → Prop}, Names X x c → Q c { t with heap := g1 } → wpAny (model X.prog X.w) (X.A.mark (some (.ref a))) (eval (.Name x px) X.env) Q E { t with heap := g1 } := fun hn q => by
    rcases hn with ⟨n1, n2, n3 | ⟨n3, n4, n5⟩⟩
    · exact ld_glob (X := X.suite a ((a, ob) :: (X.pn ++ pins))) JS n1 n3 q n2
    · exact ld_blt (X := X.suite a ((a, ob) :: (X.pn ++ pins))) JS n1 n3 n4 q n5 n2
  clear q0 sky
  generalize hhs : h1 :: hr = hs at hk
  clear hhs
  induction hk with
  | nil =>
    obtain ⟨_, _, _, o1, vs1, T, _, _, e1, _, dd1, at1, _⟩ := id fly
    have ne : ¬ ((Value.ref T == Value.none) = true) := by simp
    have last : wpAny (model X.prog X.w) X.A (setFlight (.ref a) X.env.frame) (fun _ t4 => wpAny (model X.prog X.w) X.A (throw (.ref a) : Sem Flow) (SP X pins D) X.xe t4) X.xe { t with heap := g1 } := by
      rw [hfr]
      refine HandSPX.setFlight_upZ fly fun g2 held up2 => wpAny_throw (tk _ _ ⟨a, B, t0, pins, σ1, H1, cls, d, rfl, J, nb, (up.trans up1).trans up2, .inr (.inr ?_), na, osE, ag, w⟩)
      rw [hst]; exact held
    refine wpAny_handleBy_nil ?_
    unfold PySem.passOn
    refine wpAny_bind (wpAny_field e1 dd1 at1 ?_)
    rw [if_neg ne]
    first
      | exact wpAny_bind last
      | exact wpAny_bind (wpAny_pure (wpAny_bind last))
  | un hn hsu _ ih =>
    obtain ⟨b, ex, yes, no⟩ := w
    refine wpAny_handleBy_cons (codeAny_handlers_test (ask hn ((PySem.W.exm_one (M := model X.prog X.w) J1.kIn look ex).here ?_))) nofun
    cases b with
    | false => exact ih (no rfl)
    | true =>
      refine codeAny_handlers_suite (HandSPX.lands_againZ fly fun g2 fly2 up2 => ?_)
      have J2 : Inv X pins σ1 H1 { t with heap := g2 } := J.landed nb fly2.1 ((up.trans up1).trans up2) osE ag
      obtain ⟨o2, us2, at2, hz2, hd2⟩ := fly2.there
      exact wpAny_mono ((hsu a o2 cls d (X.pn ++ pins) hz2 ⟨_, hd2⟩).run [] _ _ H1 _ (J2.suite at2 hd2 na notL notF) (yes rfl a na)) (fun f t3 h => sp_ofSuite ok h) fun _ _ z => z.elim
  | @nm x n i c ts b1 su px py hs' ks' hn hi hl hsu _ ih =>
    obtain ⟨b, ex, yes, no⟩ := w
    refine wpAny_handleBy_cons (codeAny_handlers_test (ask hn ((PySem.W.exm_one (M := model X.prog X.w) J1.kIn look ex).here ?_))) nofun
    cases b with
    | false => exact ih (no rfl)
    | true =>
      refine codeAny_handlers_suite_as (HandSPX.lands_againZ fly fun g2 fly2 up2 => ?_)
      have J2 : Inv X pins σ1 H1 { t with heap := g2 } := J.landed nb fly2.1 ((up.trans up1).trans up2) osE ag
      obtain ⟨o2, us2, at2, hz2, hd2⟩ := fly2.there
      have gone : ∀ {σ6 : L2.St} {H6 : Hp} {t3 : Shared} {Q : Shared → Prop}, Inv (X.suite a ((a, o2) :: (X.pn ++ pins))) [] σ6 H6 t3 → (∀ t4, Inv X pins (σ6.set i none) H6 t4 → Q t4) →
          wpAny (model X.prog X.w) X.A (do bindName X.env n .none; unbindBehindTheSuite X.env n py) (fun _ t4 => Q t4) X.xe t3 := fun J6 k => gone_ok (J6.unsuite ok) nd hi hl k
      refine store_ok (X := X.suite a ((a, o2) :: (X.pn ++ pins))) (v := .ref a) (J2.suite at2 hd2 na notL notF) nd hi (.inl hl) rfl (fun t2 I2 => ?_) (.inr hl)
      refine wpAny_mono ((hsu a o2 cls d (X.pn ++ pins) hz2 ⟨_, hd2⟩).run [] t2 _ H1 _ I2 (yes rfl a na)) (fun f t3 h => ?_) fun _ _ z => z.elim
      cases f with
      | next => obtain ⟨σ6, H6, J6, q⟩ := h; exact gone J6 fun t4 J7 => ⟨_, _, J7, q⟩
      | brk => obtain ⟨σ6, H6, J6, q⟩ := h; exact gone J6 fun t4 J7 => ⟨_, _, J7, q⟩
      | cont => obtain ⟨σ6, H6, J6, q⟩ := h; exact gone J6 fun t4 J7 => ⟨_, _, J7, q⟩
      | ret u => obtain ⟨v6, σ6, H6, J6, r, q⟩ := h; exact gone J6 fun t4 J7 => ⟨_, _, _, J7, r, q⟩
end
end M

set_option maxHeartbeats 4000000
namespace M
open PySem PySem.Spec L2
theorem PS.imp {X : Cx} {st : Stmt} {t t' : TS} (h : PS X st t) (i : ∀ D σ H, t' D σ H → t D σ H) : PS X st t' := ⟨fun pins s σ H D I q => h.run pins s σ H D I (i _ _ _ q)⟩
theorem PSs.imp {X : Cx} {st : List Stmt} {t t' : TS} (h : PSs X st t) (i : ∀ D σ H, t' D σ H → t D σ H) : PSs X st t' := ⟨fun pins s σ H D I q => h.run pins s σ H D I (i _ _ _ q)⟩
def hV (f : Str → Option Bool) (σ : L2.St) : HE → Option Bool
  | .bl b => some b
  | .is y => f y
  | .v i => match σ[i]? with
    | some (some (.bl b)) => some b
    | _ => none
  | .not a => (hV f σ a).map (!·)
  | .and a b => match hV f σ a with
    | some true => hV f σ b
    | some false => some false
    | none => none
theorem hV_of {K : PySem.W.Frag} {H : Hp} {ρ : Loc} {σ : L2.St} (cl : CorL K H ρ σ) {f : Str → Option Bool} : ∀ {h : HE} {b : Bool}, hE f ρ h = some b → hV f σ h = some b
  | .bl _, _, e => e
  | .is _, _, e => e
  | .v i, b, e => by
    simp only [hE] at e
    split at e
    · rename_i b' e1
      cases e
      obtain ⟨x, e2, r⟩ := cl.2 _ _ e1
      simp only [RepV] at r; subst r
      simp only [hV, e2]
    · cases e
  | .not a, b, e => by
    simp only [hE, hV] at e ⊢
    cases e1 : hE f ρ a with
    | none => rw [e1] at e; cases e
    | some c => rw [hV_of cl e1]; rw [e1] at e; exact e
  | .and a b', b, e => by
    simp only [hE, hV] at e ⊢
    cases e1 : hE f ρ a with
    | none => rw [e1] at e; cases e
    | some c =>
      rw [hV_of cl e1]; rw [e1] at e
      cases c with
      | false => exact e
      | true => exact hV_of cl e
/-- what is known of a caught error's class -/
def FOk (K : PySem.W.Frag) (mg : Str → Option Value) (cls : Value) (d : Option Addr) (f : Str → Option Bool) : Prop := ∀ y b, f y = some b → ∃ C, cls = .ref C ∧ d = none ∧ ExcC K C ∧
  ((∃ Y, mg y = some (.ref Y) ∧ PySem.W.kitOne K (.ref C) (.ref Y) = some b) ∨ mg y = none ∧ ∃ t, bootBuiltins y = some (.type t) ∧ PySem.W.kitOne K (.ref C) (.type t) = some b)
def tHE (X : Cx) (n : Option Str) (a : Addr) (f : Str → Option Bool) (h : HE) : TE := fun σ H Q => (∀ z, n = some z → ∃ i : Nat, X.N[i]? = some z ∧ ∃ σ0 : L2.St, σ = σ0.set i (some (.ref a))) ∧ ∃ b, hV f σ h = some b ∧ Q (.bl b) H
section
variable {X : Cx} {a : Addr} {ob : Obj} {cls : Value} {d : Option Addr} {qs : List (Addr × Obj)} {f : Str → Option Bool} {n : Option Str}
theorem pe_HE (hi : X.mg "isinstance" = none) (hz : Zc cls d ob) (hd : ∃ us, ob.data = .fields us) (hf : FOk X.K X.mg cls d f) : ∀ (h : HE) {e : Expr}, mHE X.N X.env.scope n h e = true → PE (X.suite a ((a, ob) :: qs)) e (tHE X n a f h)
  | .bl b, e, m => by
    simp only [mHE] at m; split at m
    · have m := of_decide_eq_true m
      subst m
      refine PE.imp pe_bl fun σ H Q ⟨_, b', e1, q⟩ => ?_
      cases e1; exact q
    · cases m
  | .v i, e, m => by
    simp only [mHE] at m; split at m
    · simp only [Bool.and_eq_true, decide_eq_true_eq] at m
      obtain ⟨⟨m1, m2⟩, m3⟩ := m
      refine PE.imp (pe_var (X := X.suite a ((a, ob) :: qs)) m1 (lookup_vis m2) (dbg_of m3).1 (dbg_of m3).2) fun σ H Q ⟨_, b', e1, q⟩ => ?_
      simp only [hV] at e1
      split at e1
      · rename_i e2; cases e1; exact ⟨_, e2, q⟩
      · cases e1
    · cases m
  | .not h, e, m => by
    simp only [mHE] at m; split at m
    · refine PE.imp (pe_not (pe_HE hi hz hd hf h m)) fun σ H Q ⟨hn, b', e1, q⟩ => ?_
      simp only [hV] at e1
      cases e2 : hV f σ h with
      | none => rw [e2] at e1; cases e1
      | some c =>
        rw [e2] at e1; cases e1
        exact ⟨hn, c, e2, c, rfl, q⟩
    · cases m
  | .and h1 h2, e, m => by
    simp only [mHE] at m; split at m
    · simp only [Bool.and_eq_true] at m
      refine PE.imp (pe_and (pe_HE hi hz hd hf h1 m.1) (pe_one (pe_HE hi hz hd hf h2 m.2))) fun σ H Q ⟨hn, b', e1, q⟩ => ?_
      simp only [hV] at e1
      cases e2 : hV f σ h1 with
      | none => rw [e2] at e1; cases e1
      | some c =>
        rw [e2] at e1
        refine ⟨hn, c, e2, c, rfl, ?_⟩
        cases c with
        | true => exact ⟨hn, b', e1, q⟩
        | false => cases e1; exact q
    · cases m
  | .is y, e, m => by
    simp only [mHE] at m; split at m
    · rename_i fn p1 z p2 y' p3 p4
      simp only [Bool.and_eq_true, decide_eq_true_eq] at m
      obtain ⟨⟨⟨⟨⟨⟨⟨⟨rfl, m2⟩, m3⟩, m4⟩, m5⟩, rfl⟩, m7⟩, m8⟩, m9⟩ := m
      refine ⟨fun pins s σ H Q I ⟨hn, b', e1, q⟩ => ?_⟩
      simp only [hV] at e1
      obtain ⟨i, hi1, σ0, rfl⟩ := hn z m3
      have hi2 : (σ0.set i (some (.ref a)))[i]? = some (some (.ref a)) := by
        have l1 := I.len
        rw [List.length_set] at l1
        exact List.getElem?_set_self (by rw [l1]; exact (List.getElem?_eq_some_iff.mp hi1).1)
      obtain ⟨C, rfl, rfl, xc, alt⟩ := hf y b' e1
      have pv : PE (X.suite a ((a, ob) :: qs)) (.Name z p2) (tVar i) := pe_var (X := X.suite a ((a, ob) :: qs)) hi1 (lookup_vis m4) (dbg_of m5).1 (dbg_of m5).2
      rcases alt with ⟨Y, hY, hk⟩ | ⟨hY, t, hb, hk⟩
      · exact (pe_callB (call_isE (X := X) (pn := qs) xc hz hd) (gl_of (X := X.suite a ((a, ob) :: qs)) m2) hi boot_isinst (pa_cons pv (pa_cons (pe_glob (X := X.suite a ((a, ob) :: qs)) (v := .ref Y) (gl_of (X := X.suite a ((a, ob) :: qs)) m7) hY rfl (dbg_of m8).1) pa_nil rfl) rfl) (by decide) (by decide) rfl rfl).run pins s _ H Q I ⟨_, hi2, _, _, _, rfl, fun u r => r, hk, q⟩
      · exact (pe_callB (call_isE (X := X) (pn := qs) xc hz hd) (gl_of (X := X.suite a ((a, ob) :: qs)) m2) hi boot_isinst (pa_cons pv (pa_cons (pe_bltn (X := X.suite a ((a, ob) :: qs)) (v := .ty t) (gl_of (X := X.suite a ((a, ob) :: qs)) m7) hY hb rfl m9 (dbg_of m8).1) pa_nil rfl) rfl) (by decide) (by decide) rfl rfl).run pins s _ H Q I ⟨_, hi2, _, _, _, rfl, fun u r => r, hk, q⟩
    · cases m
/-- what a suite's reading asks -/
def suiR (X : Cx) (n : Option Str) (k : HK) : Sui := fun a cls d D σ H => (∀ z, n = some z → ∃ i : Nat, X.N[i]? = some z ∧ ∃ σ0 : L2.St, σ = σ0.set i (some (.ref a))) ∧ ∃ f, FOk X.K X.mg cls d f ∧ match k with
  | .ret h => ∃ b, hV f σ h = some b ∧ D.rt (.bl b) H
  | .setB i h => ∃ b, hV f σ h = some b ∧ D.nx (σ.set i (some (.bl b))) H
  | .setN i => D.nx (σ.set i (some .non)) H
  | .setS i x => D.nx (σ.set i (some (.str x))) H
theorem mHE_noswap {N : List Str} {sc : Scope} {n : Option Str} {h : HE} {e : Expr} (m : mHE N sc n h e = true) (t : Option Expr) (l : Nat) (env : Env) : swapsWith e t l env = pure false := by
  cases e
  case ListComp => cases h <;> simp [mHE] at m
  case SetComp => cases h <;> simp [mHE] at m
  case DictComp => cases h <;> simp [mHE] at m
  all_goals rfl
theorem sui_ok (nd : X.N.Nodup) (hi : X.mg "isinstance" = none) : ∀ (k : HK) {su : List Stmt}, mHK X.N X.env.scope n k su = true → SuiOk X su (suiR X n k)
  | .ret h, su, m => by
    simp only [mHK] at m; split at m
    · intro a ob cls d qs hz hd
      refine ⟨fun pins s σ H D I ⟨hn, f, fo, b, e1, q⟩ => ?_⟩
      exact (PSs.imp (pss_cons (ps_ret (pe_HE hi hz hd fo h m)) pss_nil) fun D' σ' H' q' => q').run pins s σ H D I ⟨hn, b, e1, q⟩
    · cases m
  | .setB i h, su, m => by
    simp only [mHK] at m; split at m
    · simp only [Bool.and_eq_true, decide_eq_true_eq] at m
      obtain ⟨⟨m1, m2⟩, m3⟩ := m
      have sw := fun t l env => (show swapsWithSole [t] _ l env = pure false from mHE_noswap m3 (some t) l env)
      intro a ob cls d qs hz hd
      refine ⟨fun pins s σ H D I ⟨hn, f, fo, b, e1, q⟩ => ?_⟩
      exact (PSs.imp (pss_cons (ps_asg (pe_HE hi hz hd fo h m3) (pg_name (X := X.suite a ((a, ob) :: qs)) nd m1 (.inl m2) (.inr m2)) (hs := sw _ _ _)) pss_nil) fun D' σ' H' q' => q').run pins s σ H D I ⟨hn, b, e1, q⟩
    · cases m
  | .setN i, su, m => by
    simp only [mHK] at m; split at m
    · simp only [Bool.and_eq_true, decide_eq_true_eq] at m
      obtain ⟨m1, m2⟩ := m
      intro a ob cls d qs hz hd
      refine ⟨fun pins s σ H D I ⟨hn, f, fo, q⟩ => ?_⟩
      exact (PSs.imp (pss_cons (ps_asg pe_non (pg_name (X := X.suite a ((a, ob) :: qs)) nd m1 (.inl m2) (.inr m2))) pss_nil) fun D' σ' H' q' => q').run pins s σ H D I q
    · cases m
  | .setS i z, su, m => by
    simp only [mHK] at m; split at m
    · simp only [Bool.and_eq_true, decide_eq_true_eq] at m
      obtain ⟨⟨m1, m2⟩, rfl⟩ := m
      intro a ob cls d qs hz hd
      refine ⟨fun pins s σ H D I ⟨hn, f, fo, q⟩ => ?_⟩
      exact (PSs.imp (pss_cons (ps_asg pe_str (pg_name (X := X.suite a ((a, ob) :: qs)) nd m1 (.inl m2) (.inr m2))) pss_nil) fun D' σ' H' q' => q').run pins s σ H D I q
    · cases m
end
end M

set_option maxHeartbeats 4000000
namespace M
open PySem PySem.Spec L2
structure EnR (K : PySem.W.Frag) (S1 : Sto) (H1 : Hp) (XP : XLoc) (D : En) (D' : Ends) : Prop where
  nx : ∀ ρ S σ H, Evo S1 H1 S H → Cor K S H → CorL K H ρ σ → D.nx ρ S → D'.nx σ H
  rt : ∀ v S x H, Evo S1 H1 S H → Cor K S H → RepV K H v x → D.rt v S → D'.rt x H
  bk : ∀ ρ S σ H, Evo S1 H1 S H → Cor K S H → CorL K H ρ σ → D.bk ρ S → D'.bk σ H
  ct : ∀ ρ S σ H, Evo S1 H1 S H → Cor K S H → CorL K H ρ σ → D.ct ρ S → D'.ct σ H
  xc : D.xc = XP
theorem EnR.evo {K : PySem.W.Frag} {S1 S2 : Sto} {H1 H2 : Hp} {XP : XLoc} {D : En} {D' : Ends} (h : EnR K S1 H1 XP D D') (e : Evo S1 H1 S2 H2) : EnR K S2 H2 XP D D' :=
  ⟨fun ρ S σ H f => h.nx ρ S σ H (e.trans f), fun v S x H f => h.rt v S x H (e.trans f), fun ρ S σ H f => h.bk ρ S σ H (e.trans f), fun ρ S σ H f => h.ct ρ S σ H (e.trans f), h.xc⟩
def lS (K : PySem.W.Frag) (S0 : Sto) (H0 : Hp) (XP : XLoc) (t : En → Loc → Sto → Prop) : TS := fun D' σ H => ∃ ρ S D, CorL K H ρ σ ∧ Cor K S H ∧ Evo S0 H0 S H ∧ EnR K S H XP D D' ∧ t D ρ S
/-- x('text') makes an error of a class -/
def RaisOk (X : Cx) (G : Gam) (x : Str) : Prop := ∃ C, G.ecls x = some C ∧ X.mg x = some (.ref C) ∧ ∀ (pn : List (Addr × Obj)) (xe : Value → Shared → Prop) (m : Str) (j : Nat) (p p2 pos : Pos), Gl X x → (x == ("__debug__" : Str)) = false → PMk (X.tr pn xe) (.Call (.Name x p) [.Constant (.str m) j p2] [] pos) (fun _ H Q => Q (.ref C) none H)
structure Ss (X : Cx) (G : Gam) (k : Nat) (S0 : Sto) (H0 : Hp) (XP : XLoc) (rs : List Str) : Prop extends Sd X G k S0 H0 XP where
  own : ∀ (i : Nat) (x : Str), X.N[i]? = some x → (X.fn x = true ∨ X.env.scope.names.lookup x = some .local)
  kind : X.env.scope.kind = .function
  pass : PassesOwn (model X.prog X.w) X.A X.env X.xe
  rais : ∀ x ∈ rs, RaisOk X G x
  fr : X.stack = X.env :: X.outer ∧ X.env.frame = some X.env.locals
theorem mE_setc {N : List Str} {sc : Scope} {m : E} {a b c d} : mE N sc m (.SetComp a b c d) = false := by cases m <;> simp [mE]
theorem mE_dictc {N : List Str} {sc : Scope} {m : E} {a b c d e} : mE N sc m (.DictComp a b c d e) = false := by cases m <;> simp [mE]
theorem noSwap {N : List Str} {sc : Scope} {m : E} {e : Expr} (h : mE N sc m e = true) (hn : ∀ a b c d, e ≠ .ListComp a b c d) (t : Option Expr) (l : Nat) (env : Env) : swapsWith e t l env = pure false := by
  cases e
  case ListComp => exact absurd rfl (hn _ _ _ _)
  case SetComp => rw [mE_setc] at h; cases h
  case DictComp => rw [mE_dictc] at h; cases h
  all_goals rfl
theorem noSwap2 {a b c d} {t : Expr} (hn : ∀ x p, t ≠ .Name x p) (l : Nat) (env : Env) : swapsWith (.ListComp a b c d) (some t) l env = pure false := by
  cases t
  case Name => exact absurd rfl (hn _ _)
  all_goals rfl
theorem swapB {a b c d} {x : Str} {p : Pos} (l : Nat) (env : Env) : swapsWith (.ListComp a b c d) (some (.Name x p)) l env = pure (env.blockKind == .function && env.kindOf x == some .local && p.line == (Expr.ListComp a b c d).pos.line
      && !(c.names.any fun (n, k) => n == x && (k == .local || k == .cell))) := rfl
theorem fm_len {α β : Type} {f : α → Option β} : ∀ {l : List α}, (l.filterMap f).length = l.length → ∀ x ∈ l, (f x).isSome = true
  | [], _, _, h => by cases h
  | y :: l, e, x, h => by
    rw [List.filterMap_cons] at e
    split at e
    · rename_i hn
      have := List.length_filterMap_le f l
      rw [e] at this
      simp only [List.length_cons] at this
      omega
    · rename_i z hz
      simp only [List.length_cons, Nat.add_right_cancel_iff] at e
      rcases List.mem_cons.mp h with rfl | h
      · rw [hz]; rfl
      · exact fm_len e x h
theorem stores_none {ts : List Expr} {vs : List Expr} {k1 k2 p1 p2} {env : Env} (h : vs.all (foldedForSure 8) = true ∨ 3 < ts.length ∨ ts.any (fun t => match t with | .Name x _ => (match env.scope.names.lookup x with | some .local => false | _ => true) | _ => true) = true) :
    swappedStores [.Tuple ts k1 p1] (.Tuple vs k2 p2) env = pure none := by
  unfold swappedStores
  dsimp only
  split
  · rfl
  rename_i h1
  split
  · rfl
  split
  · rfl
  rename_i h3
  split
  · rfl
  rename_i h4
  exfalso
  rcases h with h | h | h
  · exact h4 h
  · simp only [Bool.or_eq_true, Bool.not_eq_true', Bool.or_eq_false_iff, beq_eq_false_iff_ne, bne_iff_ne, ne_eq, not_or, not_and] at h1
    omega
  · simp only [Bool.or_eq_true, bne_iff_ne, ne_eq, not_or, Decidable.not_not] at h3
    obtain ⟨t, ht, q⟩ := List.any_eq_true.mp h
    have z := fm_len h3.1 t ht
    cases t
    case Name x p =>
      dsimp only at q z
      split at q
      · cases q
      · rename_i hne
        split at z
        · rename_i hk
          simp only [Bool.and_eq_true, beq_iff_eq] at hk
          exact hne hk.1
        · cases z
    all_goals cases z
def isStar : Expr → Bool
  | .Starred .. => true
  | _ => false
theorem not_star {N : List Str} {sc : Scope} {m : E} {e : Expr} (h : mE N sc m e = true) : isStar e = false := by
  cases e
  case Starred => rw [mE_star] at h; cases h
  all_goals rfl
theorem swap2 {a b : Expr} {x y : Str} {px py kt pt k2 pt2} {env : Env} (hf : env.blockKind = .function) (hx : env.scope.names.lookup x = some .local) (hy : env.scope.names.lookup y = some .local) (hl : py.line = px.line) (hxy : x ≠ y)
    (sa : isStar a = false) (sb : isStar b = false) (nf : ([a, b].all (foldedForSure 8)) = false) (nc : ([a, b].all (constantsAlone 8)) = false) :
    swappedStores [.Tuple [.Name x px, .Name y py] kt pt] (.Tuple [a, b] k2 pt2) env = pure (some [x, y]) := by
  have kx : env.kindOf x = some .local := hx
  have ky : env.kindOf y = some .local := hy
  have pp : (Expr.Name x px).pos.line = px.line := rfl
  unfold swappedStores
  dsimp only
  have e1 : (([a, b] : List Expr).any isStar) = false := by simp only [List.any_cons, List.any_nil, Bool.or_false, sa, sb]
  have e2 : ([x, y] : List Str).eraseDups = [x, y] := by
    have : (x == y) = false := by simpa using hxy
    have : (y == x) = false := by simpa using Ne.symm hxy
    simp [List.eraseDups_cons, this]
  simp only [hf, nf, nc, e1, List.head?_cons, Option.map_some, Option.getD_some, pp, List.filterMap_cons, List.filterMap_nil, kx, ky, hl, beq_self_eq_true, Bool.and_self, if_true, e2]
  refine (if_neg (by simp)).trans ((if_neg fun h => absurd (e1.symm.trans h) (by decide)).trans ((if_neg (by simp)).trans ((if_neg (by decide)).trans (if_neg (by decide)))))
theorem swap3 {a b c : Expr} {x y z : Str} {px py pz kt pt k2 pt2} {env : Env} (hf : env.blockKind = .function) (hx : env.scope.names.lookup x = some .local) (hy : env.scope.names.lookup y = some .local) (hz : env.scope.names.lookup z = some .local) (hl : py.line = px.line) (hl2 : pz.line = px.line) (hxy : x ≠ y) (hxz : x ≠ z) (hyz : y ≠ z)
    (sa : isStar a = false) (sb : isStar b = false) (sc : isStar c = false) (nf : ([a, b, c].all (foldedForSure 8)) = false) (nc : ([a, b, c].all (constantsAlone 8)) = false) :
    swappedStores [.Tuple [.Name x px, .Name y py, .Name z pz] kt pt] (.Tuple [a, b, c] k2 pt2) env = pure (some [x, y, z]) := by
  have kx : env.kindOf x = some .local := hx
  have ky : env.kindOf y = some .local := hy
  have kz : env.kindOf z = some .local := hz
  have pp : (Expr.Name x px).pos.line = px.line := rfl
  unfold swappedStores
  dsimp only
  have e1 : (([a, b, c] : List Expr).any isStar) = false := by simp only [List.any_cons, List.any_nil, Bool.or_false, sa, sb, sc]
  have e2 : ([x, y, z] : List Str).eraseDups = [x, y, z] := by
    have h1 : (y == x) = false := by simpa using Ne.symm hxy
    have h2 : (z == x) = false := by simpa using Ne.symm hxz
    have h3 : (z == y) = false := by simpa using Ne.symm hyz
    simp [List.eraseDups_cons, h1, h2, h3]
  simp only [hf, nf, nc, e1, List.head?_cons, Option.map_some, Option.getD_some, pp, List.filterMap_cons, List.filterMap_nil, kx, ky, kz, hl, hl2, beq_self_eq_true, Bool.and_self, if_true, e2]
  refine (if_neg (by simp)).trans ((if_neg fun h => absurd (e1.symm.trans h) (by decide)).trans ((if_neg (by simp)).trans ((if_neg (by decide)).trans (if_neg (by decide)))))
theorem aug_snd {X : Cx} (op : Operator) : PIp X op (l2 X.K (wAug op)) := fun pins s σ H x y v u Q I rx ry ⟨a, b, S, ra, rb, c, q⟩ => by
  cases op <;> simp only [wAug] at q
  case Add =>
    unfold aAdd at q
    split at q
    · simp only [RepV] at ra rb; subst ra; subst rb
      exact ip_add pins s σ H _ _ v u Q I rx ry ⟨_, _, rfl, rfl, q.int c⟩
    · simp only [RepV] at ra rb; subst ra; subst rb
      obtain ⟨xs, ys, h1, h2, hl, q⟩ := q
      obtain ⟨xs', e1, r1⟩ := c.lst h1
      obtain ⟨ys', e2, r2⟩ := c.lst h2
      refine iop_ext pins s σ H _ _ v u Q I rx ry ⟨_, _, _, _, rfl, rfl, e1, e2, by rw [r1.length, r2.length]; exact hl, ?_⟩
      exact q _ _ (.chg h1 e1 trivial) (c.setL h1 e1 (r1.append r2)) (by simp only [RepV])
    · exact q.elim
  case Sub =>
    unfold bSub at q
    split at q
    · simp only [RepV] at ra rb; subst ra; subst rb
      exact ip_sub pins s σ H _ _ v u Q I rx ry ⟨_, _, rfl, rfl, q.int c⟩
    · exact q.elim
  all_goals exact q.elim
theorem forW_keep {keep : Sto → Prop} {turn : Val → Loc → Sto → En → Prop} {D : En} {xs : List Val} {ρ : Loc} {S : Sto} (h : forW keep turn D xs ρ S) : keep S := by
  cases xs with
  | nil => exact h.1
  | cons x xs => exact h.1
theorem mPar_cons {N : List Str} {sc : Scope} {l i : Nat} {is : List Nat} {es : List Expr} (h : mPar N sc l (i :: is) es = true) : ∃ x p r, es = .Name x p :: r ∧ N[i]? = some x ∧ sc.names.lookup x = some .local ∧ p.line = l ∧ mPar N sc l is r = true := by
  cases es with
  | nil => simp [mPar] at h
  | cons e r =>
    cases e
    case Name x p =>
      simp only [mPar, Bool.and_eq_true, decide_eq_true_eq] at h
      obtain ⟨⟨⟨h1, h2⟩, h3⟩, h4⟩ := h
      refine ⟨_, _, _, rfl, h1, ?_, h3, h4⟩
      split at h2
      · assumption
      · cases h2
    all_goals simp [mPar] at h
theorem mPar_nil {N : List Str} {sc : Scope} {l : Nat} {es : List Expr} (h : mPar N sc l [] es = true) : es = [] := by
  cases es with
  | nil => rfl
  | cons e r => simp [mPar] at h
theorem mEs_cons {N : List Str} {sc : Scope} {ms : List E} {e : Expr} {es : List Expr} (h : mEs N sc ms (e :: es) = true) : ∃ m r, ms = m :: r ∧ mE N sc m e = true ∧ mEs N sc r es = true := by
  cases ms with
  | nil => simp [mEs] at h
  | cons m r => simp only [mEs, Bool.and_eq_true] at h; exact ⟨m, r, rfl, h.1, h.2⟩
theorem wEs_len (G : Gam) (X : XPost) : ∀ (es : List E) {ρ : Loc} {S : Sto} {Q : List Val → Sto → Prop}, wEs G X es ρ S Q → wEs G X es ρ S (fun vs S1 => vs.length = es.length ∧ Q vs S1)
  | [], _, _, _, q => by simp only [wEs] at q ⊢; exact ⟨rfl, q⟩
  | e :: es, _, _, _, q => by
    simp only [wEs] at q ⊢
    exact wE_mono G X e (fun v S1 q => wEs_mono G X es (fun vs S2 q => ⟨by simp [q.1], q.2⟩) (wEs_len G X es q)) q
section
variable {X : Cx} {G : Gam} {k : Nat} {S0 : Sto} {H0 : Hp} {XP : XLoc} {rs : List Str}
theorem Ss.fk (D : Ss X G k S0 H0 XP rs) : X.env.blockKind = .function := by unfold Env.blockKind; rw [D.kind]; rfl
theorem Ss.startS (D : Ss X G k S0 H0 XP rs) (S1 : Sto) (H1 : Hp) : Ss X G k S1 H1 (fun _ _ _ => False) rs := ⟨D.toSd.noX.start S1 H1, D.own, D.kind, D.pass, D.rais, D.fr⟩
theorem nodup_ne {N : List Str} {i j : Nat} {x y : Str} (h : N[i]? = some x) (h' : N[j]? = some y) (hij : i ≠ j) (nd : N.Nodup) : x ≠ y := fun e => by
  subst e; exact hij (nodup_ix nd h h')
theorem sPar (D : Ss X G k S0 H0 XP rs) {is : List Nat} {es : List E} {st : Stmt} (h : mC X.N X.env.scope rs (.par is es) st = true) : PS X st (lS X.K S0 H0 XP (wC G (.par is es))) := by
  simp only [mC] at h; split at h
  · rename_i ts kt pt es' k2 pt2 pos
    simp only [Bool.and_eq_true, Bool.or_eq_true, decide_eq_true_eq, Bool.not_eq_true'] at h
    obtain ⟨⟨⟨⟨⟨⟨h1, h2⟩, h3⟩, h4⟩, h5⟩, h6⟩, h7⟩ := h
    have hl := mEs_length h2
    rcases h4 with h4 | h4
    · match is, h4 with
      | [i, j], _ =>
        obtain ⟨x, px, r, rfl, hx, lx, ex, h1⟩ := mPar_cons h1
        obtain ⟨y, py, r, rfl, hy, ly, ey, h1⟩ := mPar_cons h1
        have := mPar_nil h1; subst this
        have hij : i ≠ j := by simpa using h3
        match es, es', h5, hl with
        | [ma, mb], [a, b], _, _ =>
        obtain ⟨_, _, e1, ha, h2a⟩ := mEs_cons h2
        cases e1
        obtain ⟨_, _, e1, hb, h2b⟩ := mEs_cons h2a
        cases e1
        refine PS.imp (ps_par D.calm D.nd hx hy hij lx ly (sEs G k S0 H0 _ D.toSd h2) (swap2 D.fk lx ly (ey.trans ex.symm) (nodup_ne hx hy hij D.nd) (not_star ha) (not_star hb) h6 h7)) fun D' σ H ⟨ρ, S, En, cl, c, e0, en, q⟩ => ?_
        simp only [wC] at q; rw [en.xc] at q
        refine ⟨ρ, S, cl, c, e0, wEs_mono G _ _ (fun vs S1 ⟨hv, q⟩ H1 xs e1 c1 r1 => ?_) (wEs_len G _ _ q)⟩
        match vs, hv with
        | [v, w], _ =>
        simp only [RepVs] at r1
        obtain ⟨xv, _, rfl, rv, xw, _, rfl, rw', rfl⟩ := r1
        exact ⟨_, _, rfl, en.nx _ _ _ _ e1 c1 (((cl.evo e1).set i rv).set j rw') q⟩
    · match is, h4 with
      | [i, j, l], _ =>
        obtain ⟨x, px, r, rfl, hx, lx, ex, h1⟩ := mPar_cons h1
        obtain ⟨y, py, r, rfl, hy, ly, ey, h1⟩ := mPar_cons h1
        obtain ⟨z, pz, r, rfl, hz, lz, ez, h1⟩ := mPar_cons h1
        have := mPar_nil h1; subst this
        have hij : (i ≠ j ∧ i ≠ l) ∧ j ≠ l := by simpa using h3
        match es, es', h5, hl with
        | [ma, mb, mc], [a, b, c], _, _ =>
        obtain ⟨_, _, e1, ha, h2a⟩ := mEs_cons h2
        cases e1
        obtain ⟨_, _, e1, hb, h2b⟩ := mEs_cons h2a
        cases e1
        obtain ⟨_, _, e1, hc, h2c⟩ := mEs_cons h2b
        cases e1
        refine PS.imp (ps_par3 D.calm D.nd hx hy hz hij.1.1 hij.1.2 hij.2 lx ly lz (sEs G k S0 H0 _ D.toSd h2) (swap3 D.fk lx ly lz (ey.trans ex.symm) (ez.trans ex.symm) (nodup_ne hx hy hij.1.1 D.nd) (nodup_ne hx hz hij.1.2 D.nd) (nodup_ne hy hz hij.2 D.nd) (not_star ha) (not_star hb) (not_star hc) h6 h7)) fun D' σ H ⟨ρ, S, En, cl, c, e0, en, q⟩ => ?_
        simp only [wC] at q; rw [en.xc] at q
        refine ⟨ρ, S, cl, c, e0, wEs_mono G _ _ (fun vs S1 ⟨hv, q⟩ H1 xs e1 c1 r1 => ?_) (wEs_len G _ _ q)⟩
        match vs, hv with
        | [v, w, u], _ =>
        simp only [RepVs] at r1
        obtain ⟨xv, _, rfl, rv, xw, _, rfl, rw', xu, _, rfl, ru, rfl⟩ := r1
        exact ⟨_, _, _, rfl, en.nx _ _ _ _ e1 c1 ((((cl.evo e1).set i rv).set j rw').set l ru) q⟩
  · cases h
/-- name = [..], on one line -/
theorem sAsgLc (D : Ss X G k S0 H0 XP rs) {t : T} {e : E} {elt : Expr} {gens : List Comprehension} {scope : Scope} {pos py spos : Pos} {y : Str} (ht : mT X.N X.env.scope t (.Name y py) = true) (he : mE X.N X.env.scope e (.ListComp elt gens scope pos) = true)
    (sw : swapsWith (.ListComp elt gens scope pos) (some (.Name y py)) spos.line X.env = pure true) (hyl : X.env.scope.names.lookup y = some .local) (hnl : notLock e = true) :
    PS X (.Assign [.Name y py] (.ListComp elt gens scope pos) spos) (lS X.K S0 H0 XP (wC G (.asg t e))) := by
  cases t <;> simp only [mT, Bool.and_eq_true, decide_eq_true_eq, Bool.false_eq_true] at ht
  rename_i i
  cases e
  case lockE => simp [notLock] at hnl
  all_goals simp only [mE, Bool.false_eq_true] at he
  rename_i own t it ifs b
  split at he
  · rename_i heq
    cases heq
    simp only [Bool.and_eq_true, decide_eq_true_eq] at he
    obtain ⟨⟨⟨⟨⟨⟨⟨⟨hz, h1⟩, h2⟩, h3⟩, h4⟩, h5⟩, h6⟩, h7⟩, h8⟩ := he
    have hown := blk_own (blkOk_by h1) h8 h7
    refine PS.imp (ps_setLc (i := i) (g := lG' X.K S0 H0 (slots t) fun v ρ S Q => wTg G M.noX t v ρ S Q) (tt := lB X.K S0 H0 fun ρ S Q => wBs G M.noX ifs ρ S Q) (te := lE X.K S0 H0 fun ρ S Q => wE G M.noX b ρ S Q) D.calm D.nd ht.1 hyl sw (sI G k S0 H0 it D.toSd h2 hz) (blkOk_by h1) (fun s H C cl fp => sT G k S0 H0 t (D.toSd.blk s H scope (compEnvC scope cl C X.env) fp) h3 hown) (fun s H C cl fp => sBs G k S0 H0 ifs (D.toSd.blk s H scope (compEnvC scope cl C X.env) fp) h4 h5) (fun s H C cl fp => sE G k S0 H0 b (D.toSd.blk s H scope (compEnvC scope cl C X.env) fp) h6) (noSet h2 _)) fun D' σ H ⟨ρ, S, En, cl, c, e0, en, q⟩ => ?_
    simp only [wC] at q; rw [en.xc] at q
    have q2 : lE X.K S0 H0 (fun ρ S Q => wE G (fun c S' => XP c ρ S') (.lc own t it ifs b) ρ S Q) σ H (fun x H1 => gName i x σ H1 D'.nx) := by
      refine ⟨ρ, S, cl, c, e0, wE_mono G _ _ (fun v S1 q H1 x e1 c1 r1 => ?_) q⟩
      simp only [wTg] at q
      exact en.nx _ _ _ _ e1 c1 ((cl.evo e1).set i r1) q
    simp only [wE] at q2
    exact lc_read (tI := fun ρ S R => wI G (fun c S' => XP c ρ S') it ρ S R) (tG := fun v ρ S Q => wTg G M.noX t v ρ S Q) (tB := fun ρ S Q => wBs G M.noX ifs ρ S Q) (tE := fun ρ S Q => wE G M.noX b ρ S Q) (slots t) h7 (wI_mono G _ it) (wTg_mono G _ t) (wBs_mono G _ ifs) (wE_mono G _ b) q2
  · cases he
theorem sAsg (D : Ss X G k S0 H0 XP rs) {t : T} {e : E} {tg e' : Expr} {spos : Pos} (ht : mT X.N X.env.scope t tg = true) (he : mE X.N X.env.scope e e' = true) (hs : swapsWith e' (some tg) spos.line X.env = pure false) (hw : swappedStores [tg] e' X.env = pure none) :
    PS X (.Assign [tg] e' spos) (lS X.K S0 H0 XP (wC G (.asg t e))) := by
  refine PS.imp (ps_asg (sE G k S0 H0 e D.toSd he) (sT G k S0 H0 t D.toSd ht (fun i _ x hx => D.own i x hx)) hs hw (by rw [assign_one ht]; rfl)) fun D' σ H ⟨ρ, S, En, cl, c, e0, en, q⟩ => ?_
  simp only [wC] at q; rw [en.xc] at q
  refine ⟨ρ, S, cl, c, e0, wE_mono G _ e (fun v S1 q H1 x e1 c1 r1 => ?_) q⟩
  exact ⟨v, ρ, S1, r1, cl.evo e1, c1, e0.trans e1, wTg_mono G _ t (fun ρ' S2 q σ' H2 e2 c2 cl2 _ _ => en.nx _ _ _ _ (e1.trans e2) c2 cl2 q) q⟩
end
section
variable {X : Cx} {G : Gam} {k : Nat} {S0 : Sto} {H0 : Hp} {XP : XLoc} {rs : List Str}
/-- the clauses of the model and those of the program -/
def RelH (X : Cx) (G : Gam) (h : Hd) (c : Cau) : Prop := ∃ cc nm, G.ecls h.y = some cc ∧ c.c = .ref cc ∧ c.n = h.n ∧ c.ts = suiR X nm h.k ∧ match h.n, nm with
  | none, none => True
  | some i, some z => X.N[i]? = some z
  | _, _ => False
theorem clauses_of (D : Ss X G k S0 H0 XP rs) : ∀ (hs : List Hd) {hds : List ExceptHandler}, mHds X.N X.env.scope rs hs hds = true → ∃ ks, Cls2 X hds ks ∧ Paired (RelH X G) hs ks
  | [], hds, m => by
    simp only [mHds] at m; split at m
    · exact ⟨[], .nil, .nil⟩
    · cases m
  | h :: hs, hds, m => by
    simp only [mHds] at m; split at m
    · rename_i x xs
      rw [Bool.and_eq_true] at m
      obtain ⟨m1, m2⟩ := m
      obtain ⟨ks, c2, rel⟩ := clauses_of D hs m2
      unfold mHd at m1
      split at m1
      · rename_i y py nm su pp
        simp only [Bool.and_eq_true, decide_eq_true_eq] at m1
        obtain ⟨⟨⟨⟨⟨rfl, a2⟩, a3⟩, a4⟩, a5⟩, a6⟩ := m1
        obtain ⟨cc, hc, hmg, mk⟩ := D.rais _ (List.contains_iff_mem.mp a4)
        have so := sui_ok (n := nm) D.nd (D.g.blt _ (by decide +kernel)) h.k a5
        have nms : Names X h.y (.ref cc) := ⟨gl_of a2, (dbg_of a3).1, .inl hmg⟩
        cases su with
        | nil => cases e : h.k <;> rw [e] at a5 <;> simp [mHK] at a5
        | cons b1 su =>
          split at a6
          · rename_i e1
            refine ⟨⟨.ref cc, none, suiR X none h.k⟩ :: ks, .un nms so c2, .cons ⟨cc, none, hc, rfl, e1.symm, rfl, ?_⟩ rel⟩
            rw [e1]; trivial
          · rename_i i z e1
            simp only [Bool.and_eq_true, decide_eq_true_eq] at a6
            refine ⟨⟨.ref cc, some i, suiR X (some z) h.k⟩ :: ks, .nm nms a6.1 a6.2 so c2, .cons ⟨cc, some z, hc, rfl, e1.symm, rfl, ?_⟩ rel⟩
            rw [e1]; exact a6.1
          · cases a6
      · cases m1
    · cases m
theorem CorL.off {K : PySem.W.Frag} {H : Hp} {ρ : Loc} {σ : L2.St} (h : CorL K H ρ σ) (i : Nat) (o : Option V) : CorL K H (ρ.set i none) (σ.set i o) := by
  refine ⟨by simp only [List.length_set]; exact h.1, fun j v e => ?_⟩
  by_cases c : i = j
  · subst c
    rw [List.getElem?_set] at e
    split at e
    · split at e <;> cases e
    · contradiction
  · rw [List.getElem?_set_ne c] at e ⊢
    exact h.2 j v e
/-- what the clauses wish -/
theorem mix_of {D' : Ends} {S : Sto} {H : Hp} {En : En} (D : Ss X G k S0 H0 XP rs) (en : EnR X.K S H XP En D') {c' : Str} {C : Addr} {ρ' : Loc} {σ' : L2.St} {S' : Sto} {H' : Hp} {Wo : WX} (hec : G.ecls c' = some C) (cl : CorL X.K H' ρ' σ') (co : Cor X.K S' H') (ev : Evo S H S' H') (out : En.xc c' ρ' S' → Wo (.ref C) none σ' H') :
    ∀ {hs : List Hd} {ks : List Cau}, Paired (RelH X G) hs ks → wHs G En c' ρ' S' hs → wMix X.K Wo D' ks (.ref C) none σ' H' := by
  intro hs ks rel
  induction rel with
  | nil => exact out
  | @cons h c hs ks r rel ih =>
    intro w
    obtain ⟨cc, nm, r1, r2, r3, r4, r5⟩ := r
    simp only [wHs] at w
    obtain ⟨b, hx, w⟩ := w
    obtain ⟨C2, Y, a1, a2, a3⟩ := D.g.exm _ _ _ hx
    rw [hec] at a1; cases a1
    rw [r1] at a2; cases a2
    refine ⟨b, by rw [r2]; exact a3, fun eb a na => ?_, fun eb => ?_⟩
    · subst eb
      rw [if_pos rfl] at w
      rw [r4, r3]
      cases hn : h.n with
      | none =>
        rw [hn] at w r5
        cases nm with
        | some z => exact r5.elim
        | none =>
          unfold suiR
          refine ⟨(fun z e => by cases e), (fun _ => none), (fun y b e => by cases e), ?_⟩
          cases hk : h.k with
          | ret x =>
            rw [hk] at w
            obtain ⟨b, e, q⟩ := w
            exact ⟨b, hV_of cl e, en.rt _ _ _ _ ev co (by simp only [RepV]) q⟩
          | setB i x =>
            rw [hk] at w
            obtain ⟨b, e, q⟩ := w
            exact ⟨b, hV_of cl e, en.nx _ _ _ _ ev co (cl.set i (v := .bl b) (x := .bl b) (by simp only [RepV])) q⟩
          | setN i =>
            rw [hk] at w
            exact en.nx _ _ _ _ ev co (cl.set i (v := .non) (x := .non) (by simp only [RepV])) w
          | setS i x =>
            rw [hk] at w
            exact en.nx _ _ _ _ ev co (cl.set i (v := .str x) (x := .str x) (by simp only [RepV])) w
      | some i =>
        rw [hn] at w r5
        cases nm with
        | none => exact r5.elim
        | some z =>
          have cl2 : CorL X.K H' (ρ'.set i none) (putN σ' a (some i)) := cl.off i _
          unfold suiR
          refine ⟨(fun z' e => by cases e; exact ⟨i, r5, σ', rfl⟩), G.exi c', fun y b e => ?_, ?_⟩
          · obtain ⟨C3, b1, b2, b3⟩ := D.g.exi _ _ _ e
            rw [hec] at b1; cases b1
            exact ⟨_, rfl, rfl, b2, b3⟩
          cases hk : h.k with
          | ret x =>
            rw [hk] at w
            obtain ⟨b, e, q⟩ := w
            exact ⟨b, hV_of cl2 e, en.rt _ _ _ _ ev co (by simp only [RepV]) q⟩
          | setB j x =>
            rw [hk] at w
            obtain ⟨b, e, q⟩ := w
            exact ⟨b, hV_of cl2 e, en.nx _ _ _ _ ev co ((cl2.set j (v := .bl b) (x := .bl b) (by simp only [RepV])).off i none) q⟩
          | setN j =>
            rw [hk] at w
            exact en.nx _ _ _ _ ev co ((cl2.set j (v := .non) (x := .non) (by simp only [RepV])).off i none) w
          | setS j x =>
            rw [hk] at w
            exact en.nx _ _ _ _ ev co ((cl2.set j (v := .str x) (x := .str x) (by simp only [RepV])).off i none) w
    · subst eb
      rw [if_neg (by decide)] at w
      exact ih w
end
mutual
theorem sC (G : Gam) (k : Nat) (S0 : Sto) (H0 : Hp) (rs : List Str) : ∀ (m : C) {X : Cx} {XP : XLoc} (D : Ss X G k S0 H0 XP rs) {st : Stmt}, mC X.N X.env.scope rs m st = true → PS X st (lS X.K S0 H0 XP (wC G m))
  | .asg t e, X, XP, D, st, h => by
    simp only [mC] at h; split at h
    · rename_i a' f' p1 e' pos
      split at h
      · simp only [Bool.and_eq_true, decide_eq_true_eq] at h
        obtain ⟨⟨rfl, h2⟩, h3⟩ := h
        rename_i a f
        have sw : swapsWith e' (some (.Attribute a' f p1)) pos.line X.env = pure false := by
          by_cases hlc : ∃ a b c d, e' = .ListComp a b c d
          · obtain ⟨_, _, _, _, rfl⟩ := hlc
            exact noSwap2 (fun x p e => by cases e) _ _
          · exact noSwap h3 (fun a b c d e => hlc ⟨a, b, c, d, e⟩) _ _ _
        refine PS.imp (ps_fld (sE G k S0 H0 a D.toSd.noX h2) (sE G k S0 H0 e D.toSd h3) sw) fun D' σ H ⟨ρ, S, En, cl, c, e0, en, q⟩ => ?_
        simp only [wC, wTg] at q; rw [en.xc] at q
        refine ⟨ρ, S, cl, c, e0, wE_mono G _ e (fun v S1 q H1 y e1 c1 r1 => ?_) q⟩
        refine ⟨ρ, S1, cl.evo e1, c1, e0.trans e1, wE_mono G _ a (fun o S2 q H2 x e2 c2 r2 => ?_) q⟩
        obtain ⟨p, C, fs, rfl, hs, ho, hl, q⟩ := q
        simp only [RepV] at r2; subst r2
        obtain ⟨dx, us, eh, rk⟩ := c2.ins hs
        obtain ⟨cl', na⟩ := D.g.fo _ _ ho
        have hlen : us.length = fs.length := (Paired.length rk).symm
        have ev : Evo S2 H2 (S2.upd p (.ins C (putV f v fs))) (upd H2 p (.ins (He.ga X.K C) dx (putF f y us))) := .chg hs eh trivial
        refine ⟨p, _, dx, us, rfl, eh, cl', na, by omega, en.nx _ _ _ _ ((e1.trans e2).trans ev) ?_ (((cl.evo e1).evo e2).evo ev) q⟩
        refine c2.chg hs eh trivial ?_
        simp only [RepA]
        exact ⟨dx, _, upd_same, (RepK.put (r1.evo e2) rk).evo' (chg_tup eh trivial) (chg_frz eh trivial)⟩
      · cases h
    · rename_i t' e' pos _
      simp only [Bool.and_eq_true] at h
      obtain ⟨⟨⟨hnl, h1⟩, h2⟩, h3⟩ := h
      have hw : swappedStores [t'] e' X.env = pure none := by
        cases t'
        case Tuple ts kt pt =>
          cases e'
          case Tuple vs k2 p2 =>
            simp only [Bool.or_eq_true, decide_eq_true_eq] at h3
            exact stores_none (by rcases h3 with (h3 | h3) | h3; exact .inl h3; exact .inr (.inl h3); exact .inr (.inr h3))
          all_goals rfl
        case List => cases t <;> simp [mT] at h1
        all_goals rfl
      by_cases hlc : ∃ a b c d, e' = .ListComp a b c d
      · obtain ⟨elt, gens, scope, p, rfl⟩ := hlc
        by_cases hn : ∃ x p, t' = .Name x p
        · obtain ⟨y, py, rfl⟩ := hn
          have sw := swapB (a := elt) (b := gens) (c := scope) (d := p) (x := y) (p := py) pos.line X.env
          cases hb : (X.env.blockKind == .function && X.env.kindOf y == some .local && py.line == (Expr.ListComp elt gens scope p).pos.line && !(scope.names.any fun (n, k) => n == y && (k == .local || k == .cell)))
          · rw [hb] at sw
            exact sAsg D h1 h2 sw hw
          · rw [hb] at sw
            simp only [Bool.and_eq_true, beq_iff_eq] at hb
            exact sAsgLc D h1 h2 sw hb.1.1.2 hnl
        · exact sAsg D h1 h2 (noSwap2 (fun x p e => hn ⟨x, p, e⟩) _ _) hw
      · exact sAsg D h1 h2 (noSwap h2 (fun a b c d e => hlc ⟨a, b, c, d, e⟩) _ _ _) hw
    · cases h
  | .par is es, X, XP, D, st, h => sPar D h
  | .aug i op e, X, XP, D, st, h => by
    simp only [mC] at h; split at h
    · simp only [Bool.and_eq_true, decide_eq_true_eq] at h
      obtain ⟨⟨⟨h1, h2⟩, rfl⟩, h4⟩ := h
      refine PS.imp (ps_aug D.nd h1 (lookup_loc h2) (sE G k S0 H0 e D.toSd h4) (aug_snd op) (D.own _ _ h1)) fun D' σ H ⟨ρ, S, En, cl, c, e0, en, q⟩ => ?_
      simp only [wC] at q; rw [en.xc] at q
      obtain ⟨v, hv, q⟩ := q
      obtain ⟨x, hx, r⟩ := cl.2 i v hv
      refine ⟨x, hx, ρ, S, cl, c, e0, wE_mono G _ e (fun w S1 q H1 y e1 c1 r1 => ?_) q⟩
      exact ⟨v, w, S1, r.evo e1, r1, c1, wAug_mono (fun z S2 q H2 zz e2 c2 r2 => en.nx _ _ _ _ (e1.trans e2) c2 (((cl.evo e1).evo e2).set i r2) q) op _ _ _ q⟩
    · cases h
  | .ex e, X, XP, D, st, h => by
    simp only [mC] at h; split at h
    · simp only [Bool.and_eq_true] at h
      rename_i e' pos
      have hlc : ∀ a b c d, e' ≠ .ListComp a b c d := fun a b c d z => by subst z; cases h.2
      refine PS.imp (ps_expr (sE G k S0 H0 e D.toSd h.1) (noSwap h.1 hlc _ _ _)) fun D' σ H ⟨ρ, S, En, cl, c, e0, en, q⟩ => ?_
      simp only [wC] at q; rw [en.xc] at q
      exact ⟨ρ, S, cl, c, e0, wE_mono G _ e (fun v S1 q H1 x e1 c1 r1 => en.nx _ _ _ _ e1 c1 (cl.evo e1) q) q⟩
    · cases h
  | .ret e, X, XP, D, st, h => by
    simp only [mC] at h; split at h
    · refine PS.imp (ps_ret (sE G k S0 H0 e D.toSd h)) fun D' σ H ⟨ρ, S, En, cl, c, e0, en, q⟩ => ?_
      simp only [wC] at q; rw [en.xc] at q
      exact ⟨ρ, S, cl, c, e0, wE_mono G _ e (fun v S1 q H1 x e1 c1 r1 => en.rt _ _ _ _ e1 c1 r1 q) q⟩
    · cases h
  | .retN, X, XP, D, st, h => by
    simp only [mC] at h; split at h
    · refine PS.imp ps_retN fun D' σ H ⟨ρ, S, En, cl, c, e0, en, q⟩ => ?_
      simp only [wC] at q
      exact en.rt _ _ _ _ .refl c (by simp only [RepV]) q
    · cases h
  | .ite b p q, X, XP, D, st, h => by
    simp only [mC] at h; split at h
    · simp only [Bool.and_eq_true] at h
      obtain ⟨⟨h1, h2⟩, h3⟩ := h
      refine PS.imp (ps_if (sB G k S0 H0 b D.toSd h1) (sCs G k S0 H0 rs p D h2) (sCs G k S0 H0 rs q D h3)) fun D' σ H ⟨ρ, S, En, cl, c, e0, en, q⟩ => ?_
      simp only [wC] at q; rw [en.xc] at q
      refine ⟨ρ, S, cl, c, e0, wB_mono G _ b (fun kk S1 q H1 e1 c1 => ?_) q⟩
      cases kk with
      | true => simp only [if_true] at q ⊢; exact ⟨ρ, S1, En, cl.evo e1, c1, e0.trans e1, en.evo e1, q⟩
      | false => simp only [Bool.false_eq_true, if_false] at q ⊢; exact ⟨ρ, S1, En, cl.evo e1, c1, e0.trans e1, en.evo e1, q⟩
    · cases h
  | .whil b p, X, XP, D, st, h => by
    simp only [mC] at h; split at h
    · simp only [Bool.and_eq_true] at h
      obtain ⟨h1, h2⟩ := h
      refine PS.imp (ps_while D.pass (sB G k S0 H0 b D.toSd h1) (sCs G k S0 H0 rs p D h2)) fun D' σ H ⟨ρ, S, En, cl, c, e0, en, q⟩ => ?_
      simp only [wC] at q; rw [en.xc] at q
      obtain ⟨W, ⟨m, w0⟩, turn⟩ := q
      refine ⟨fun m σ1 H1 => ∃ ρ1 S1, CorL X.K H1 ρ1 σ1 ∧ Cor X.K S1 H1 ∧ Evo S H S1 H1 ∧ W m ρ1 S1, ⟨m, ρ, S, cl, c, .refl, w0⟩, ?_⟩
      rintro m σ1 H1 ⟨ρ1, S1, cl1, c1, e1, w1⟩
      refine ⟨ρ1, S1, cl1, c1, e0.trans e1, wB_mono G _ _ (fun b S2 q H2 e2 c2 => ?_) (turn m ρ1 S1 w1)⟩
      cases b with
      | true =>
        simp only [if_true] at q ⊢
        refine ⟨fun σ' H' => ∃ m', m' < m ∧ ∃ ρ1 S1, CorL X.K H' ρ1 σ' ∧ Cor X.K S1 H' ∧ Evo S H S1 H' ∧ W m' ρ1 S1, fun σ' H' h => h, ?_⟩
        refine ⟨ρ1, S2, _, cl1.evo e2, c2, (e0.trans e1).trans e2, ⟨?_, ?_, ?_, ?_, ?_⟩, q⟩
        · exact fun ρ' S' σ' H' e c' cl' ⟨m', hm, w⟩ => ⟨m', hm, ρ', S', cl', c', (e1.trans e2).trans e, w⟩
        · exact fun v S' x H' e => en.rt v S' x H' ((e1.trans e2).trans e)
        · exact fun ρ' S' σ' H' e => en.nx ρ' S' σ' H' ((e1.trans e2).trans e)
        · exact fun ρ' S' σ' H' e c' cl' ⟨m', hm, w⟩ => ⟨m', hm, ρ', S', cl', c', (e1.trans e2).trans e, w⟩
        · exact rfl
      | false =>
        simp only [Bool.false_eq_true, if_false] at q ⊢
        exact en.nx _ _ _ _ (e1.trans e2) c2 (cl1.evo e2) q
    · cases h
  | .loop t it p, X, XP, D, st, h => by
    simp only [mC] at h; split at h
    · simp only [Bool.and_eq_true] at h
      obtain ⟨⟨⟨hz, h1⟩, h2⟩, h3⟩ := h
      refine PS.imp (ps_for D.pass D.calm (sI G k S0 H0 it D.toSd h2 hz) (sT G k S0 H0 t D.toSd h1 (fun i _ x hx => D.own i x hx)) (sCs G k S0 H0 rs p D h3) (noSet h2 _)) fun D' σ H ⟨ρ, S, En, cl, c, e0, en, q⟩ => ?_
      simp only [wC] at q; rw [en.xc] at q
      refine ⟨ρ, S, cl, c, e0, wI_mono G _ it (fun xs keep S1 q H1 J e1 c1 wk => ?_) q⟩
      generalize hturn : (fun x ρ1 S2 D' => wTg G M.noX t x ρ1 S2 fun ρ2 S3 => wCs G p D' ρ2 S3) = turn at q
      refine ⟨fun i m σ2 H2 => m = xs.length - i ∧ i ≤ xs.length ∧ ∃ ρ2 S2, CorL X.K H2 ρ2 σ2 ∧ Cor X.K S2 H2 ∧ Evo S1 H1 S2 H2 ∧ forW keep turn En (xs.drop i) ρ2 S2, ⟨xs.length, rfl, Nat.zero_le _, ρ, S1, cl.evo e1, c1, .refl, q⟩, ?_⟩
      rintro i m σ2 H2 ⟨rfl, hi, ρ2, S2, cl2, c2, e2, q2⟩
      have kp := forW_keep q2
      obtain ⟨w1, w2⟩ := wk i S2 H2 e2 c2 kp
      by_cases hlt : i < xs.length
      · obtain ⟨go, yl⟩ := w1 hlt
        refine .inr ⟨go, fun σ' H' => ∃ m', m' < xs.length - i ∧ (m' = xs.length - (i + 1) ∧ i + 1 ≤ xs.length ∧ ∃ ρ2 S2, CorL X.K H' ρ2 σ' ∧ Cor X.K S2 H' ∧ Evo S1 H1 S2 H' ∧ forW keep turn En (xs.drop (i + 1)) ρ2 S2), fun σ' H' h => h, fun x H3 y => ?_⟩
        obtain ⟨v, hv, rv, e3, c3⟩ := yl x H3 y
        have hd : xs.drop i = v :: xs.drop (i + 1) := by
          rw [List.drop_eq_getElem_cons hlt]
          rw [List.getElem?_eq_getElem hlt] at hv
          cases hv; rfl
        rw [hd] at q2
        obtain ⟨_, q2⟩ := q2
        subst hturn
        have e13 := (e0.trans e1).trans (e2.trans e3)
        refine ⟨v, ρ2, S2, rv, cl2.evo e3, c3, e13, wTg_mono G _ t (fun ρ3 S3 q3 σ4 H4 e4 c4 cl4 _ _ => ?_) q2⟩
        refine ⟨ρ3, S3, _, cl4, c4, e13.trans e4, ⟨?_, ?_, ?_, ?_, ?_⟩, q3⟩
        · exact fun ρ' S' σ' H' e c' cl' w => ⟨_, by omega, rfl, hlt, ρ', S', cl', c', ((e2.trans e3).trans e4).trans e, w⟩
        · exact fun v S' x H' e => en.rt v S' x H' ((e1.trans ((e2.trans e3).trans e4)).trans e)
        · exact fun ρ' S' σ' H' e => en.nx ρ' S' σ' H' ((e1.trans ((e2.trans e3).trans e4)).trans e)
        · exact fun ρ' S' σ' H' e c' cl' w => ⟨_, by omega, rfl, hlt, ρ', S', cl', c', ((e2.trans e3).trans e4).trans e, w⟩
        · exact en.xc
      · have hE : i = xs.length := by omega
        refine .inl ⟨w2 hE, ?_⟩
        subst hE
        rw [List.drop_length] at q2
        exact en.nx _ _ _ _ (e1.trans e2) c2 cl2 q2.2
    · cases h
  | .brk, X, XP, D, st, h => by
    simp only [mC] at h; split at h
    · exact PS.imp ps_break fun D' σ H ⟨ρ, S, En, cl, c, e0, en, q⟩ => by simp only [wC] at q; exact en.bk _ _ _ _ .refl c cl q
    · cases h
  | .cnt, X, XP, D, st, h => by
    simp only [mC] at h; split at h
    · exact PS.imp ps_continue fun D' σ H ⟨ρ, S, En, cl, c, e0, en, q⟩ => by simp only [wC] at q; exact en.ct _ _ _ _ .refl c cl q
    · cases h
  | .pass, X, XP, D, st, h => by
    simp only [mC] at h; split at h
    · exact PS.imp ps_pass fun D' σ H ⟨ρ, S, En, cl, c, e0, en, q⟩ => by simp only [wC] at q; exact en.nx _ _ _ _ .refl c cl q
    · cases h
  | .rais x, X, XP, D, st, h => by
    simp only [mC] at h; split at h
    · simp only [Bool.and_eq_true, decide_eq_true_eq] at h
      obtain ⟨⟨⟨rfl, h2⟩, h3⟩, h4⟩ := h
      obtain ⟨cc, hc, _, mk⟩ := D.rais _ h3
      refine PS.imp (ps_raise D.calm D.tk (mk X.pn X.xe _ _ _ _ _ (gl_of h2) (dbg_of h4).1)) fun D' σ H ⟨ρ, S, En, cl, c, e0, en, q⟩ => ?_
      simp only [wC] at q; rw [en.xc] at q
      exact ⟨_, cc, ρ, S, hc, rfl, rfl, cl, c, e0, q⟩
    · cases h
  | .augI a i op e, X, XP, D, st, h => by simp [mC] at h
  | .tryR p y hk, X, XP, D, st, h => by
    simp only [mC] at h; split at h
    · rename_i p' x np hb hpos pos
      simp only [Bool.and_eq_true, decide_eq_true_eq] at h
      obtain ⟨⟨⟨⟨⟨rfl, h2⟩, h3⟩, h4⟩, h5⟩, h6⟩ := h
      obtain ⟨cc, hc, hmg, mk⟩ := D.rais _ (List.contains_iff_mem.mp h4)
      cases hk with
      | retB kk =>
        split at h6
        · rename_i k1 k2 p1 p2 p3 e1
          cases e1
          have h6 := of_decide_eq_true h6
          subst h6
          refine PS.imp (ps_try_only (tb := fun W D' σ H => ∃ S1 H1 XP', (∀ cls d σ' H', WM X.K G.ecls S1 H1 XP' cls d σ' H' → W cls d σ' H') ∧ lS X.K S1 H1 XP' (wCs G p) D' σ H) (ts := fun a cls d D' σ H => D'.rt (.bl kk) H) (Wout := WM X.K G.ecls S0 H0 XP) (c := .ref cc) D.fr.1 D.fr.2 ⟨gl_of h2, (dbg_of h3).1, .inl hmg⟩ D.tk ?_ ?_) fun D' σ H ⟨ρ, S, En, cl, c, e0, en, q⟩ => ?_
          · intro W pn xe tkW pa
            refine ⟨fun pins s σ H D' I ⟨S1, H1, XP', himp, q⟩ => ?_⟩
            exact (sCs G k S1 H1 rs p (X := X.tr pn xe) (XP := XP') ⟨⟨D.room, D.calm, D.nd, D.g, Takes.imp tkW fun cls d σ' H' w => himp cls d σ' H' w, D.gd⟩, D.own, D.kind, pa, D.rais, D.fr⟩ h5).run pins s σ H D' I q
          · intro a oe cls d pn _ _
            exact PSs.imp (pss_cons (ps_ret pe_bl) pss_nil) fun D' σ H q => q
          · simp only [wC] at q
            refine ⟨S, H, (fun c ρ' S' => ∃ b, G.exm c x = some b ∧ if b = true then En.rt (.bl kk) S' else En.xc c ρ' S'), ?_, ρ, S, { En with xc := fun c ρ' S' => ∃ b, G.exm c x = some b ∧ if b = true then En.rt (.bl kk) S' else En.xc c ρ' S' }, cl, c, .refl, ⟨en.nx, en.rt, en.bk, en.ct, rfl⟩, q⟩
            rintro cls d σ' H' ⟨c', C, ρ', S', hec, ecls, ed, cl', co', ev', b, hx, hb⟩
            obtain ⟨C2, Y, a1, a2, a3⟩ := D.g.exm _ _ _ hx
            rw [hec] at a1; cases a1
            rw [hc] at a2; cases a2
            subst ecls ed
            refine ⟨b, a3, fun eb a _ => ?_, fun eb => ?_⟩
            · subst eb
              rw [if_pos rfl] at hb
              exact en.rt _ _ _ _ ev' co' (by simp only [RepV]) hb
            · subst eb
              rw [if_neg (by decide), en.xc] at hb
              exact ⟨c', C, ρ', S', hec, rfl, rfl, cl', co', e0.trans ev', hb⟩
        · cases h6
    · cases h
  | .tryM p hs, X, XP, D, st, h => by
    simp only [mC] at h; split at h
    · rename_i p' h0 hds pos
      simp only [Bool.and_eq_true] at h
      obtain ⟨h1, h2⟩ := h
      obtain ⟨ks, c2, rel⟩ := clauses_of D hs h2
      refine PS.imp (ps_try_mix (tb := fun W D' σ H => ∃ S1 H1 XP', (∀ cls d σ' H', WM X.K G.ecls S1 H1 XP' cls d σ' H' → W cls d σ' H') ∧ lS X.K S1 H1 XP' (wCs G p) D' σ H) (Wo := WM X.K G.ecls S0 H0 XP) D.fr.1 D.fr.2 D.nd D.tk ?_ c2) fun D' σ H ⟨ρ, S, En, cl, c, e0, en, q⟩ => ?_
      · intro W pn xe tkW pa
        refine ⟨fun pins s σ H D' I ⟨S1, H1, XP', himp, q⟩ => ?_⟩
        exact (sCs G k S1 H1 rs p (X := X.tr pn xe) (XP := XP') ⟨⟨D.room, D.calm, D.nd, D.g, Takes.imp tkW fun cls d σ' H' w => himp cls d σ' H' w, D.gd⟩, D.own, D.kind, pa, D.rais, D.fr⟩ h1).run pins s σ H D' I q
      · simp only [wC] at q
        refine ⟨S, H, (fun c ρ' S' => wHs G En c ρ' S' hs), ?_, ρ, S, { En with xc := fun c ρ' S' => wHs G En c ρ' S' hs }, cl, c, .refl, ⟨en.nx, en.rt, en.bk, en.ct, rfl⟩, q⟩
        rintro cls d σ' H' ⟨c', C, ρ', S', hec, ecls, ed, cl', co', ev', hw⟩
        subst ecls ed
        refine mix_of D en hec cl' co' ev' ?_ rel hw
        intro hx
        rw [en.xc] at hx
        exact ⟨c', C, ρ', S', hec, rfl, rfl, cl', co', e0.trans ev', hx⟩
    · cases h
  | .lock m, X, XP, D, st, h => by
    simp only [mC] at h
    have key : PS X st (fun D' σ H => ∃ S0 H0, lS X.K S0 H0 (fun _ _ _ => False) (wC G m) D' σ H) := ⟨fun pins s σ H D' I ⟨S0, H0, q⟩ => (sC G k S0 H0 rs m (D.startS S0 H0) h).run pins s σ H D' I q⟩
    refine PS.imp (ps_lock key) fun D' σ H ⟨ρ, S, En, cl, c, e0, en, q⟩ => ?_
    simp only [wC] at q
    obtain ⟨d, ⟨kvs, hs, q⟩ | ⟨kvs, hs, q⟩⟩ := q
    · have hd := c d _ hs
      simp only [RepA] at hd
      obtain ⟨us, eu, rk⟩ := hd
      refine ⟨d, _, eu, trivial, fun od => ⟨S.upd d (.fK kvs), _, ρ, S.upd d (.fK kvs), _, cl.evo (.lockO (o' := .fK kvs) hs eu trivial), c.lockK hs eu rk, .refl, ⟨?_, ?_, ?_, ?_, rfl⟩, q⟩⟩
      · exact fun ρ1 S1 σ1 H1 e1 c1 cl1 ⟨hs1, q⟩ => have hf : H1 d = some (.frz od (.dK us)) := e1.frz _ _ _ upd_same; ⟨hf, en.nx _ _ _ _ (.unlockO hs eu trivial e1) (c1.unlockK hs1 hf) (cl1.unfrz hf trivial (fun _ z => by cases z)) q⟩
      · exact fun v S1 x H1 e1 c1 r1 ⟨hs1, q⟩ => have hf : H1 d = some (.frz od (.dK us)) := e1.frz _ _ _ upd_same; ⟨hf, en.rt _ _ _ _ (.unlockO hs eu trivial e1) (c1.unlockK hs1 hf) (.unfrz hf trivial (fun _ z => by cases z) _ r1) q⟩
      · exact fun ρ1 S1 σ1 H1 e1 c1 cl1 ⟨hs1, q⟩ => have hf : H1 d = some (.frz od (.dK us)) := e1.frz _ _ _ upd_same; ⟨hf, en.bk _ _ _ _ (.unlockO hs eu trivial e1) (c1.unlockK hs1 hf) (cl1.unfrz hf trivial (fun _ z => by cases z)) q⟩
      · exact fun ρ1 S1 σ1 H1 e1 c1 cl1 ⟨hs1, q⟩ => have hf : H1 d = some (.frz od (.dK us)) := e1.frz _ _ _ upd_same; ⟨hf, en.ct _ _ _ _ (.unlockO hs eu trivial e1) (c1.unlockK hs1 hf) (cl1.unfrz hf trivial (fun _ z => by cases z)) q⟩
    · have hd := c d _ hs
      simp only [RepA] at hd
      obtain ⟨us, eu, rk⟩ := hd
      refine ⟨d, _, eu, trivial, fun od => ⟨S.upd d (.fT kvs), _, ρ, S.upd d (.fT kvs), _, cl.evo (.lockO (o' := .fT kvs) hs eu trivial), c.lockT hs eu rk, .refl, ⟨?_, ?_, ?_, ?_, rfl⟩, q⟩⟩
      · exact fun ρ1 S1 σ1 H1 e1 c1 cl1 ⟨hs1, q⟩ => have hf : H1 d = some (.frz od (.dT us)) := e1.frz _ _ _ upd_same; ⟨hf, en.nx _ _ _ _ (.unlockO hs eu trivial e1) (c1.unlockT hs1 hf) (cl1.unfrz hf trivial (fun _ z => by cases z)) q⟩
      · exact fun v S1 x H1 e1 c1 r1 ⟨hs1, q⟩ => have hf : H1 d = some (.frz od (.dT us)) := e1.frz _ _ _ upd_same; ⟨hf, en.rt _ _ _ _ (.unlockO hs eu trivial e1) (c1.unlockT hs1 hf) (.unfrz hf trivial (fun _ z => by cases z) _ r1) q⟩
      · exact fun ρ1 S1 σ1 H1 e1 c1 cl1 ⟨hs1, q⟩ => have hf : H1 d = some (.frz od (.dT us)) := e1.frz _ _ _ upd_same; ⟨hf, en.bk _ _ _ _ (.unlockO hs eu trivial e1) (c1.unlockT hs1 hf) (cl1.unfrz hf trivial (fun _ z => by cases z)) q⟩
      · exact fun ρ1 S1 σ1 H1 e1 c1 cl1 ⟨hs1, q⟩ => have hf : H1 d = some (.frz od (.dT us)) := e1.frz _ _ _ upd_same; ⟨hf, en.ct _ _ _ _ (.unlockO hs eu trivial e1) (c1.unlockT hs1 hf) (cl1.unfrz hf trivial (fun _ z => by cases z)) q⟩
theorem sCs (G : Gam) (k : Nat) (S0 : Sto) (H0 : Hp) (rs : List Str) : ∀ (ms : List C) {X : Cx} {XP : XLoc} (D : Ss X G k S0 H0 XP rs) {sts : List Stmt}, mCs X.N X.env.scope rs ms sts = true → PSs X sts (lS X.K S0 H0 XP (wCs G ms))
  | [], X, XP, D, sts, h => by
    simp only [mCs] at h; split at h
    · exact PSs.imp pss_nil fun D' σ H ⟨ρ, S, En, cl, c, e0, en, q⟩ => by simp only [wCs] at q; exact en.nx _ _ _ _ .refl c cl q
    · cases h
  | m :: ms, X, XP, D, sts, h => by
    simp only [mCs] at h; split at h
    · simp only [Bool.and_eq_true] at h
      refine PSs.imp (pss_cons (sC G k S0 H0 rs m D h.1) (sCs G k S0 H0 rs ms D h.2)) fun D' σ H ⟨ρ, S, En, cl, c, e0, en, q⟩ => ?_
      simp only [wCs] at q
      refine ⟨ρ, S, _, cl, c, e0, ⟨?_, ?_, ?_, ?_, ?_⟩, q⟩
      · exact fun ρ' S' σ' H' e c' cl' w => ⟨ρ', S', En, cl', c', e0.trans e, en.evo e, w⟩
      · exact en.rt
      · exact en.bk
      · exact en.ct
      · exact en.xc
    · cases h
end
end M

set_option maxHeartbeats 1000000
namespace M
open PySem PySem.Spec L2
/-- a smaller store -/
def Sto.le (S S' : Sto) : Prop := ∀ a o, S a = some o → S' a = some o
theorem Sto.le.refl {S : Sto} : S.le S := fun _ _ h => h
theorem Sto.le.trans {S S1 S2 : Sto} (h : S.le S1) (h' : S1.le S2) : S.le S2 := fun _ _ q => h' _ _ (h _ _ q)
theorem Sto.le.non {S S' : Sto} {a : Addr} (h : S.le S') (n : S' a = none) : S a = none := by
  cases e : S a with
  | none => rfl
  | some o => rw [h _ _ e] at n; cases n
theorem Sto.le.new {S S' : Sto} {p : Addr} {o : MO} (h : S.le S') (n : S' p = none) : S.le (S'.upd p o) := fun a u q => by
  have := h _ _ q
  rw [Sto.upd_ne (fun e => by subst e; rw [n] at this; cases this)]; exact this
theorem Sto.le.upd {S S' : Sto} {p : Addr} {o : MO} (h : S.le S') : (S.upd p o).le (S'.upd p o) := fun a u q => by
  by_cases e : a = p
  · subst e; rw [Sto.upd_same] at q ⊢; exact q
  · rw [Sto.upd_ne e] at q ⊢; exact h _ _ q
theorem Sto.le.at {S S' : Sto} {a : Addr} {o : MO} (h : S.le S') (q : S a = some o) : S' a = some o := h _ _ q
def startL (N : List Str) (vs : List Val) : Loc := vs.map some ++ List.replicate (N.length - vs.length) none
theorem CorL.ofStart {K : PySem.W.Frag} {H : Hp} {N : List Str} {vs : List Val} {xs : List V} (r : RepVs K H vs xs) : CorL K H (startL N vs) (L2.start N xs) := by
  have hl := r.length
  refine ⟨by unfold L2.start startL; simp [hl], fun i v e => ?_⟩
  unfold startL at e
  by_cases hi : i < vs.length
  · rw [List.getElem?_append_left (by simpa using hi), List.getElem?_map] at e
    cases q : vs[i]? with
    | none => rw [q] at e; cases e
    | some w =>
      rw [q] at e; cases e
      obtain ⟨x, hx, rx⟩ := r.get q
      refine ⟨x, ?_, rx⟩
      unfold L2.start
      rw [List.getElem?_append_left (by rw [List.length_map, hl]; exact hi), List.getElem?_map, hx]; rfl
  · rw [List.getElem?_append_right (by simpa using hi), List.getElem?_replicate] at e
    split at e <;> cases e
/-- x('text') makes an error of a class, as the text of the program has it -/
structure RaisK (K : PySem.W.Frag) (mg : Str → Option Value) (ec : Str → Option Addr) (x : Str) (C : Addr) : Prop where
  ec : ec x = some C
  gC : mg x = some (.ref C)
  kC : PySem.W.keepIn K (.ref C) = true
  sub : PySem.W.subIn K (.ref C) (.type "BaseException") = some true
  ty : PySem.W.typeIn K (.ref C) = some (.type "type")
  own : ∃ B newId initId bmB, ExcBaseFacts B newId initId bmB ∧ PySem.W.excIn K C bmB newId = true
section
variable {P : Program} {w : World} {K : PySem.W.Frag} {mg : Str → Option Value} {base : Heap}
theorem Takes.ofM {X : Cx} {ec : Str → Option Addr} {S0 : Sto} {H0 : Hp} {E : XK} {XP : XLoc} (t : Takes X (fun cls d _ H => E cls d H)) (h : ∀ c C S ρ, ec c = some C → XP c ρ S → ∀ H', Evo S0 H0 S H' → Cor X.K S H' → E (.ref C) none H') : Takes X (WM X.K ec S0 H0 XP) :=
  Takes.imp t fun cls d σ H ⟨c, C, ρ, S, e1, e2, e3, cl, co, ev, x⟩ => by
    subst e2; subst e3; exact h c C S ρ e1 x H ev co
/-- what a def's body is to show -/
def Body (G : Gam) (N ps : List Str) (body : List C) (sp : Spec) : Prop := ∀ vs S Q X, sp vs S Q X → vs.length = ps.length ∧
  wCs G body { nx := fun _ S' => ∃ S'', S''.le S' ∧ Q .non S'', rt := fun v S' => ∃ S'', S''.le S' ∧ Q v S'', xc := fun c _ S' => ∃ S'', S''.le S' ∧ X c S'' } (startL N vs) S
theorem Cor.le {S S' : Sto} {H : Hp} (c : Cor K S' H) (h : S.le S') : Cor K S H := fun a o q => c a o (h _ _ q)
theorem Evo.le {S0 S S' : Sto} {H0 H : Hp} (e : Evo S0 H0 S' H) (h : S.le S') : Evo S0 H0 S H := ⟨e.tup, e.frz, fun a o q n => ⟨(e.frame a o q n).1, h.non (e.frame a o q n).2⟩⟩
theorem defM {x qual : Str} {params : Arguments} {stb : List Stmt} {scope : Scope} {dvs : List V} {kws : List (Str × V)} {f : Addr} {fd : FuncData} {N ps : List Str} {k : Nat} {G : Gam} {sp : Spec} {body : List C} {rs : List Str} (F : FunD K x qual params stb scope dvs kws f fd) (S : FnScope N ps scope) (g : GOk P w K mg base k G)
    (rais : ∀ x ∈ rs, ∃ C, RaisK K mg G.ecls x C) (hm : mCs N scope rs body stb = true) (h : Body G N ps body sp) (hrp : G.rp = false) :
    FnOk P w K mg base (L2.CX P w) (k + 1) f fd ps (lSp K G.ecls sp) := by
  refine F.ok S (fun xs H Q E ⟨vs, S1, r, c, Q1, X1, hsp, _, _⟩ => by rw [r.length]; exact (h _ _ _ _ hsp).1) ?_
  intro cdv A outer s H xs Q E hr ⟨vs, S1, r, c, Q1, X1, hsp, hQ, hX⟩
  obtain ⟨hl, q⟩ := h _ _ _ _ hsp
  refine ⟨_, sCs (X := cxOf (L2.CX P w) P w K mg base N qual scope f cdv A outer s H E) G k S1 H rs body (XP := fun c _ S' => ∃ S'', S''.le S' ∧ X1 c S'') { room := hr, calm := rfl, nd := S.nd, g := g, tk := ?_, own := fun _ _ _ => .inl rfl, kind := S.kind, pass := passes_of rfl, rais := ?_, gd := (fun z => by rw [hrp] at z; cases z), fr := ⟨rfl, rfl⟩ } hm, ?_⟩
  · refine Takes.ofM (takes_of rfl rfl rfl rfl) fun c C S2 ρ ec ⟨S3, l3, x3⟩ H' ev co => ?_
    exact hX _ _ x3 C ec H' (ev.le l3) (co.le l3)
  · intro y hy
    obtain ⟨C, R⟩ := rais y hy
    obtain ⟨B, newId, initId, bmB, EF, own⟩ := R.own
    exact ⟨C, R.ec, R.gC, fun pn xe m j p p2 pos hg hdb => pmk_own EF own R.gC R.kC (raises_own R.sub R.ty) hg hdb⟩
  · refine ⟨startL N vs, S1, _, .ofStart r, c, .refl, ⟨?_, ?_, ?_, ?_, rfl⟩, q⟩
    · exact fun ρ S2 σ H2 e c2 cl ⟨S3, l3, q3⟩ => hQ _ _ q3 H2 _ (e.le l3) (c2.le l3) (by simp only [RepV])
    · exact fun v S2 x H2 e c2 rv ⟨S3, l3, q3⟩ => hQ _ _ q3 H2 _ (e.le l3) (c2.le l3) rv
    · exact fun ρ S2 σ H2 e c2 cl z => z.elim
    · exact fun ρ S2 σ H2 e c2 cl z => z.elim
theorem FnM.mono {j k : Nat} {ec : Str → Option Addr} {x : Str} {sp : Spec} (h : FnM P w K mg base j ec x sp) (l : j ≤ k) : FnM P w K mg base k ec x sp := by
  obtain ⟨f, fd, ps, a, b, c, d⟩ := h
  exact ⟨f, fd, ps, a, b, c, d.mono l⟩
theorem lookup_mem {α : Type} {x : Str} {v : α} : ∀ {l : List (Str × α)}, l.lookup x = some v → (x, v) ∈ l
  | [], h => by cases h
  | (y, w) :: l, h => by
    rw [List.lookup_cons] at h
    split at h
    · rename_i e
      cases h
      have := eq_of_beq e
      subst this
      exact List.mem_cons_self
    · exact List.mem_cons_of_mem _ (lookup_mem h)
/-- what a law's bodies know, but for the defs -/
structure Base (K : PySem.W.Frag) (mg : Str → Option Value) (G : Gam) : Prop where
  fo : ∀ C f, G.fo C f = true → Cls K (He.ga K C) ∧ NoAttr K (He.ga K C) f
  cst : ∀ x v, G.cst x = some v → ∃ y u, mg x = some u ∧ RelV y u ∧ ∀ H, RepV K H v y
  blt : ∀ x ∈ bltNames, mg x = none
  rp : G.rp = false
  exm : ∀ c y b, G.exm c y = some b → ∃ C Y, G.ecls c = some C ∧ G.ecls y = some Y ∧ PySem.W.exmOne K (.ref C) (.ref Y) = some b := by exact fun _ _ _ h => by cases h
  exi : ∀ c y b, G.exi c y = some b → ∃ C, G.ecls c = some C ∧ ExcC K C ∧ ((∃ Y, mg y = some (.ref Y) ∧ PySem.W.kitOne K (.ref C) (.ref Y) = some b) ∨ mg y = none ∧ ∃ t, bootBuiltins y = some (.type t) ∧ PySem.W.kitOne K (.ref C) (.type t) = some b) := by exact fun _ _ _ h => by cases h
/-- the promises of the defs, of the makers, of the methods -/
structure Tabs where
  fn : List (Str × Spec) := []
  new : List (Str × Spec) := []
  mt : List ((Str × Str) × Spec) := []
def Gam.with (G : Gam) (T : Tabs) : Gam := { G with fn := fun x => T.fn.lookup x, new := fun x => T.new.lookup x, mt := fun C m => T.mt.lookup (C, m) }
structure TT (P : Program) (w : World) (K : PySem.W.Frag) (mg : Str → Option Value) (base : Heap) (ec : Str → Option Addr) (k : Nat) (T : Tabs) : Prop where
  fn : ∀ p ∈ T.fn, FnM P w K mg base k ec p.1 p.2
  new : ∀ p ∈ T.new, NewM P w K mg base k ec p.1 p.2
  mt : ∀ p ∈ T.mt, MetM P w K mg base k ec p.1.1 p.1.2 p.2
theorem lookup_memP {x : Str × Str} {v : Spec} : ∀ {l : List ((Str × Str) × Spec)}, l.lookup x = some v → (x, v) ∈ l
  | [], h => by cases h
  | (y, w) :: l, h => by
    rw [List.lookup_cons] at h
    split at h
    · rename_i e
      cases h
      have := eq_of_beq e
      subst this
      exact List.mem_cons_self
    · exact List.mem_cons_of_mem _ (lookup_memP h)
theorem TT.gok {k : Nat} {G : Gam} {T : Tabs} (b : Base K mg G) (t : TT P w K mg base G.ecls k T) : GOk P w K mg base k (G.with T) :=
  ⟨fun x sp h => t.fn (x, sp) (lookup_mem h), b.cst, b.blt, b.fo, fun C sp h => t.new (C, sp) (lookup_mem h), fun C m sp h => t.mt ((C, m), sp) (lookup_memP h), b.exm, b.exi⟩
theorem TT.nil {ec : Str → Option Addr} : TT P w K mg base ec 0 {} := ⟨(fun _ h => by cases h), (fun _ h => by cases h), (fun _ h => by cases h)⟩
theorem NewM.mono {j k : Nat} {ec : Str → Option Addr} {x : Str} {sp : Spec} (h : NewM P w K mg base j ec x sp) (l : j ≤ k) : NewM P w K mg base k ec x sp := by
  obtain ⟨i, f, fd, ps, a, b⟩ := h
  exact ⟨i, f, fd, ps, by omega, b⟩
theorem MetM.mono {j k : Nat} {ec : Str → Option Addr} {C x : Str} {sp : Spec} (h : MetM P w K mg base j ec C x sp) (l : j ≤ k) : MetM P w K mg base k ec C x sp := by
  obtain ⟨f, fd, ps, a, b, c, d⟩ := h
  exact ⟨f, fd, ps, a, b, c, d.mono l⟩
theorem TT.mono {j k : Nat} {ec : Str → Option Addr} {T : Tabs} (t : TT P w K mg base ec j T) (l : j ≤ k) : TT P w K mg base ec k T :=
  ⟨fun p h => (t.fn p h).mono l, fun p h => (t.new p h).mono l, fun p h => (t.mt p h).mono l⟩
/-- a def of the text keeps its promise -/
theorem TT.one {fa : List He.Fa} {fn : List He.DefD} {k : Nat} {G : Gam} {T : Tabs} (b : Base K mg G) (t : TT P w K mg base G.ecls k T) (c : He.SaysD fa fn K) {d : He.DefD} (i : Nat) (hd : fn[i]? = some d)
    {N ps : List Str} {sp : Spec} {body : List C} {rs : List Str} (hdf : d.dfl = []) (hkw : d.kwd = []) (S : FnScope N ps d.scope) (rais : ∀ x ∈ rs, ∃ C, RaisK K mg G.ecls x C) (hm : mCs N d.scope rs body d.body = true)
    (hb : ∀ (dV kV doc pm : Value) (an : Option Addr) (cdv ct : Value) (us : List Value), us.length = ps.length → bindArgs (PySem.W.fnOf d.name d.qual d.params d.body d.scope .none kV doc pm an cdv ct) ⟨us, []⟩ = pure (ps.zip us))
    (h : Body (G.with T) N ps body sp) : ∃ fd, PySem.W.keepIn K (.ref (He.fAd K d.at_)) = true ∧ Binds K fd ps [] ∧ FnOk P w K mg base (L2.CX P w) (k + 1) (He.fAd K d.at_) fd ps (lSp K G.ecls sp) := by
  obtain ⟨fd, F⟩ := c.def_ i hd
  have e1 : d.dvs K = [] := by unfold He.DefD.dvs; rw [hdf]; rfl
  have e2 : d.kws K = [] := by unfold He.DefD.kws; rw [hkw]; rfl
  rw [e1, e2] at F
  exact ⟨fd, F.kp, F.bindsN fun kV doc pm an cdv ct us hl => hb .none kV doc pm an cdv ct us hl, defM (G := G.with T) F S (TT.gok b t) rais hm h b.rp⟩
/-- one def more -/
theorem TT.cons {fa : List He.Fa} {fn : List He.DefD} {k : Nat} {G : Gam} {T : Tabs} {h : Heap} (b : Base K mg G) (t : TT P w K mg base G.ecls k T) (c : He.SaysD fa fn K) (X : K.In h) (GG : h.Ns mainGlobals mg) {d : He.DefD} (i : Nat) (hd : fn[i]? = some d) (i2 : Nat) (hf : fa[i2]? = some (.glo d.name))
    {N ps : List Str} {sp : Spec} {body : List C} {rs : List Str} (hat : d.at_ = (d.name, none)) (hdf : d.dfl = []) (hkw : d.kwd = []) (S : FnScope N ps d.scope) (rais : ∀ x ∈ rs, ∃ C, RaisK K mg G.ecls x C) (hm : mCs N d.scope rs body d.body = true)
    (hb : ∀ (dV kV doc pm : Value) (an : Option Addr) (cdv ct : Value) (us : List Value), us.length = ps.length → bindArgs (PySem.W.fnOf d.name d.qual d.params d.body d.scope .none kV doc pm an cdv ct) ⟨us, []⟩ = pure (ps.zip us))
    (h : Body (G.with T) N ps body sp) : TT P w K mg base G.ecls (k + 1) { T with fn := (d.name, sp) :: T.fn } := by
  obtain ⟨fd, a1, a2, a3⟩ := TT.one b t c i hd hdf hkw S rais hm hb h
  have hg := He.glo_ok X GG (c.fact i2 hf)
  rw [hat] at a1 a3
  refine ⟨fun p hp => ?_, (t.mono (by omega)).new, (t.mono (by omega)).mt⟩
  rcases List.mem_cons.mp hp with rfl | hp
  · exact ⟨_, fd, ps, hg, a1, a2, a3⟩
  · exact (t.fn p hp).mono (by omega)
theorem TT.sub {ec : Str → Option Addr} {k : Nat} {T T' : Tabs} (t : TT P w K mg base ec k T) (h : ∀ p ∈ T'.fn, p ∈ T.fn) (h2 : T'.new = T.new) (h3 : T'.mt = T.mt) : TT P w K mg base ec k T' :=
  ⟨fun p hp => t.fn p (h p hp), fun p hp => t.new p (by rw [← h2]; exact hp), fun p hp => t.mt p (by rw [← h3]; exact hp)⟩
/-- one method more -/
theorem TT.meth {fa : List He.Fa} {fn : List He.DefD} {k : Nat} {G : Gam} {T : Tabs} (b : Base K mg G) (t : TT P w K mg base G.ecls k T) (c : He.SaysD fa fn K) {d : He.DefD} (i : Nat) (hd : fn[i]? = some d) {C m : Str} (i2 : Nat) (hf : fa[i2]? = some (.cls C)) (i3 : Nat) (hf3 : fa[i3]? = some (.meth C m))
    {N ps : List Str} {sp : Spec} {body : List M.C} {rs : List Str} (hat : d.at_ = (C, some m)) (hdf : d.dfl = []) (hkw : d.kwd = []) (S : FnScope N ps d.scope) (rais : ∀ x ∈ rs, ∃ C, RaisK K mg G.ecls x C) (hm : mCs N d.scope rs body d.body = true)
    (hb : ∀ (dV kV doc pm : Value) (an : Option Addr) (cdv ct : Value) (us : List Value), us.length = ps.length → bindArgs (PySem.W.fnOf d.name d.qual d.params d.body d.scope .none kV doc pm an cdv ct) ⟨us, []⟩ = pure (ps.zip us))
    (h : Body (G.with T) N ps body sp) : TT P w K mg base G.ecls (k + 1) { T with mt := ((C, m), sp) :: T.mt } := by
  obtain ⟨fd, a1, a2, a3⟩ := TT.one b t c i hd hdf hkw S rais hm hb h
  rw [hat] at a1 a3
  refine ⟨(t.mono (by omega)).fn, (t.mono (by omega)).new, fun p hp => ?_⟩
  rcases List.mem_cons.mp hp with rfl | hp
  · exact ⟨_, fd, ps, He.cls_ok (c.fact i2 hf), He.meth_ok (c.fact i3 hf3), a2, a3⟩
  · exact (t.mt p hp).mono (by omega)
end
def spLaw : Spec
  | [.ref p], S, Q, _ => (∃ ns : List Int, ns.length ≤ 63 ∧ rdL S p (ns.map .int)) ∧ Q (.bl true) S
  | _, _, _, _ => False
/-- no list stands among the module's own objects -/
def noL (K : PySem.W.Frag) : Bool := K.all fun p => match p.2.cls with
  | .type n => n != "list"
  | _ => true
theorem noL_at {K : PySem.W.Frag} {a : Addr} {o : Obj} (h : noL K = true) (e : K.lookup a = some o) (hc : o.cls = .type "list") : False := by
  have : ∀ {L : PySem.W.Frag}, noL L = true → L.lookup a = some o → False := by
    intro L
    induction L with
    | nil => intro _ e; cases e
    | cons p L ih =>
      intro h e
      unfold noL at h
      rw [List.all_cons, Bool.and_eq_true] at h
      obtain ⟨b, u⟩ := p
      rw [List.lookup_cons] at e
      split at e
      · cases e
        have z := h.1
        simp only [hc] at z
        simp at z
      · exact ih h.2 e
  exact this h e
end M

set_option maxHeartbeats 1000000
namespace M
open PySem PySem.Spec L2
local macro_rules | `(tactic| simp_wf) => `(tactic| simp only [wCs, w_asg, w_par, w_aug, w_ex, w_ret, w_retN, w_ite, w_brk, w_cnt, w_pass, w_rais, e_v, e_int, e_bl, e_non, e_str, e_g, e_bin, e_neg, e_cmp, e_chain, e_and, e_or, e_not, e_ife, e_tup, e_lst, e_ix, e_sl, e_rev, e_fld, e_call, e_new, e_meth, e_blt, e_mth, e_isi, e_isiT, e_dK0, e_dT0, e_dT1, e_revT, e_repr, e_ktup, e_lrng1, e_lrng2, e_lrev, e_trev, e_dix, e_dg1, e_dg2, e_dsd, e_dpop, e_din, wEs, wAndV, wOrV, wB, wAnd, wOr, wBs, wP, r_nm, r_tgT, r_tgQ, r_tgW, r_tgt, r_tgr, r_tgp, r_tgd, r_tgi, r_tgs, r_tgs0, wBin, wCmp,
  r_add_ii, r_add_ib, r_add_ss, r_add_tt, r_add_rr, r_sub_ii, r_mul_ii, r_mul_ri, r_mul_ti, r_div_ii, r_mod_ii, r_pow_ii, r_shl_ii, r_shr_ii, r_and_ii, r_xor_ii, r_int, r_is_n, r_is_b, r_tru_b, r_tru_i, r_tru_n, r_tru_t, r_tru_r, r_ix_t, r_ix_r, r_sl_t, r_sl_r, r_len_t, r_len_s, r_abs, r_min2, r_max2, r_int1, r_int1b, r_str1, r_list1, r_tuple1, r_tuple1t, r_tuple1p, r_len_p, r_sorted1t, r_ix_p, r_valD_p, r_ty_p, r_tindex, r_tyM_tindex, r_reverse, r_tyM_reverse, r_remove, r_tyM_remove, r_append, r_pop0, r_pop1, r_insert, r_extend, r_count, r_index, r_sum1, r_sorted1, r_tyM_pop1, r_tyM_insert, r_tyM_extend, r_tyM_count, r_tyM_index, r_fld, r_tgf, r_tyM_append, r_tyM_pop0, r_valD_t, r_valD_r, r_ty_n, r_ty_b, r_ty_i, r_ty_s, r_ty_t, r_is_non_int, r_is_non_bool, r_is_non_str, r_is_non_tuple, r_is_non_list, r_is_non_dict, r_is_bl_int, r_is_bl_bool, r_is_bl_str, r_is_bl_tuple, r_is_bl_list, r_is_bl_dict, r_is_int_int, r_is_int_bool, r_is_int_str, r_is_int_tuple, r_is_int_list, r_is_int_dict, r_is_str_int, r_is_str_bool, r_is_str_str, r_is_str_tuple, r_is_str_list, r_is_str_dict, r_is_ptup_int, r_is_ptup_bool, r_is_ptup_str, r_is_ptup_tuple, r_is_ptup_list, r_is_ptup_dict, r_is_tup_int, r_is_tup_bool, r_is_tup_str, r_is_tup_tuple, r_is_tup_list, r_is_tup_dict, isNon, r_W0, r_W1, r_T0, r_T1, r_T2, r_Q0, r_Q1, r_at0, r_at1, r_at2, r_at3, r_at4, r_at5, r_eq_ii, r_eq_bb,
  List.getElem?_cons_zero, List.getElem?_cons_succ, List.set_cons_zero, List.set_cons_succ, setAll, Option.some.injEq, Val.int.injEq, Val.bl.injEq, Val.tup.injEq, Val.ref.injEq, exists_eq_left', exists_eq_left, exists_eq_right, Bool.false_eq_true, if_true, if_false, List.isEmpty_nil, List.isEmpty_cons, true_and, and_true, ↓reduceIte, List.length_cons, List.length_nil, startL, List.map_cons, List.map_nil, Bool.not_true, Bool.not_false, Nat.reduceAdd, Nat.reduceSub, List.replicate, List.cons_append, List.nil_append, reduceCtorEq, false_and, exists_false, List.cons.injEq, Bool.false_xor, Bool.true_xor, wipeL, Int.reduceNeg, Int.cast_ofNat_Int, decide_true, decide_false, Int.reduceEq, decide_eq_true_eq, r_nd, r_sl0, r_sl1, r_sl2, r_sl3, r_sl4, r_sl5, r_sl6, r_sl7, r_sl8, r_sl9, r_sl10, r_sl11, r_sl12, r_sl13, r_sl14, r_sl15, r_sl16, r_sl17, r_sl18, r_sl19, r_sl20, r_sl21, r_sl22, r_sl23, r_sl24, decide_eq_false_iff_not, not_true_eq_false, not_false_eq_true, Int.not_lt, Int.not_le])
def relI : List Int → List Value → Bool
  | [], [] => true
  | i :: is, .int j _ :: us => decide (j = i) && relI is us
  | _, _ => false
def tupM (K : PySem.W.Frag) (p : Str × List Int) : Bool := match K.lookup (He.ga K p.1) with
  | some ⟨.type c, none, .seq its _, _⟩ => decide (c = "tuple") && (decide (its.size ≤ sizeLine) && relI p.2 its.toList)
  | _ => false
/-- what an object of the module names: code, a class's names, a dict's values -/
def refsS (o : Obj) : List Addr := (match o.dict with
  | some d => [d]
  | none => []) ++ match o.data with
  | .func fd => He.refV fd.code
  | .cls cd => [cd.ns]
  | .dict es _ => es.toList.flatMap fun e => He.refV e.val
  | _ => []
def stepS (g : Addr → Option Obj) (as : List Addr) : List Addr := as.flatMap fun a => match g a with
  | some o => refsS o
  | none => []
def asS (g : Addr → Option Obj) (n : Nat) : List Addr → List Addr
  | as => match n with
    | 0 => as
    | n + 1 => as ++ asS g n (stepS g as)
def frS (g : Addr → Option Obj) (n : Nat) : PySem.W.Frag := He.frG g (asS g n [mainGlobals])
/-- a law's script, each number of at most 2 ** 20 bits -/
def spLawB : Spec
  | [.ref p], S, Q, _ => (∃ ns : List Int, ns.length ≤ 63 ∧ (∀ n ∈ ns, bits n ≤ 1048576) ∧ rdL S p (ns.map .int)) ∧ Q (.bl true) S
  | _, _, _, _ => False
theorem law_spB {K : PySem.W.Frag} {ec : Str → Option Addr} (hK : noL K = true) {H : Hp} {a : Addr} {ns : List Int} (hl : ns.length ≤ 63) (hb : ∀ n ∈ ns, bits n ≤ 1048576) (h : SqL K H a (ns.map V.int)) : lSp K ec spLawB [.ref a] H (fun v _ => v = .bl true) (fun _ _ _ => False) := by
  rcases h with h | ⟨o, its, n, e, hc, _⟩
  · refine ⟨[.ref a], fun b => if b = a then some (.ro (ns.map .int)) else none, .cons (by simp only [RepV]) .nil, fun b o e => ?_, .mk ⟨⟨ns, hl, hb, .ro (if_pos rfl)⟩, fun H' z _ _ r => by simp only [RepV] at r; exact r⟩⟩
    dsimp only at e
    by_cases hb : b = a
    · subst hb
      rw [if_pos rfl] at e; cases e
      simp only [RepA]
      refine ⟨_, h, ?_⟩
      clear h hl hb
      induction ns with
      | nil => exact .nil
      | cons m ms ih => exact .cons (by simp only [RepV]) ih
    · rw [if_neg hb] at e; cases e
  · exact (noL_at hK e hc).elim
end M

set_option maxHeartbeats 1000000
namespace M
open PySem PySem.Spec L2
local macro_rules | `(tactic| simp_wf) => `(tactic| simp only [wCs, w_asg, w_par, w_aug, w_ex, w_ret, w_retN, w_ite, w_brk, w_cnt, w_pass, w_rais, e_v, e_int, e_bl, e_non, e_str, e_g, e_bin, e_neg, e_cmp, e_chain, e_and, e_or, e_not, e_ife, e_tup, e_lst, e_ix, e_sl, e_rev, e_fld, e_call, e_new, e_meth, e_blt, e_mth, e_isi, e_isiT, e_dK0, e_dT0, e_dT1, e_revT, e_repr, e_ktup, e_lrng1, e_lrng2, e_lrev, e_trev, e_dix, e_dg1, e_dg2, e_dsd, e_dpop, e_din, wEs, wAndV, wOrV, wB, wAnd, wOr, wBs, wP, r_nm, r_tgT, r_tgQ, r_tgW, r_tgt, r_tgr, r_tgp, r_tgd, r_tgi, r_tgs, r_tgs0, wBin, wCmp,
  r_add_ii, r_add_ib, r_add_ss, r_add_tt, r_add_rr, r_sub_ii, r_mul_ii, r_mul_ri, r_mul_ti, r_div_ii, r_mod_ii, r_pow_ii, r_shl_ii, r_shr_ii, r_and_ii, r_xor_ii, r_int, r_is_n, r_is_b, r_tru_b, r_tru_i, r_tru_n, r_tru_t, r_tru_r, r_ix_t, r_ix_r, r_sl_t, r_sl_r, r_len_t, r_len_s, r_abs, r_min2, r_max2, r_int1, r_int1b, r_bool1, r_str1, r_list1, r_tuple1, r_tuple1t, r_tuple1p, r_len_p, r_sorted1t, r_ix_p, r_valD_p, r_ty_p, r_tindex, r_tyM_tindex, r_reverse, r_tyM_reverse, r_remove, r_tyM_remove, r_append, r_pop0, r_pop1, r_insert, r_extend, r_count, r_index, r_sum1, r_sorted1, r_tyM_pop1, r_tyM_insert, r_tyM_extend, r_tyM_count, r_tyM_index, r_fld, r_tgf, r_tyM_append, r_tyM_pop0, r_valD_t, r_valD_r, r_ty_n, r_ty_b, r_ty_i, r_ty_s, r_ty_t, r_is_non_int, r_is_non_bool, r_is_non_str, r_is_non_tuple, r_is_non_list, r_is_non_dict, r_is_bl_int, r_is_bl_bool, r_is_bl_str, r_is_bl_tuple, r_is_bl_list, r_is_bl_dict, r_is_int_int, r_is_int_bool, r_is_int_str, r_is_int_tuple, r_is_int_list, r_is_int_dict, r_is_str_int, r_is_str_bool, r_is_str_str, r_is_str_tuple, r_is_str_list, r_is_str_dict, r_is_ptup_int, r_is_ptup_bool, r_is_ptup_str, r_is_ptup_tuple, r_is_ptup_list, r_is_ptup_dict, r_is_tup_int, r_is_tup_bool, r_is_tup_str, r_is_tup_tuple, r_is_tup_list, r_is_tup_dict, isNon, r_W0, r_W1, r_T0, r_T1, r_T2, r_Q0, r_Q1, r_at0, r_at1, r_at2, r_at3, r_at4, r_at5, r_eq_ii, r_eq_bb,
  List.getElem?_cons_zero, List.getElem?_cons_succ, List.set_cons_zero, List.set_cons_succ, setAll, Option.some.injEq, Val.int.injEq, Val.bl.injEq, Val.tup.injEq, Val.ref.injEq, exists_eq_left', exists_eq_left, exists_eq_right, Bool.false_eq_true, if_true, if_false, List.isEmpty_nil, List.isEmpty_cons, true_and, and_true, ↓reduceIte, List.length_cons, List.length_nil, startL, List.map_cons, List.map_nil, Bool.not_true, Bool.not_false, Nat.reduceAdd, Nat.reduceSub, List.replicate, List.cons_append, List.nil_append, reduceCtorEq, false_and, exists_false, List.cons.injEq, Bool.false_xor, Bool.true_xor, wipeL, Int.reduceNeg, Int.cast_ofNat_Int, decide_true, decide_false, Int.reduceEq, decide_eq_true_eq, r_nd, r_sl0, r_sl1, r_sl2, r_sl3, r_sl4, r_sl5, r_sl6, r_sl7, r_sl8, r_sl9, r_sl10, r_sl11, r_sl12, r_sl13, r_sl14, r_sl15, r_sl16, r_sl17, r_sl18, r_sl19, r_sl20, r_sl21, r_sl22, r_sl23, r_sl24, decide_eq_false_iff_not, not_true_eq_false, not_false_eq_true, Int.not_lt, Int.not_le])
inductive Xi where
  | own (x y : Str) (b : Bool)
  | blt (x : Str) (t : String) (b : Bool)
  deriving DecidableEq
def excD (K : PySem.W.Frag) (D : Addr) : Bool :=
  decide (PySem.W.findIn K (.ref D) "__getattribute__" = some (some (.builtin "BaseException.__getattribute__"))) && (decide (PySem.W.findIn K (.ref D) "__getattr__" = some none) &&
  (decide (PySem.W.subIn K (.ref D) (.type "BaseException") = some true) && (PySem.W.hasDictIn K D && (decide (PySem.W.findIn K (.ref D) "__class__" = some (some (.builtin "object.__class__"))) &&
  (decide (PySem.W.specialIn K (.builtin "object.__class__") "__get__" = some (some (.builtin "getset_descriptor.__get__"))) && (decide (PySem.W.takesIn K (.builtin "object.__class__") = some true) && decide (PySem.W.mroIn K D (.type "object") = some true)))))))
theorem excD_ok {K : PySem.W.Frag} {D : Addr} (h : excD K D = true) : ExcC K D := by
  unfold excD at h
  simp only [Bool.and_eq_true, decide_eq_true_eq] at h
  obtain ⟨a, b, c, d, e, f, g, i⟩ := h
  exact ⟨a, b, c, d, e, f, g, i⟩
def Xi.ok (K : PySem.W.Frag) : Xi → Bool
  | .own x y b => excD K (He.ga K x) && decide (PySem.W.kitOne K (.ref (He.ga K x)) (.ref (He.ga K y)) = some b)
  | .blt x t b => excD K (He.ga K x) && decide (PySem.W.kitOne K (.ref (He.ga K x)) (.type t) = some b)
def hookU (n : Nat) (fa : List He.Fa) (fn : List He.DefD) (tc : List (Str × List Int)) (xi : List Xi) : PySem.W.Hook where
  α := He.AlD × Bool
  obs := fun s => (He.obsD fa fn (frS s.heap.get? n), noL (frS s.heap.get? n) && (tc.all (tupM (frS s.heap.get? n)) && xi.all (Xi.ok (frS s.heap.get? n))))
  val := fun _ => (He.valD fn, true)
  says := fun _ h => ∃ K : PySem.W.Frag, K.In h ∧ He.SaysD fa fn K ∧ noL K = true ∧ (tc.all (tupM K) && xi.all (Xi.ok K)) = true
  of := fun _ _ e => ⟨_, He.frG_in, congrArg Prod.fst e, Bool.and_eq_true_iff.mp (congrArg Prod.snd e)⟩
  keeps := fun _ _ _ ⟨K, hK, c⟩ k => ⟨K, PySem.W.Frag.In.keeps hK k, c⟩
def obsU (n : Nat) (fa : List He.Fa) (fn : List He.DefD) (tc : List (Str × List Int)) (xi : List Xi) (s : PySem.W.SharedT) : He.AlD × Bool := (He.obsD fa fn (frS (HandSHeadRun.getT s) n), noL (frS (HandSHeadRun.getT s) n) && (tc.all (tupM (frS (HandSHeadRun.getT s) n)) && xi.all (Xi.ok (frS (HandSHeadRun.getT s) n))))
theorem obsU_eq {n : Nat} {fa : List He.Fa} {fn : List He.DefD} {tc : List (Str × List Int)} {xi : List Xi} (s : PySem.W.SharedT) : obsU n fa fn tc xi s = (hookU n fa fn tc xi).obs s.abs := by
  have e : HandSHeadRun.getT s = s.abs.heap.get? := funext (HandSHeadRun.getT_eq s)
  unfold obsU
  rw [e] <;> rfl
theorem law_U {l : PySem.W.OpenLaw} {k n : Nat} {q : Program} {loose : List Str} {XP : (Str → Option Value) → Heap → Prop} {d : DefRec} {x : Str} {fa : List He.Fa} {fn : List He.DefD} {tc : List (Str × List Int)} {xi : List Xi} (hm : l.most = some 63) (hd : d.params.defaults = []) (hr : Room k callerA)
    (F : ∀ (w : World) (mg : Str → Option Value) (f : Addr) (h : Heap) (K : PySem.W.Frag), K.In h → h.Ns mainGlobals mg → He.SaysD fa fn K → tc.all (tupM K) = true → xi.all (Xi.ok K) = true → mg d.name = some (.ref f) → ∃ (fd : FuncData) (ec : Str → Option Addr), (∀ (s : Shared) (us : List Value), us.length = 1 → BindsTo s fd ⟨us, []⟩ ([x].zip us)) ∧
      ∀ base : Heap, K.In base → base.Ns mainGlobals mg → FnOk l.prog w K mg base (L2.CX l.prog w) k f fd [x] (lSp K ec spLawB)) :
    PySem.W.WalkO q loose XP (hookU n fa fn tc xi).says l.row.toRowW d [] (fun f vs => PySem.call f vs) := by
  refine Att.attach_callB hm hd fun w s0 s1 mg mb f o pm cd doc a vs ns Gr Y ho hdo hcd hmg hobj hints hlen hbits hg => ?_
  obtain ⟨K, KX, c, nl, tq⟩ := Y
  obtain ⟨tq, xq⟩ := Bool.and_eq_true_iff.mp tq
  obtain ⟨fd, ec, hb, hF⟩ := F w mg f _ K KX Gr.T.g c tq xq hmg
  refine law_call (x := x) KX Gr.T.g Gr.T.b Gr.T.builtins Gr.T.nolimit hg hobj hints (Nat.le_trans hlen (by decide)) hr hF (fun s u => hb s [u] rfl) (fun H _ hS => law_spB nl hlen (fun n hn => hbits n hn) hS) fun H e s' z => ?_
  obtain ⟨_, _, _, _, _, _, _, _, _, _, _, _, z⟩ := z
  exact z.elim
end M

set_option maxHeartbeats 0
namespace MH
open M PySem PySem.Spec PyProof.Rows L2
def top (i : Nat) : Stmt := PySem.Challenge.pw_heavycut_k03_sides_and_weights.main.body.getD i (.Pass ⟨0, 0, 0, 0⟩)
def d_common_divisor : He.DefD := ⟨("common_divisor", none), "common_divisor", "common_divisor", defArgs (top 4), defBody (top 4), defScope (top 4), [], []⟩
def d_is_int : He.DefD := ⟨("is_int", none), "is_int", "is_int", defArgs (top 5), defBody (top 5), defScope (top 5), [], []⟩
def d_as_fraction : He.DefD := ⟨("as_fraction", none), "as_fraction", "as_fraction", defArgs (top 6), defBody (top 6), defScope (top 6), [], []⟩
def d_plus : He.DefD := ⟨("plus", none), "plus", "plus", defArgs (top 7), defBody (top 7), defScope (top 7), [], []⟩
def d_turned : He.DefD := ⟨("turned", none), "turned", "turned", defArgs (top 9), defBody (top 9), defScope (top 9), [], []⟩
def d_made_sideD : He.DefD := ⟨("made_side", none), "made_side", "made_side", defArgs (top 10), defBody (top 10), defScope (top 10), [], []⟩
def d_is_cut : He.DefD := ⟨("is_cut", none), "is_cut", "is_cut", defArgs (top 11), defBody (top 11), defScope (top 11), [], []⟩
def d_cut_ties : He.DefD := ⟨("cut_ties", none), "cut_ties", "cut_ties", defArgs (top 12), defBody (top 12), defScope (top 12), [], []⟩
def d_weight_of : He.DefD := ⟨("weight_of", none), "weight_of", "weight_of", defArgs (top 13), defBody (top 13), defScope (top 13), [], []⟩
def d_Lcell_at : He.DefD := ⟨("_law_cell_at", none), "_law_cell_at", "_law_cell_at", defArgs (top 15), defBody (top 15), defScope (top 15), [], []⟩
def d_LstreamA : He.DefD := ⟨("_law_stream", none), "_law_stream", "_law_stream", defArgs (top 16), defBody (top 16), defScope (top 16), [], []⟩
def d_Lnext : He.DefD := ⟨("_law_next", none), "_law_next", "_law_next", defArgs (top 17), defBody (top 17), defScope (top 17), [], []⟩
def d_Ldivisor : He.DefD := ⟨("_law_divisor", none), "_law_divisor", "_law_divisor", defArgs (top 18), defBody (top 18), defScope (top 18), [], []⟩
def d_Lfraction : He.DefD := ⟨("_law_fraction", none), "_law_fraction", "_law_fraction", defArgs (top 19), defBody (top 19), defScope (top 19), [], []⟩
def d_Lweight : He.DefD := ⟨("_law_weight", none), "_law_weight", "_law_weight", defArgs (top 20), defBody (top 20), defScope (top 20), [], []⟩
def d_Lweb : He.DefD := ⟨("_law_web", none), "_law_web", "_law_web", defArgs (top 21), defBody (top 21), defScope (top 21), [], []⟩
def d_Lsum : He.DefD := ⟨("_law_sum", none), "_law_sum", "_law_sum", defArgs (top 22), defBody (top 22), defScope (top 22), [], []⟩
def d_Lweight_of : He.DefD := ⟨("_law_weight_of", none), "_law_weight_of", "_law_weight_of", defArgs (top 23), defBody (top 23), defScope (top 23), [], []⟩
def d_Lis_none : He.DefD := ⟨("_law_is_none", none), "_law_is_none", "_law_is_none", defArgs (top 24), defBody (top 24), defScope (top 24), [], []⟩
def d_Lothers : He.DefD := ⟨("_law_others", none), "_law_others", "_law_others", defArgs (top 25), defBody (top 25), defScope (top 25), [], []⟩
def d_law : He.DefD := ⟨("law", none), "law", "law", defArgs (top 26), defBody (top 26), defScope (top 26), [], []⟩
def fn : List He.DefD := [d_common_divisor, d_is_int, d_as_fraction, d_plus, d_turned, d_made_sideD, d_is_cut, d_cut_ties, d_weight_of, d_Lcell_at, d_LstreamA, d_Lnext, d_Ldivisor, d_Lfraction, d_Lweight, d_Lweb, d_Lsum, d_Lweight_of, d_Lis_none, d_Lothers, d_law]
def fa : List He.Fa := [.glo "common_divisor", .glo "is_int", .glo "as_fraction", .glo "plus", .glo "turned", .glo "made_side", .glo "is_cut", .glo "cut_ties", .glo "weight_of", .glo "_law_cell_at", .glo "_law_stream", .glo "_law_next", .glo "_law_divisor", .glo "_law_fraction", .glo "_law_weight", .glo "_law_web", .glo "_law_sum", .glo "_law_weight_of", .glo "_law_is_none", .glo "_law_others", .glo "law", .free "len", .free "abs", .free "min", .free "max", .free "int", .free "str", .free "list", .free "tuple", .free "sorted", .free "set", .free "sum", .free "bool", .free "isinstance", .free "range", .free "zip", .free "enumerate", .free "reversed", .free "repr", .free "dict", .exc "NoSide", .glo "NoSide", .exm "NoSide" "NoSide" true, .glo "CutError", .free "ValueError"]
def nm0 : List Str := ["CutError", "NoSide", "common_divisor", "is_int", "as_fraction", "plus", "turned", "made_side", "is_cut", "cut_ties", "weight_of", "_law_cell_at", "_law_stream", "_law_next", "_law_divisor", "_law_fraction", "_law_weight", "_law_web", "_law_sum", "_law_weight_of"]
def nm1 : List Str := ["_law_is_none", "_law_others"]
def nms : List Str := nm0 ++ nm1
def xi : List Xi := [.own "NoSide" "CutError" true, .blt "NoSide" "ValueError" true]
def tc : List (Str × List Int) := []
abbrev R : PySem.W.OpenRow := PySem.W.OpenLaw.row PySem.Challenge.rw_heavycut_k03_sides_and_weights
theorem run (w : World) : HandSHeadRun.RunEq R (PySem.W.view R.prog [26]) (hookU 4 fa fn tc xi) (obsU 4 fa fn tc xi) 4000 nms w := by
  intro os
  kernel_rfl
end MH
set_option maxHeartbeats 200000

set_option maxHeartbeats 1000000
namespace M
open PySem PySem.Spec PyProof.Rows L2
theorem wCs_step {G : Gam} {c : C} {cs : List C} {D : En} {ρ : Loc} {S : Sto} (h : ∀ nx : Loc → Sto → Prop, nx = (fun ρ S => wCs G cs D ρ S) → wC G c { D with nx := nx } ρ S) : wCs G (c :: cs) D ρ S := by
  simp only [wCs]
  exact h _ rfl
theorem r_tgs {G : Gam} {X : XPost} {t : T} {ts : List T} {v : Val} {vs : List Val} {ρ : Loc} {S : Sto} {Q : Loc → Sto → Prop} : wTgs G X (t :: ts) (v :: vs) ρ S Q = wTg G X t v ρ S (fun ρ' S' => wTgs G X ts vs ρ' S' Q) := by
  simp only [wTgs, List.cons.injEq, eq_iff_iff]
  exact ⟨fun ⟨_, _, ⟨rfl, rfl⟩, q⟩ => q, fun q => ⟨_, _, ⟨rfl, rfl⟩, q⟩⟩
theorem r_tgs0 {G : Gam} {X : XPost} {ρ : Loc} {S : Sto} {Q : Loc → Sto → Prop} : wTgs G X [] [] ρ S Q = Q ρ S := by
  simp only [wTgs, true_and]
theorem r_nm {G : Gam} {X : XPost} {i : Nat} {v : Val} {ρ : Loc} {S : Sto} {Q : Loc → Sto → Prop} : wTg G X (.nm i) v ρ S Q = Q (ρ.set i (some v)) S := by simp only [wTg]
theorem r_tgt {G : Gam} {X : XPost} {ts : List T} {vs : List Val} {ρ : Loc} {S : Sto} {Q : Loc → Sto → Prop} : wTg G X (.tup ts) (.tup vs) ρ S Q = (vs.length = ts.length ∧ wTgs G X ts vs ρ S Q) := by
  simp only [wTg, valD, exists_eq_left]
theorem r_tgr {G : Gam} {X : XPost} {ts : List T} {p : Addr} {ρ : Loc} {S : Sto} {Q : Loc → Sto → Prop} : wTg G X (.tup ts) (.ref p) ρ S Q = ∃ vs, rdL S p vs ∧ vs.length = ts.length ∧ wTgs G X ts vs ρ S Q := by
  simp only [wTg, valD]
theorem r_tgf {G : Gam} {X : XPost} {a : E} {f : Str} {v : Val} {ρ : Loc} {S : Sto} {Q : Loc → Sto → Prop} : wTg G X (.fld a f) v ρ S Q = wE G X a ρ S fun o S1 => ∃ p C fs, o = .ref p ∧ S1 p = some (.ins C fs) ∧ G.fo C f = true ∧ fs.length < 1000 ∧ Q ρ (S1.upd p (.ins C (putV f v fs))) := by simp only [wTg]
theorem r_tgi {G : Gam} {X : XPost} {a i : E} {v : Val} {ρ : Loc} {S : Sto} {Q : Loc → Sto → Prop} : wTg G X (.ix a i) v ρ S Q = wE G X a ρ S fun o S1 => wE G X i ρ S1 fun k S2 => ∃ p xs j n, o = .ref p ∧ k = .int n ∧ S2 p = some (.lst xs) ∧ ixN xs.length n = some j ∧ Q ρ (S2.upd p (.lst (xs.set j v))) := by simp only [wTg]
/-- a for by an invariant of what is still to come -/
theorem forW_inv {keep : Sto → Prop} {turn : Val → Loc → Sto → En → Prop} {D : En} (I : List Val → Loc → Sto → Prop) (hk : ∀ r ρ S, I r ρ S → keep S) (hend : ∀ ρ S, I [] ρ S → D.nx ρ S)
    (hst : ∀ x r ρ S, I (x :: r) ρ S → ∀ D' : En, (∀ ρ S, I r ρ S → D'.nx ρ S) → (∀ ρ S, I r ρ S → D'.ct ρ S) → D'.rt = D.rt → D'.bk = D.nx → D'.xc = D.xc → turn x ρ S D') : ∀ xs ρ S, I xs ρ S → forW keep turn D xs ρ S
  | [], ρ, S, h => ⟨hk _ _ _ h, hend _ _ h⟩
  | x :: xs, ρ, S, h => ⟨hk _ _ _ h, hst x xs ρ S h _ (fun ρ S => forW_inv I hk hend hst xs ρ S) (fun ρ S => forW_inv I hk hend hst xs ρ S) rfl rfl rfl⟩
theorem compW_inv {keep : Sto → Prop} {turn : Val → Sto → (Option Val → Sto → Prop) → Prop} {Q : Post} (I : List Val → List Val → Sto → Prop) (hk : ∀ r acc S, I r acc S → keep S) (hend : ∀ acc S, I [] acc S → ∀ p, S p = none → Q (.ref p) (S.upd p (.lst acc)))
    (hst : ∀ x r acc S, I (x :: r) acc S → ∀ R : Option Val → Sto → Prop, (∀ S, I r acc S → R none S) → (∀ v S, I r (acc ++ [v]) S → acc.length < sizeLine → R (some v) S) → turn x S R) (hl : ∀ r acc S, I r acc S → acc.length < sizeLine) : ∀ xs acc S, I xs acc S → compW keep turn xs acc S Q
  | [], acc, S, h => ⟨hk _ _ _ h, hend _ _ h⟩
  | x :: xs, acc, S, h => ⟨hk _ _ _ h, hst x xs acc S h _ (fun S h => compW_inv I hk hend hst hl xs acc S h) fun v S h hla => ⟨hla, compW_inv I hk hend hst hl xs (acc ++ [v]) S h⟩⟩
theorem Sto.upd_eta {S : Sto} {p : Addr} {o : MO} (h : S p = some o) : S.upd p o = S := by
  funext a
  by_cases e : a = p
  · subst e; rw [Sto.upd_same, h]
  · rw [Sto.upd_ne e]
theorem Sto.upd_upd {S : Sto} {p : Addr} {o o' : MO} : (S.upd p o).upd p o' = S.upd p o' := by
  funext a
  by_cases e : a = p
  · subst e; rw [Sto.upd_same, Sto.upd_same]
  · rw [Sto.upd_ne e, Sto.upd_ne e, Sto.upd_ne e]
/-- a size in bits -/
def Sz (n : Nat) (i : Int) : Prop := i.natAbs < 2 ^ n
theorem Sz.mono {m n : Nat} {i : Int} (h : Sz m i) (l : m ≤ n) : Sz n i := Nat.lt_of_lt_of_le h (Nat.pow_le_pow_right (by decide) l)
theorem Sz.mul {m n : Nat} {i j : Int} (h : Sz m i) (h' : Sz n j) : Sz (m + n) (i * j) := by
  unfold Sz at *
  rw [Int.natAbs_mul, Nat.pow_add]
  exact Nat.mul_lt_mul'' h h'
theorem Sz.add {m n : Nat} {i j : Int} (h : Sz m i) (h' : Sz n j) : Sz (max m n + 1) (i + j) := by
  have a := h.mono (Nat.le_max_left m n)
  have b := h'.mono (Nat.le_max_right m n)
  unfold Sz at *
  have := Int.natAbs_add_le i j
  rw [Nat.pow_succ]
  omega
theorem Sz.neg {m : Nat} {i : Int} (h : Sz m i) : Sz m (-i) := by unfold Sz at *; rw [Int.natAbs_neg]; exact h
theorem Sz.sub {m n : Nat} {i j : Int} (h : Sz m i) (h' : Sz n j) : Sz (max m n + 1) (i - j) := by rw [Int.sub_eq_add_neg]; exact h.add h'.neg
theorem Sz.bits {m : Nat} {i : Int} (h : Sz m i) : bits i ≤ m := PyProof.Rows.intBits_le h
theorem Sz.mulOk {m n : Nat} {i j : Int} (h : Sz m i) (h' : Sz n j) (l : m + n ≤ 134217728) : MulOk i j := by
  have a := h.bits
  have b := h'.bits
  unfold MulOk; omega
theorem Sz.abs {m : Nat} {i : Int} (h : Sz m i) : Sz m (if i < 0 then -i else i) := by split; exact h.neg; exact h
theorem Sz.of_le {m : Nat} {i j : Int} (h : Sz m i) (l : j.natAbs ≤ i.natAbs) : Sz m j := Nat.lt_of_le_of_lt l h
theorem divOk_of {i j : Int} (h : j ≠ 0) (s : Sz 9000 j) : DivOk i j := by
  refine ⟨h, ?_⟩
  unfold Builtin.divisionGoesByPylong
  simp only [Bool.and_eq_false_iff, decide_eq_false_iff_not, Nat.not_lt]
  left
  split
  · exact Nat.zero_le _
  · rename_i hj
    have hn : j.natAbs ≠ 0 := by omega
    have : j.natAbs.log2 < 9000 := (Nat.log2_lt hn).mpr s
    omega
theorem divOk_s {i j : Int} (h : 0 < j) (hs : j < 2 ^ 31) : DivOk i j := divOk_of (by omega) (Sz.mono (m := 31) (show j.natAbs < 2 ^ 31 by omega) (by decide))
theorem idiv_pos {i j : Int} (h : 0 < j) : idiv i j = i / j := by unfold idiv; rw [if_pos h]
theorem imod_pos {i j : Int} (h : 0 < j) : imod i j = i % j := by unfold imod; rw [if_pos h]
/-- a call's promise where it is met as it stands -/
theorem app.of {sp : Spec} {vs : List Val} {S : Sto} {Q : Post} {X : XPost} (h : sp vs S Q X) : app sp vs S Q X := .mk h
section
variable {S : Sto} {Q : Post} {i j : Int} {a b : Bool} {x y : Str} {xs ys vs : List Val} {p q : Addr} {v : Val} {n : Bool}
theorem r_add_ii : bAdd (.int i) (.int j) S Q = Q (.int (i + j)) S := rfl
theorem r_add_ib : bAdd (.int i) (.bl b) S Q = Q (.int (i + b2i b)) S := rfl
theorem r_add_ss : bAdd (.str x) (.str y) S Q = (x.length + y.length ≤ sizeLine ∧ Q (.str (x ++ y)) S) := rfl
theorem r_add_tt : bAdd (.tup xs) (.tup ys) S Q = (xs.length + ys.length ≤ sizeLine ∧ Q (.tup (xs ++ ys)) S) := rfl
theorem r_add_rr : bAdd (.ref p) (.ref q) S Q = (∃ xs ys, S p = some (.lst xs) ∧ S q = some (.lst ys) ∧ xs.length + ys.length ≤ sizeLine ∧ ∀ p, S p = none → Q (.ref p) (S.upd p (.lst (xs ++ ys)))) := rfl
theorem r_sub_ii : bSub (.int i) (.int j) S Q = Q (.int (i - j)) S := rfl
theorem r_mul_ii : bMul (.int i) (.int j) S Q = (MulOk i j ∧ Q (.int (i * j)) S) := rfl
theorem r_mul_ri : bMul (.ref p) (.int j) S Q = (∃ xs, S p = some (.lst xs) ∧ -(2 ^ 63) ≤ j ∧ j < 2 ^ 63 ∧ xs.length * j.toNat ≤ sizeLine ∧ ∀ p, S p = none → Q (.ref p) (S.upd p (.lst (List.replicate j.toNat xs).flatten))) := rfl
theorem r_mul_ti : bMul (.tup xs) (.int j) S Q = (1 ≤ j ∧ j ≤ 1000 ∧ xs.length ≤ 1000 ∧ Q (.tup (List.replicate j.toNat xs).flatten) S) := rfl
theorem r_div_ii : bDiv (.int i) (.int j) S Q = (DivOk i j ∧ Q (.int (idiv i j)) S) := rfl
theorem r_mod_ii : bMod (.int i) (.int j) S Q = (j ≠ 0 ∧ Q (.int (imod i j)) S) := rfl
theorem r_pow_ii : bPow (.int i) (.int j) S Q = ((0 ≤ j ∧ j ≤ 1000000 ∧ i.natAbs < 2 ^ 64) ∧ Q (.int (i ^ j.toNat)) S) := rfl
theorem r_shl_ii : bShl (.int i) (.int j) S Q = ((0 ≤ j ∧ (bits i : Int) + j ≤ 2 ^ 27) ∧ Q (.int (i * 2 ^ j.toNat)) S) := rfl
theorem r_shr_ii : bShr (.int i) (.int j) S Q = (0 ≤ j ∧ Q (.int (i / 2 ^ j.toNat)) S) := rfl
theorem r_and_ii : bAnd (.int i) (.int j) S Q = Q (.int (Builtin.bitAnd i j)) S := rfl
theorem r_xor_ii : bXor (.int i) (.int j) S Q = Q (.int (Builtin.bitXor i j)) S := rfl
theorem r_int {f : Int → Int → Bool} : cInt f (.int i) (.int j) S Q = Q (.bl (f i j)) S := rfl
theorem r_is_n : cIs n v .non S Q = Q (.bl (n ^^ isNon v)) S := by cases v <;> rfl
theorem r_is_b : cIs n (.bl a) (.bl b) S Q = Q (.bl (n ^^ decide (a = b))) S := rfl
theorem r_tru_b {Q : Bool → Sto → Prop} : wTru (.bl b) S Q = Q b S := rfl
theorem r_tru_i {Q : Bool → Sto → Prop} : wTru (.int i) S Q = Q (i != 0) S := rfl
theorem r_tru_n {Q : Bool → Sto → Prop} : wTru .non S Q = Q false S := rfl
theorem r_tru_t {Q : Bool → Sto → Prop} : wTru (.tup xs) S Q = Q (!xs.isEmpty) S := rfl
theorem r_tru_r {Q : Bool → Sto → Prop} : wTru (.ref p) S Q = ∃ xs, rdL S p xs ∧ Q (!xs.isEmpty) S := rfl
theorem r_ix_t : vIx (.tup xs) (.int i) S Q = ∃ v, atI xs i = some v ∧ Q v S := rfl
theorem r_ix_r : vIx (.ref p) (.int i) S Q = ∃ xs v, rdL S p xs ∧ atI xs i = some v ∧ Q v S := rfl
theorem r_sl_t {lo hi : Option Int} : vSl (.tup xs) lo hi S Q = Q (.tup (cut xs lo hi)) S := rfl
theorem r_sl_r {lo hi : Option Int} : vSl (.ref p) lo hi S Q = ∃ xs, rdL S p xs ∧ ∀ p, S p = none → Q (.ref p) (S.upd p (.lst (cut xs lo hi))) := rfl
theorem r_len_t : wBlt .len [.tup xs] S Q = Q (.int xs.length) S := rfl
theorem r_len_l (h : S p = some (.lst xs)) : wBlt .len [.ref p] S Q = Q (.int xs.length) S := by simp only [wBlt, h]
theorem r_len_o (h : S p = some (.ro xs)) : wBlt .len [.ref p] S Q = Q (.int xs.length) S := by simp only [wBlt, h]
theorem r_len_s : wBlt .len [.str x] S Q = (x.length ≤ sizeLine ∧ Q (.int x.length) S) := rfl
theorem r_len {p : Addr} (h : rdL S p xs) : wBlt .len [.ref p] S Q = Q (.int xs.length) S := by rcases h.cases with e | e; exact r_len_l e; exact r_len_o e
theorem r_abs : wBlt .abs [.int i] S Q = Q (.int (if i < 0 then -i else i)) S := rfl
theorem r_min2 : wBlt .min2 [.int i, .int j] S Q = Q (.int (if j < i then j else i)) S := rfl
theorem r_max2 : wBlt .max2 [.int i, .int j] S Q = Q (.int (if j > i then j else i)) S := rfl
theorem r_int1 : wBlt .int1 [.int i] S Q = Q (.int i) S := rfl
theorem r_int1b : wBlt .int1 [.bl b] S Q = Q (.int (if b then 1 else 0)) S := rfl
theorem r_bool1 : wBlt .bool1 [.int i] S Q = Q (.bl (i != 0)) S := rfl
theorem r_str1 : wBlt .str1 [.int i] S Q = (i.natAbs.log2 < 1920 ∧ Q (.str (toString i)) S) := rfl
theorem r_list1 : wBlt .list1 [v] S Q = ∃ xs, valD S v xs ∧ ∀ p, S p = none → Q (.ref p) (S.upd p (.lst xs)) := rfl
theorem r_tuple1 : wBlt .tuple1 [.ref p] S Q = ∃ xs, rdL S p xs ∧ Q (.tup xs) S := rfl
theorem r_tuple1t : wBlt .tuple1 [.tup xs] S Q = Q (.tup xs) S := rfl
theorem r_tuple1p : wBlt .tuple1 [.ptup xs] S Q = Q (.ptup xs) S := rfl
theorem r_len_p : wBlt .len [.ptup xs] S Q = Q (.int xs.length) S := rfl
theorem r_sorted1t : wBlt .sorted1 [.tup xs] S Q = ∃ ns : List Int, xs = ns.map .int ∧ ∀ ns' : List Int, ns'.Perm ns → ns'.Pairwise (· ≤ ·) → ∀ p, S p = none → Q (.ref p) (S.upd p (.lst (ns'.map .int))) := rfl
theorem r_ix_p : vIx (.ptup xs) (.int i) S Q = ∃ v, atI xs i = some v ∧ Q v S := rfl
theorem r_valD_p : valD S (.ptup xs) ys = (ys = xs) := rfl
theorem r_ty_p : tyName (.ptup xs) S = some "tuple" := rfl
theorem r_join {x : Str} : wMth .join (.str x) [.ref p] S Q = ∃ ys : List Str, rdL S p (ys.map .str) ∧ (ys.map (·.length)).sum + ys.length * x.length ≤ 16777216 ∧ Q (.str (Txt.join x ys)) S := rfl
theorem r_tyM_join {x : Str} : tyM .join (.str x) S = True := rfl
theorem r_tindex : wMth .tindex (.tup xs) [.int i] S Q = ∃ (ns : List Int) (j : Nat), xs = ns.map .int ∧ ns[j]? = some i ∧ (∀ m : Nat, m < j → ns[m]? ≠ some i) ∧ Q (.int j) S := rfl
theorem r_tyM_tindex : tyM .tindex (.tup xs) S = True := rfl
theorem r_reverse : wMth .reverse (.ref p) [] S Q = ∃ xs, S p = some (.lst xs) ∧ Q .non (S.upd p (.lst xs.reverse)) := rfl
theorem r_tyM_reverse : tyM .reverse (.ref p) S = ∃ xs, rdL S p xs := rfl
theorem r_remove : wMth .remove (.ref p) [.int i] S Q = ∃ (ns : List Int) (j : Nat), S p = some (.lst (ns.map .int)) ∧ ns[j]? = some i ∧ (∀ m : Nat, m < j → ns[m]? ≠ some i) ∧ Q .non (S.upd p (.lst ((ns.eraseIdx j).map .int))) := rfl
theorem r_tyM_remove : tyM .remove (.ref p) S = ∃ xs, rdL S p xs := rfl
theorem r_append : wMth .append (.ref p) [v] S Q = ∃ xs, S p = some (.lst xs) ∧ xs.length < sizeLine ∧ Q .non (S.upd p (.lst (xs ++ [v]))) := rfl
theorem r_pop0 : wMth .pop0 (.ref p) [] S Q = ∃ xs v, S p = some (.lst xs) ∧ xs.getLast? = some v ∧ Q v (S.upd p (.lst xs.dropLast)) := rfl
theorem r_pop1 : wMth .pop1 (.ref p) [.int i] S Q = ∃ xs v, S p = some (.lst xs) ∧ 0 ≤ i ∧ i < 2 ^ 62 ∧ xs[i.toNat]? = some v ∧ Q v (S.upd p (.lst (xs.eraseIdx i.toNat))) := rfl
theorem r_insert : wMth .insert (.ref p) [.int i, v] S Q = ∃ xs, S p = some (.lst xs) ∧ xs.length < sizeLine ∧ 0 ≤ i ∧ i < 2 ^ 62 ∧ Q .non (S.upd p (.lst (xs.take i.toNat ++ [v] ++ xs.drop i.toNat))) := rfl
theorem r_extend : wMth .extend (.ref p) [.ref q] S Q = ∃ xs ys, S p = some (.lst xs) ∧ S q = some (.lst ys) ∧ xs.length + ys.length ≤ sizeLine ∧ Q .non (S.upd p (.lst (xs ++ ys))) := rfl
theorem r_count : wMth .count (.ref p) [.int i] S Q = ∃ ns : List Int, rdL S p (ns.map .int) ∧ Q (.int (ns.count i : Nat)) S := rfl
theorem r_index : wMth .index (.ref p) [.int i] S Q = ∃ (ns : List Int) (j : Nat), rdL S p (ns.map .int) ∧ ns[j]? = some i ∧ (∀ m : Nat, m < j → ns[m]? ≠ some i) ∧ Q (.int j) S := rfl
theorem r_sum1 : wBlt .sum1 [.ref p] S Q = ∃ ns : List Int, rdL S p (ns.map .int) ∧ Q (.int ns.sum) S := rfl
theorem r_sorted1 : wBlt .sorted1 [.ref p] S Q = ∃ ns : List Int, rdL S p (ns.map .int) ∧ ∀ ns' : List Int, ns'.Perm ns → ns'.Pairwise (· ≤ ·) → ∀ p, S p = none → Q (.ref p) (S.upd p (.lst (ns'.map .int))) := rfl
theorem r_tyM_pop1 : tyM .pop1 (.ref p) S = ∃ xs, rdL S p xs := rfl
theorem r_tyM_insert : tyM .insert (.ref p) S = ∃ xs, rdL S p xs := rfl
theorem r_tyM_extend : tyM .extend (.ref p) S = ∃ xs, rdL S p xs := rfl
theorem r_tyM_count : tyM .count (.ref p) S = ∃ xs, rdL S p xs := rfl
theorem r_tyM_index : tyM .index (.ref p) S = ∃ xs, rdL S p xs := rfl
theorem r_fld {fo : Str → Str → Bool} {f : Str} : vFld fo f (.ref p) S Q = ∃ C fs v, S p = some (.ins C fs) ∧ fo C f = true ∧ fs.lookup f = some v ∧ Q v S := rfl
theorem r_tyM_append : tyM .append (.ref p) S = ∃ xs, rdL S p xs := rfl
theorem r_tyM_pop0 : tyM .pop0 (.ref p) S = ∃ xs, rdL S p xs := rfl
theorem r_valD_t : valD S (.tup xs) ys = (ys = xs) := rfl
theorem r_valD_r : valD S (.ref p) ys = rdL S p ys := rfl
theorem r_ty_n : tyName .non S = some "NoneType" := rfl
theorem r_ty_b : tyName (.bl b) S = some "bool" := rfl
theorem r_ty_i : tyName (.int i) S = some "int" := rfl
theorem r_ty_s : tyName (.str x) S = some "str" := rfl
theorem r_ty_t : tyName (.tup xs) S = some "tuple" := rfl
end
theorem atI_nat {α : Type} (xs : List α) (n : Nat) : atI xs (n : Int) = xs[n]? := by
  unfold L2.atI L2.ixN
  rw [if_pos (Int.natCast_nonneg n)]
  split
  · simp
  · rename_i h
    rw [List.getElem?_eq_none (by omega)]; rfl
section
variable {α : Type} {a b c d e f : α} {xs : List α}
theorem r_at0 : atI (a :: xs) 0 = some a := atI_nat _ 0
theorem r_at1 : atI (a :: b :: xs) 1 = some b := atI_nat _ 1
theorem r_at2 : atI (a :: b :: c :: xs) 2 = some c := atI_nat _ 2
theorem r_at3 : atI (a :: b :: c :: d :: xs) 3 = some d := atI_nat _ 3
theorem r_at4 : atI (a :: b :: c :: d :: e :: xs) 4 = some e := atI_nat _ 4
theorem r_at5 : atI (a :: b :: c :: d :: e :: f :: xs) 5 = some f := atI_nat _ 5
end
section
variable {G : Gam} {t : T} {p : List C} {D : En} {ρ : Loc} {S S1 S2 : Sto} {a b : E}
/-- one turn of a for -/
def Turn (G : Gam) (t : T) (p : List C) (D : En) (I : List Val → Loc → Sto → Prop) : Prop := ∀ x r ρ S, I (x :: r) ρ S → ∀ D' : En, (∀ ρ S, I r ρ S → D'.nx ρ S) → (∀ ρ S, I r ρ S → D'.ct ρ S) → D'.rt = D.rt → D'.bk = D.nx → D'.xc = D.xc → wTg G noX t x ρ S fun ρ2 S3 => wCs G p D' ρ2 S3
theorem loop_rng1 {j : Int} (I : List Val → Loc → Sto → Prop) (ha : ∀ Q : Post, Q (.int j) S1 → wE G (fun c S => D.xc c ρ S) a ρ S Q) (hj : small62 j) (h0 : I (rngV 0 j.toNat) ρ S1) (hend : ∀ ρ S, I [] ρ S → D.nx ρ S) (hst : Turn G t p D I) : wC G (.loop t (.rng1 a) p) D ρ S := by
  simp only [wC, wI]
  exact ha _ ⟨j, rfl, hj, forW_inv I (fun _ _ _ _ => trivial) hend hst _ _ _ h0⟩
theorem loop_rng2 {i j : Int} (I : List Val → Loc → Sto → Prop) (ha : ∀ Q : Post, Q (.int i) S1 → wE G (fun c S => D.xc c ρ S) a ρ S Q) (hb : ∀ Q : Post, Q (.int j) S2 → wE G (fun c S => D.xc c ρ S) b ρ S1 Q) (hi : small62 i) (hj : small62 j) (h0 : I (rngV i (j - i).toNat) ρ S2) (hend : ∀ ρ S, I [] ρ S → D.nx ρ S) (hst : Turn G t p D I) : wC G (.loop t (.rng2 a b) p) D ρ S := by
  simp only [wC, wI]
  exact ha _ (hb _ ⟨i, j, rfl, rfl, hi, hj, forW_inv I (fun _ _ _ _ => trivial) hend hst _ _ _ h0⟩)
theorem loop_tup {xs : List Val} (I : List Val → Loc → Sto → Prop) (ha : ∀ Q : Post, Q (.tup xs) S1 → wE G (fun c S => D.xc c ρ S) a ρ S Q) (h0 : I xs ρ S1) (hend : ∀ ρ S, I [] ρ S → D.nx ρ S) (hst : Turn G t p D I) : wC G (.loop t (.val a) p) D ρ S := by
  simp only [wC, wI]
  exact ha _ (forW_inv I (fun _ _ _ _ => trivial) hend hst _ _ _ h0)
theorem loop_list {q : Addr} {xs : List Val} (I : List Val → Loc → Sto → Prop) (ha : ∀ Q : Post, Q (.ref q) S1 → wE G (fun c S => D.xc c ρ S) a ρ S Q) (hr : rdL S1 q xs) (hk : ∀ r ρ S, I r ρ S → rdL S q xs) (h0 : I xs ρ S1) (hend : ∀ ρ S, I [] ρ S → D.nx ρ S) (hst : Turn G t p D I) : wC G (.loop t (.val a) p) D ρ S := by
  simp only [wC, wI]
  exact ha _ ⟨xs, hr, forW_inv I hk hend hst _ _ _ h0⟩
/-- one turn of a comprehension -/
def CTurn (G : Gam) (own : List Nat) (t : T) (ifs : List B) (e : E) (ρ : Loc) (I : List Val → List Val → Sto → Prop) : Prop := ∀ x r acc S, I (x :: r) acc S → ∀ R : Option Val → Sto → Prop, (∀ S, I r acc S → R none S) → (∀ v S, I r (acc ++ [v]) S → acc.length < sizeLine → R (some v) S) →
  wTg G noX t x (wipeL ρ own) S fun ρ' S3 => wBs G noX ifs ρ' S3 fun k S4 => if k = true then wE G noX e ρ' S4 fun v S5 => R (some v) S5 else R none S4
variable {own : List (Str × Nat)} {ifs : List B} {e : E} {Q : Post} {X : XPost}
theorem lc_rng1 {j : Int} (I : List Val → List Val → Sto → Prop) (ha : ∀ Q : Post, Q (.int j) S1 → wE G X a ρ S Q) (hj : small62 j) (h0 : I (rngV 0 j.toNat) [] S1) (hl : ∀ r acc S, I r acc S → acc.length < sizeLine) (hend : ∀ acc S, I [] acc S → ∀ p, S p = none → Q (.ref p) (S.upd p (.lst acc))) (hst : CTurn G (own.map (·.2)) t ifs e ρ I) : wE G X (.lc own t (.rng1 a) ifs e) ρ S Q := by
  simp only [wE, wI]
  exact ha _ ⟨j, rfl, hj, compW_inv I (fun _ _ _ _ => trivial) hend hst hl _ _ _ h0⟩
theorem lc_tup {xs : List Val} (I : List Val → List Val → Sto → Prop) (ha : ∀ Q : Post, Q (.tup xs) S1 → wE G X a ρ S Q) (h0 : I xs [] S1) (hl : ∀ r acc S, I r acc S → acc.length < sizeLine) (hend : ∀ acc S, I [] acc S → ∀ p, S p = none → Q (.ref p) (S.upd p (.lst acc))) (hst : CTurn G (own.map (·.2)) t ifs e ρ I) : wE G X (.lc own t (.val a) ifs e) ρ S Q := by
  simp only [wE, wI]
  exact ha _ (compW_inv I (fun _ _ _ _ => trivial) hend hst hl _ _ _ h0)
theorem lc_list {q : Addr} {xs : List Val} (I : List Val → List Val → Sto → Prop) (ha : ∀ Q : Post, Q (.ref q) S1 → wE G X a ρ S Q) (hr : rdL S1 q xs) (hk : ∀ r acc S, I r acc S → rdL S q xs) (h0 : I xs [] S1) (hl : ∀ r acc S, I r acc S → acc.length < sizeLine) (hend : ∀ acc S, I [] acc S → ∀ p, S p = none → Q (.ref p) (S.upd p (.lst acc))) (hst : CTurn G (own.map (·.2)) t ifs e ρ I) : wE G X (.lc own t (.val a) ifs e) ρ S Q := by
  simp only [wE, wI]
  exact ha _ ⟨xs, hr, compW_inv I hk hend hst hl _ _ _ h0⟩
end
theorem rngV_mem {lo : Int} {n : Nat} {x : Val} (h : x ∈ rngV lo n) : ∃ k : Int, x = .int k ∧ lo ≤ k ∧ k < lo + n := by
  unfold rngV at h
  obtain ⟨i, hi, rfl⟩ := List.mem_map.mp h
  have := List.mem_range.mp hi
  exact ⟨_, rfl, by omega, by omega⟩
theorem rngV_len {lo : Int} {n : Nat} : (rngV lo n).length = n := by unfold rngV; simp
section
variable {G : Gam} {X : XPost} {D : En} {ρ : Loc} {S : Sto} {Q : Post}
theorem w_asg {t : T} {e : E} : wC G (.asg t e) D ρ S = (wE G (fun c S => D.xc c ρ S) e ρ S fun v S1 => wTg G noX t v ρ S1 D.nx) := by simp only [wC]
theorem w_par {is : List Nat} {es : List E} : wC G (.par is es) D ρ S = (wEs G (fun c S => D.xc c ρ S) es ρ S fun vs S1 => D.nx (setAll ρ is vs) S1) := by simp only [wC]
theorem w_aug {i : Nat} {op : Operator} {e : E} : wC G (.aug i op e) D ρ S = (∃ v, ρ[i]? = some (some v) ∧ wE G (fun c S => D.xc c ρ S) e ρ S fun w S1 => wAug op v w S1 fun r S2 => D.nx (ρ.set i (some r)) S2) := by simp only [wC]
theorem w_ex {e : E} : wC G (.ex e) D ρ S = (wE G (fun c S => D.xc c ρ S) e ρ S fun _ S1 => D.nx ρ S1) := by simp only [wC]
theorem w_ret {e : E} : wC G (.ret e) D ρ S = (wE G (fun c S => D.xc c ρ S) e ρ S D.rt) := by simp only [wC]
theorem w_retN  : wC G .retN D ρ S = (D.rt .non S) := by simp only [wC]
theorem w_ite {c : B} {p : List C} {q : List C} : wC G (.ite c p q) D ρ S = (wB G (fun c S => D.xc c ρ S) c ρ S fun k S1 => if k = true then wCs G p D ρ S1 else wCs G q D ρ S1) := by simp only [wC]
theorem w_brk  : wC G .brk D ρ S = (D.bk ρ S) := by simp only [wC]
theorem w_cnt  : wC G .cnt D ρ S = (D.ct ρ S) := by simp only [wC]
theorem w_pass  : wC G .pass D ρ S = (D.nx ρ S) := by simp only [wC]
theorem w_rais {x : Str} : wC G (.rais x) D ρ S = (D.xc x ρ S) := by simp only [wC]
theorem e_v {i : Nat} : wE G X (.v i) ρ S Q = (∃ v, ρ[i]? = some (some v) ∧ Q v S) := by simp only [wE]
theorem e_int {i : Int} : wE G X (.int i) ρ S Q = (Q (.int i) S) := by simp only [wE]
theorem e_bl {b : Bool} : wE G X (.bl b) ρ S Q = (Q (.bl b) S) := by simp only [wE]
theorem e_non  : wE G X .non ρ S Q = (Q .non S) := by simp only [wE]
theorem e_str {x : Str} : wE G X (.str x) ρ S Q = (Q (.str x) S) := by simp only [wE]
theorem e_g {x : Str} : wE G X (.g x) ρ S Q = (∃ v, G.cst x = some v ∧ Q v S) := by simp only [wE]
theorem e_bin {op : Operator} {a : E} {b : E} : wE G X (.bin op a b) ρ S Q = (wE G X a ρ S fun v S1 => wE G X b ρ S1 fun w S2 => wBin op v w S2 Q) := by simp only [wE]
theorem e_neg {a : E} : wE G X (.neg a) ρ S Q = (wE G X a ρ S fun v S1 => ∃ i, v = .int i ∧ Q (.int (-i)) S1) := by simp only [wE]
theorem e_cmp {op : CmpOp} {a : E} {b : E} : wE G X (.cmp op a b) ρ S Q = (wE G X a ρ S fun v S1 => wE G X b ρ S1 fun w S2 => wCmp op v w S2 Q) := by simp only [wE]
theorem e_chain {op : CmpOp} {op' : CmpOp} {a : E} {b : E} {c : E} : wE G X (.chain op op' a b c) ρ S Q = (wE G X a ρ S fun v S1 => wE G X b ρ S1 fun w S2 => wCmp op v w S2 fun r S3 => ∃ k, r = .bl k ∧ if k = true then wE G X c ρ S3 fun u S4 => wCmp op' w u S4 Q else Q (.bl false) S3) := by simp only [wE]
theorem e_and {es : List E} : wE G X (.and es) ρ S Q = (wAndV G X es ρ S Q) := by simp only [wE]
theorem e_or {es : List E} : wE G X (.or es) ρ S Q = (wOrV G X es ρ S Q) := by simp only [wE]
theorem e_not {a : E} : wE G X (.not a) ρ S Q = (wE G X a ρ S fun v S1 => ∃ b, v = .bl b ∧ Q (.bl (!b)) S1) := by simp only [wE]
theorem e_ife {t : B} {a : E} {b : E} : wE G X (.ife t a b) ρ S Q = (wB G X t ρ S fun k S1 => if k = true then wE G X a ρ S1 Q else wE G X b ρ S1 Q) := by simp only [wE]
theorem e_tup {es : List E} : wE G X (.tup es) ρ S Q = (wEs G X es ρ S fun vs S1 => vs.length ≤ sizeLine ∧ Q (.tup vs) S1) := by simp only [wE]
theorem e_lst {es : List E} : wE G X (.lst es) ρ S Q = (wEs G X es ρ S fun vs S1 => vs.length ≤ sizeLine ∧ ∀ p, S1 p = none → Q (.ref p) (S1.upd p (.lst vs))) := by simp only [wE]
theorem e_ix {a : E} {i : E} : wE G X (.ix a i) ρ S Q = (wE G X a ρ S fun v S1 => wE G X i ρ S1 fun w S2 => vIx v w S2 Q) := by simp only [wE]
theorem e_sl {a : E} {lo : P} {hi : P} : wE G X (.sl a lo hi) ρ S Q = (wE G X a ρ S fun v S1 => wP G X lo ρ S1 fun l S2 => wP G X hi ρ S2 fun h S3 => vSl v l h S3 Q) := by simp only [wE]
theorem e_rev {a : E} : wE G X (.rev a) ρ S Q = (wE G X a ρ S fun v S1 => ∃ a xs, v = .ref a ∧ rdL S1 a xs ∧ ∀ p, S1 p = none → Q (.ref p) (S1.upd p (.lst xs.reverse))) := by simp only [wE]
theorem e_fld {a : E} {f : Str} : wE G X (.fld a f) ρ S Q = (wE G X a ρ S fun v S1 => vFld G.fo f v S1 Q) := by simp only [wE]
theorem e_call {f : Str} {es : List E} : wE G X (.call f es) ρ S Q = (∃ sp, G.fn f = some sp ∧ wEs G X es ρ S fun vs S1 => app sp vs S1 Q X) := by simp only [wE]
theorem e_new {C : Str} {es : List E} : wE G X (.new C es) ρ S Q = (∃ sp, G.new C = some sp ∧ wEs G X es ρ S fun vs S1 => ∀ p, S1 p = none → app sp (.ref p :: vs) (S1.upd p (.ins C [])) (fun r S2 => r = .non ∧ Q (.ref p) S2) noX) := by simp only [wE]
theorem e_meth {o : E} {m : Str} {es : List E} : wE G X (.meth o m es) ρ S Q = (wE G X o ρ S fun v S1 => ∃ a C fs sp, v = .ref a ∧ S1 a = some (.ins C fs) ∧ fs.lookup m = none ∧ G.mt C m = some sp ∧ wEs G X es ρ S1 fun vs S2 => app sp (.ref a :: vs) S2 Q X) := by simp only [wE]
theorem e_blt {b : Blt} {es : List E} : wE G X (.blt b es) ρ S Q = (wEs G X es ρ S fun vs S1 => wBlt b vs S1 Q) := by simp only [wE]
theorem e_mth {m : Mth} {o : E} {es : List E} : wE G X (.mth m o es) ρ S Q = (wE G X o ρ S fun v S1 => tyM m v S1 ∧ wEs G X es ρ S1 fun vs S2 => wMth m v vs S2 Q) := by simp only [wE]
theorem e_dK0  : wE G X .dK0 ρ S Q = (∀ p, S p = none → Q (.ref p) (S.upd p (.dK []))) := by simp only [wE]
theorem e_repr {a : E} : wE G X (.repr a) ρ S Q = (G.rp = true ∧ wE G X a ρ S fun v S1 => vRepr v S1 Q) := by simp only [wE]
theorem e_dT1 {k v : E} : wE G X (.dT1 k v) ρ S Q = (∀ p, S p = none → wE G X k ρ (S.upd p (.dT [])) fun w S1 => wE G X v ρ S1 fun u S2 => ∃ ks, w = .ptup (ks.map kval) ∧ S2 p = some (.dT []) ∧ Q (.ref p) (S2.upd p (.dT [(ks, u)]))) := by simp only [wE]
theorem e_revT {a : E} : wE G X (.revT a) ρ S Q = (wE G X a ρ S fun v S1 => ∃ xs, v = .tup xs ∧ Q (.tup xs.reverse) S1) := by simp only [wE]
theorem e_dT0  : wE G X .dT0 ρ S Q = (∀ p, S p = none → Q (.ref p) (S.upd p (.dT []))) := by simp only [wE]
theorem e_ktup {es : List E} : wE G X (.ktup es) ρ S Q = (wEs G X es ρ S fun vs S1 => vs.length ≤ sizeLine ∧ Q (.ptup vs) S1) := by simp only [wE]
theorem e_lrng1 {a : E} : wE G X (.lrng1 a) ρ S Q = (wE G X a ρ S fun v S1 => ∃ n, v = .int n ∧ -(2 ^ 62) ≤ n ∧ n ≤ 2 ^ 24 ∧ ∀ p, S1 p = none → Q (.ref p) (S1.upd p (.lst (rngV 0 n.toNat)))) := by simp only [wE]
theorem e_lrng2 {a b : E} : wE G X (.lrng2 a b) ρ S Q = (wE G X a ρ S fun v S1 => wE G X b ρ S1 fun w S2 => ∃ i j, v = .int i ∧ w = .int j ∧ small62 i ∧ small62 j ∧ (j - i).toNat ≤ 2 ^ 24 ∧ ∀ p, S2 p = none → Q (.ref p) (S2.upd p (.lst (rngV i (j - i).toNat)))) := by simp only [wE]
theorem e_lrev {a : E} : wE G X (.lrev a) ρ S Q = (wE G X a ρ S fun v S1 => ∃ a xs, v = .ref a ∧ rdL S1 a xs ∧ ∀ p, S1 p = none → Q (.ref p) (S1.upd p (.lst xs.reverse))) := by simp only [wE]
theorem e_trev {a : E} : wE G X (.trev a) ρ S Q = (wE G X a ρ S fun v S1 => ∃ a xs, v = .ref a ∧ rdL S1 a xs ∧ Q (.tup xs.reverse) S1) := by simp only [wE]
theorem e_dix {d k : E} : wE G X (.dix d k) ρ S Q = (wE G X d ρ S fun v S1 => wE G X k ρ S1 fun w S2 => ∃ a x, v = .ref a ∧ DG S2 a w (some x) ∧ Q x S2) := by simp only [wE]
theorem e_dg1 {d k : E} : wE G X (.dg1 d k) ρ S Q = (wE G X d ρ S fun v S1 => ∃ a, v = .ref a ∧ isD S1 a ∧ wE G X k ρ S1 fun w S2 => ∃ o, DG S2 a w o ∧ Q (o.getD .non) S2) := by simp only [wE]
theorem e_dg2 {d k x : E} : wE G X (.dg2 d k x) ρ S Q = (wE G X d ρ S fun v S1 => ∃ a, v = .ref a ∧ isD S1 a ∧ wE G X k ρ S1 fun w S2 => wE G X x ρ S2 fun u S3 => ∃ o, DG S3 a w o ∧ Q (o.getD u) S3) := by simp only [wE]
theorem e_dsd {d k x : E} : wE G X (.dsd d k x) ρ S Q = (wE G X d ρ S fun v S1 => ∃ a, v = .ref a ∧ isD S1 a ∧ wE G X k ρ S1 fun w S2 => wE G X x ρ S2 fun u S3 => ∃ kvs key, S3 a = some (.dK kvs) ∧ w = kval key ∧ kvs.length < sizeLine ∧ (∀ y, vlK kvs key = some y → Q y S3) ∧ (vlK kvs key = none → Q u (S3.upd a (.dK (ptK kvs key u))))) := by simp only [wE]
theorem e_dpop {d k : E} : wE G X (.dpop d k) ρ S Q = (wE G X d ρ S fun v S1 => ∃ a, v = .ref a ∧ isD S1 a ∧ wE G X k ρ S1 fun w S2 => ∃ kvs key x, S2 a = some (.dK kvs) ∧ w = kval key ∧ vlK kvs key = some x ∧ Q x (S2.upd a (.dK (drK kvs key)))) := by simp only [wE]
theorem e_din {n : Bool} {k d : E} : wE G X (.din n k d) ρ S Q = (wE G X k ρ S fun w S1 => wE G X d ρ S1 fun v S2 => ∃ a o, v = .ref a ∧ DG S2 a w o ∧ Q (.bl (n ^^ o.isSome)) S2) := by simp only [wE]
theorem r_tgd {a i : E} {v : Val} {Q : Loc → Sto → Prop} : wTg G X (.dix a i) v ρ S Q = (wE G X a ρ S fun o S1 => wE G X i ρ S1 fun k S2 => ∃ p, o = .ref p ∧ DP S2 p k v fun S3 => Q ρ S3) := by simp only [wTg]
theorem r_tgp {ts : List T} {vs : List Val} {Q : Loc → Sto → Prop} : wTg G X (.tup ts) (.ptup vs) ρ S Q = (vs.length = ts.length ∧ wTgs G X ts vs ρ S Q) := by
  simp only [wTg, valD, exists_eq_left]
end
def vIsi (t : String) (v : Val) (S : Sto) (Q : Post) : Prop := ∃ n k, tyName v S = some n ∧ kitB n t = some k ∧ Q (.bl k) S
def vIsiT (ts : List String) (v : Val) (S : Sto) (Q : Post) : Prop := ∃ n, tyName v S = some n ∧ (ts.all fun t => (kitB n t).isSome) = true ∧ Q (.bl (ts.any fun t => kitB n t == some true)) S
section
variable {G : Gam} {X : XPost} {ρ : Loc} {S : Sto} {Q : Post} {a : E} {t : String} {ts : List String} {v : Val} {n : String} {k : Bool} {i : Int} {b : Bool} {x : Str} {xs : List Val}
theorem e_isi : wE G X (.isi a t) ρ S Q = wE G X a ρ S fun v S1 => vIsi t v S1 Q := by simp only [wE, vIsi]
theorem e_isiT : wE G X (.isiT a ts) ρ S Q = wE G X a ρ S fun v S1 => vIsiT ts v S1 Q := by simp only [wE, vIsiT]
theorem vIsi_row (h : tyName v S = some n) (h2 : kitB n t = some k) : vIsi t v S Q = Q (.bl k) S := by
  unfold vIsi
  refine propext ⟨fun ⟨n', k', e1, e2, q⟩ => ?_, fun q => ⟨n, k, h, h2, q⟩⟩
  rw [h] at e1; cases e1
  rw [h2] at e2; cases e2
  exact q
theorem vIsiT_row (h : tyName v S = some n) (h2 : (ts.all fun t => (kitB n t).isSome) = true) (h3 : (ts.any fun t => kitB n t == some true) = k) : vIsiT ts v S Q = Q (.bl k) S := by
  unfold vIsiT
  refine propext ⟨fun ⟨n', e1, e2, q⟩ => ?_, fun q => ⟨n, h, h2, by rw [h3]; exact q⟩⟩
  rw [h] at e1; cases e1
  rw [h3] at q
  exact q
theorem r_is_non_int : vIsi "int" .non S Q = Q (.bl false) S := vIsi_row rfl (by decide +kernel)
theorem r_is_non_bool : vIsi "bool" .non S Q = Q (.bl false) S := vIsi_row rfl (by decide +kernel)
theorem r_is_non_str : vIsi "str" .non S Q = Q (.bl false) S := vIsi_row rfl (by decide +kernel)
theorem r_is_non_tuple : vIsi "tuple" .non S Q = Q (.bl false) S := vIsi_row rfl (by decide +kernel)
theorem r_is_non_list : vIsi "list" .non S Q = Q (.bl false) S := vIsi_row rfl (by decide +kernel)
theorem r_is_non_dict : vIsi "dict" .non S Q = Q (.bl false) S := vIsi_row rfl (by decide +kernel)
theorem r_is_bl_int : vIsi "int" (.bl b) S Q = Q (.bl true) S := vIsi_row rfl (by decide +kernel)
theorem r_is_bl_bool : vIsi "bool" (.bl b) S Q = Q (.bl true) S := vIsi_row rfl (by decide +kernel)
theorem r_is_bl_str : vIsi "str" (.bl b) S Q = Q (.bl false) S := vIsi_row rfl (by decide +kernel)
theorem r_is_bl_tuple : vIsi "tuple" (.bl b) S Q = Q (.bl false) S := vIsi_row rfl (by decide +kernel)
theorem r_is_bl_list : vIsi "list" (.bl b) S Q = Q (.bl false) S := vIsi_row rfl (by decide +kernel)
theorem r_is_bl_dict : vIsi "dict" (.bl b) S Q = Q (.bl false) S := vIsi_row rfl (by decide +kernel)
theorem r_is_int_int : vIsi "int" (.int i) S Q = Q (.bl true) S := vIsi_row rfl (by decide +kernel)
theorem r_is_int_bool : vIsi "bool" (.int i) S Q = Q (.bl false) S := vIsi_row rfl (by decide +kernel)
theorem r_is_int_str : vIsi "str" (.int i) S Q = Q (.bl false) S := vIsi_row rfl (by decide +kernel)
theorem r_is_int_tuple : vIsi "tuple" (.int i) S Q = Q (.bl false) S := vIsi_row rfl (by decide +kernel)
theorem r_is_int_list : vIsi "list" (.int i) S Q = Q (.bl false) S := vIsi_row rfl (by decide +kernel)
theorem r_is_int_dict : vIsi "dict" (.int i) S Q = Q (.bl false) S := vIsi_row rfl (by decide +kernel)
theorem r_is_str_int : vIsi "int" (.str x) S Q = Q (.bl false) S := vIsi_row rfl (by decide +kernel)
theorem r_is_str_bool : vIsi "bool" (.str x) S Q = Q (.bl false) S := vIsi_row rfl (by decide +kernel)
theorem r_is_str_str : vIsi "str" (.str x) S Q = Q (.bl true) S := vIsi_row rfl (by decide +kernel)
theorem r_is_str_tuple : vIsi "tuple" (.str x) S Q = Q (.bl false) S := vIsi_row rfl (by decide +kernel)
theorem r_is_str_list : vIsi "list" (.str x) S Q = Q (.bl false) S := vIsi_row rfl (by decide +kernel)
theorem r_is_str_dict : vIsi "dict" (.str x) S Q = Q (.bl false) S := vIsi_row rfl (by decide +kernel)
section
variable {S : Sto} {Q : Post} {xs : List Val}
theorem r_is_ptup_int : vIsi "int" (.ptup xs) S Q = Q (.bl false) S := vIsi_row rfl (by decide +kernel)
theorem r_is_ptup_bool : vIsi "bool" (.ptup xs) S Q = Q (.bl false) S := vIsi_row rfl (by decide +kernel)
theorem r_is_ptup_str : vIsi "str" (.ptup xs) S Q = Q (.bl false) S := vIsi_row rfl (by decide +kernel)
theorem r_is_ptup_tuple : vIsi "tuple" (.ptup xs) S Q = Q (.bl true) S := vIsi_row rfl (by decide +kernel)
theorem r_is_ptup_list : vIsi "list" (.ptup xs) S Q = Q (.bl false) S := vIsi_row rfl (by decide +kernel)
theorem r_is_ptup_dict : vIsi "dict" (.ptup xs) S Q = Q (.bl false) S := vIsi_row rfl (by decide +kernel)
end
theorem r_is_tup_int : vIsi "int" (.tup xs) S Q = Q (.bl false) S := vIsi_row rfl (by decide +kernel)
theorem r_is_tup_bool : vIsi "bool" (.tup xs) S Q = Q (.bl false) S := vIsi_row rfl (by decide +kernel)
theorem r_is_tup_str : vIsi "str" (.tup xs) S Q = Q (.bl false) S := vIsi_row rfl (by decide +kernel)
theorem r_is_tup_tuple : vIsi "tuple" (.tup xs) S Q = Q (.bl true) S := vIsi_row rfl (by decide +kernel)
theorem r_is_tup_list : vIsi "list" (.tup xs) S Q = Q (.bl false) S := vIsi_row rfl (by decide +kernel)
theorem r_is_tup_dict : vIsi "dict" (.tup xs) S Q = Q (.bl false) S := vIsi_row rfl (by decide +kernel)
end
theorem r_nd {p : Prop} [Decidable p] : ((!decide p) = true) = ¬ p := by simp
theorem r_sl0 : (0 ≤ sizeLine) = True := eq_true (by decide)
theorem r_sl1 : (1 ≤ sizeLine) = True := eq_true (by decide)
theorem r_sl2 : (2 ≤ sizeLine) = True := eq_true (by decide)
theorem r_sl3 : (3 ≤ sizeLine) = True := eq_true (by decide)
theorem r_sl4 : (4 ≤ sizeLine) = True := eq_true (by decide)
theorem r_sl5 : (5 ≤ sizeLine) = True := eq_true (by decide)
theorem r_sl6 : (6 ≤ sizeLine) = True := eq_true (by decide)
theorem r_sl7 : (7 ≤ sizeLine) = True := eq_true (by decide)
theorem r_sl8 : (8 ≤ sizeLine) = True := eq_true (by decide)
theorem r_sl9 : (9 ≤ sizeLine) = True := eq_true (by decide)
theorem r_sl10 : (10 ≤ sizeLine) = True := eq_true (by decide)
theorem r_sl11 : (11 ≤ sizeLine) = True := eq_true (by decide)
theorem r_sl12 : (12 ≤ sizeLine) = True := eq_true (by decide)
theorem r_sl13 : (13 ≤ sizeLine) = True := eq_true (by decide)
theorem r_sl14 : (14 ≤ sizeLine) = True := eq_true (by decide)
theorem r_sl15 : (15 ≤ sizeLine) = True := eq_true (by decide)
theorem r_sl16 : (16 ≤ sizeLine) = True := eq_true (by decide)
theorem r_sl17 : (17 ≤ sizeLine) = True := eq_true (by decide)
theorem r_sl18 : (18 ≤ sizeLine) = True := eq_true (by decide)
theorem r_sl19 : (19 ≤ sizeLine) = True := eq_true (by decide)
theorem r_sl20 : (20 ≤ sizeLine) = True := eq_true (by decide)
theorem r_sl21 : (21 ≤ sizeLine) = True := eq_true (by decide)
theorem r_sl22 : (22 ≤ sizeLine) = True := eq_true (by decide)
theorem r_sl23 : (23 ≤ sizeLine) = True := eq_true (by decide)
theorem r_sl24 : (24 ≤ sizeLine) = True := eq_true (by decide)
theorem Sto.le.own {S T : Sto} {p : Addr} {o : MO} (h : S.le T) (n : S p = none) : S.le (T.upd p o) := fun a u q => by
  rw [Sto.upd_ne (fun e => by subst e; rw [n] at q; cases q)]; exact h _ _ q
theorem Sto.ne_upd {S : Sto} {p q : Addr} {o u : MO} (h : S q = some u) (e : q ≠ p) : (S.upd p o) q = some u := by rw [Sto.upd_ne e]; exact h
theorem rngV_get {lo : Int} {n j : Nat} (h : j < n) : (rngV lo n)[j]? = some (.int (lo + j)) := by
  unfold rngV
  rw [List.getElem?_map, List.getElem?_range h]; rfl
theorem drop_cons {α : Type} {xs r : List α} {x : α} {j : Nat} (h : x :: r = xs.drop j) : xs[j]? = some x ∧ r = xs.drop (j + 1) ∧ j < xs.length := by
  have hj : j < xs.length := by
    apply Nat.lt_of_not_le
    intro z
    rw [List.drop_eq_nil_of_le z] at h; cases h
  rw [List.drop_eq_getElem_cons hj] at h
  injection h with h1 h2
  exact ⟨by rw [List.getElem?_eq_getElem hj, h1], h2, hj⟩
section
variable {G : Gam} {t : T} {p : List C} {D : En} {ρ : Loc} {S S1 S2 : Sto} {a b : E}
/-- one turn, by its place -/
def TurnIx (G : Gam) (t : T) (p : List C) (D : En) (n : Nat) (at_ : Nat → Val) (J : Nat → Loc → Sto → Prop) : Prop := ∀ j ρ S, j < n → J j ρ S → ∀ D' : En, (∀ ρ S, J (j + 1) ρ S → D'.nx ρ S) → (∀ ρ S, J (j + 1) ρ S → D'.ct ρ S) → D'.rt = D.rt → D'.bk = D.nx → D'.xc = D.xc → wTg G noX t (at_ j) ρ S fun ρ2 S3 => wCs G p D' ρ2 S3
theorem TurnIx.turn {xs : List Val} {at_ : Nat → Val} {J : Nat → Loc → Sto → Prop} (hx : ∀ j, j < xs.length → xs[j]? = some (at_ j)) (h : TurnIx G t p D xs.length at_ J) : Turn G t p D (fun r ρ S => ∃ j, r = xs.drop j ∧ J j ρ S) := by
  rintro x r ρ S ⟨j, e, hj⟩ D' hn hc hr hb hx'
  obtain ⟨e1, e2, e3⟩ := drop_cons e
  rw [hx j e3] at e1; cases e1
  exact h j ρ S e3 hj D' (fun ρ S q => hn ρ S ⟨_, e2, q⟩) (fun ρ S q => hc ρ S ⟨_, e2, q⟩) hr hb hx'
theorem ix_end {xs : List Val} {J : Nat → Loc → Sto → Prop} (hJ : ∀ j ρ S, J j ρ S → j ≤ xs.length) (hend : ∀ ρ S, J xs.length ρ S → D.nx ρ S) : ∀ ρ S, (∃ j, ([] : List Val) = xs.drop j ∧ J j ρ S) → D.nx ρ S := by
  rintro ρ S ⟨j, e, h⟩
  have h1 := hJ j ρ S h
  have h2 : xs.length ≤ j := by
    have := congrArg List.length e
    simp at this; omega
  have : j = xs.length := by omega
  subst this
  exact hend ρ S h
theorem ixr {n : Nat} {lo : Int} : ∀ j, j < (rngV lo n).length → (rngV lo n)[j]? = some ((fun (j : Nat) => Val.int (lo + j)) j) := fun j h => rngV_get (by rw [rngV_len] at h; exact h)
theorem loop_rng1_ix {n : Nat} (J : Nat → Loc → Sto → Prop) (ha : ∀ Q : Post, Q (.int n) S1 → wE G (fun c S => D.xc c ρ S) a ρ S Q) (hn : n ≤ 2 ^ 60) (h0 : J 0 ρ S1) (hend : ∀ ρ S, J n ρ S → D.nx ρ S) (hst : TurnIx G t p D n (fun j => .int j) J) : wC G (.loop t (.rng1 a) p) D ρ S := by
  have hl : (rngV 0 n).length = n := rngV_len
  refine loop_rng1 (j := n) (fun r ρ S => ∃ j, r = (rngV 0 n).drop j ∧ j ≤ n ∧ J j ρ S) ha (by unfold small62; omega) ⟨0, by simp, by omega, h0⟩ (ix_end (J := fun j ρ S => j ≤ n ∧ J j ρ S) (fun j ρ S h => by rw [hl]; exact h.1) fun ρ S h => hend ρ S (by rw [hl] at h; exact h.2)) ?_
  refine TurnIx.turn (at_ := fun j => .int j) (J := fun j ρ S => j ≤ n ∧ J j ρ S) (fun j h => by rw [ixr j h]; simp) ?_
  rw [hl]
  exact fun j ρ S hj h D' h1 h2 => hst j ρ S hj h.2 D' (fun ρ S q => h1 ρ S ⟨hj, q⟩) fun ρ S q => h2 ρ S ⟨hj, q⟩
theorem loop_rng2_ix {lo hi : Int} (J : Nat → Loc → Sto → Prop) (ha : ∀ Q : Post, Q (.int lo) S1 → wE G (fun c S => D.xc c ρ S) a ρ S Q) (hb : ∀ Q : Post, Q (.int hi) S2 → wE G (fun c S => D.xc c ρ S) b ρ S1 Q) (hlo : small62 lo) (hhi : small62 hi) (h0 : J 0 ρ S2) (hend : ∀ ρ S, J (hi - lo).toNat ρ S → D.nx ρ S) (hst : TurnIx G t p D (hi - lo).toNat (fun j => .int (lo + j)) J) : wC G (.loop t (.rng2 a b) p) D ρ S := by
  generalize hn : (hi - lo).toNat = n at *
  have hl : (rngV lo n).length = n := rngV_len
  refine loop_rng2 (i := lo) (j := hi) (S1 := S1) (S2 := S2) (fun r ρ S => ∃ j, r = (rngV lo n).drop j ∧ j ≤ n ∧ J j ρ S) ha hb hlo hhi ⟨0, by rw [hn]; simp, by omega, h0⟩ (ix_end (J := fun j ρ S => j ≤ n ∧ J j ρ S) (fun j ρ S h => by rw [hl]; exact h.1) fun ρ S h => hend ρ S (by rw [hl] at h; exact h.2)) ?_
  refine TurnIx.turn (at_ := fun (j : Nat) => .int (lo + j)) (J := fun j ρ S => j ≤ n ∧ J j ρ S) (fun j h => by rw [ixr j h]) ?_
  rw [hl]
  exact fun j ρ S hj h D' h1 h2 => hst j ρ S hj h.2 D' (fun ρ S q => h1 ρ S ⟨hj, q⟩) fun ρ S q => h2 ρ S ⟨hj, q⟩
theorem loop_tup_ix {α : Type} {xs : List α} {f : α → Val} (J : Nat → Loc → Sto → Prop) (ha : ∀ Q : Post, Q (.tup (xs.map f)) S1 → wE G (fun c S => D.xc c ρ S) a ρ S Q) (h0 : J 0 ρ S1) (hend : ∀ ρ S, J xs.length ρ S → D.nx ρ S)
    (hst : ∀ (j : Nat) (x : α), xs[j]? = some x → ∀ ρ S, J j ρ S → ∀ D' : En, (∀ ρ S, J (j + 1) ρ S → D'.nx ρ S) → (∀ ρ S, J (j + 1) ρ S → D'.ct ρ S) → D'.rt = D.rt → D'.bk = D.nx → D'.xc = D.xc → wTg G noX t (f x) ρ S fun ρ2 S3 => wCs G p D' ρ2 S3) : wC G (.loop t (.val a) p) D ρ S := by
  refine loop_tup (S1 := S1) (fun r ρ S => ∃ j, r = (xs.map f).drop j ∧ j ≤ xs.length ∧ J j ρ S) ha ⟨0, by simp, by omega, h0⟩ (ix_end (J := fun j ρ S => j ≤ xs.length ∧ J j ρ S) (fun j ρ S h => by simpa using h.1) fun ρ S h => hend ρ S (by simpa using h.2)) ?_
  rintro x r ρ S ⟨j, e, hj, hJ⟩ D' h1 h2
  obtain ⟨e1, e2, e3⟩ := drop_cons e
  rw [List.getElem?_map] at e1
  cases q : xs[j]? with
  | none => rw [q] at e1; cases e1
  | some y =>
    rw [q] at e1; cases e1
    have hl : j < xs.length := by simpa using e3
    exact hst j y q ρ S hJ D' (fun ρ S q => h1 ρ S ⟨_, e2, hl, q⟩) fun ρ S q => h2 ρ S ⟨_, e2, hl, q⟩
theorem loop_list_ix {α : Type} {xs : List α} {f : α → Val} {q : Addr} (J : Nat → Loc → Sto → Prop) (ha : ∀ Q : Post, Q (.ref q) S1 → wE G (fun c S => D.xc c ρ S) a ρ S Q) (hr : rdL S1 q (xs.map f)) (hk : ∀ j ρ S, J j ρ S → rdL S q (xs.map f)) (h0 : J 0 ρ S1) (hend : ∀ ρ S, J xs.length ρ S → D.nx ρ S)
    (hst : ∀ (j : Nat) (x : α), xs[j]? = some x → ∀ ρ S, J j ρ S → ∀ D' : En, (∀ ρ S, J (j + 1) ρ S → D'.nx ρ S) → (∀ ρ S, J (j + 1) ρ S → D'.ct ρ S) → D'.rt = D.rt → D'.bk = D.nx → D'.xc = D.xc → wTg G noX t (f x) ρ S fun ρ2 S3 => wCs G p D' ρ2 S3) : wC G (.loop t (.val a) p) D ρ S := by
  refine loop_list (S1 := S1) (q := q) (fun r ρ S => ∃ j, r = (xs.map f).drop j ∧ j ≤ xs.length ∧ J j ρ S) ha hr (fun r ρ S ⟨j, _, _, h⟩ => hk j ρ S h) ⟨0, by simp, by omega, h0⟩ (ix_end (J := fun j ρ S => j ≤ xs.length ∧ J j ρ S) (fun j ρ S h => by simpa using h.1) fun ρ S h => hend ρ S (by simpa using h.2)) ?_
  rintro x r ρ S ⟨j, e, hj, hJ⟩ D' h1 h2
  obtain ⟨e1, e2, e3⟩ := drop_cons e
  rw [List.getElem?_map] at e1
  cases q : xs[j]? with
  | none => rw [q] at e1; cases e1
  | some y =>
    rw [q] at e1; cases e1
    have hl : j < xs.length := by simpa using e3
    exact hst j y q ρ S hJ D' (fun ρ S q => h1 ρ S ⟨_, e2, hl, q⟩) fun ρ S q => h2 ρ S ⟨_, e2, hl, q⟩
variable {own : List (Str × Nat)} {ifs : List B} {e : E} {Q : Post} {X : XPost}
/-- a comprehension's turn, by its place -/
def CTurnAt (G : Gam) (own : List Nat) (t : T) (ifs : List B) (e : E) (ρ : Loc) (x : Val) (j : Nat) (acc : List Val) (S : Sto) (J : Nat → List Val → Sto → Prop) : Prop := ∀ R : Option Val → Sto → Prop, (∀ S, J (j + 1) acc S → R none S) → (∀ v S, J (j + 1) (acc ++ [v]) S → R (some v) S) →
  wTg G noX t x (wipeL ρ own) S fun ρ' S3 => wBs G noX ifs ρ' S3 fun k S4 => if k = true then wE G noX e ρ' S4 fun v S5 => R (some v) S5 else R none S4
theorem lc_rng1_ix {n : Nat} (J : Nat → List Val → Sto → Prop) (ha : ∀ Q : Post, Q (.int n) S1 → wE G X a ρ S Q) (hn : n ≤ 2 ^ 20) (hJ : ∀ j acc S, J j acc S → acc.length ≤ j) (h0 : J 0 [] S1) (hend : ∀ acc S, J n acc S → ∀ p, S p = none → Q (.ref p) (S.upd p (.lst acc)))
    (hst : ∀ j acc S, j < n → J j acc S → CTurnAt G (own.map (·.2)) t ifs e ρ (.int j) j acc S J) : wE G X (.lc own t (.rng1 a) ifs e) ρ S Q := by
  have hl : (rngV 0 n).length = n := rngV_len
  have big : ∀ j acc S, j ≤ n → J j acc S → acc.length < sizeLine := fun j acc S h h' => by
    have := hJ j acc S h'
    exact Nat.lt_of_le_of_lt (show acc.length ≤ 2 ^ 20 by omega) (by decide)
  refine lc_rng1 (S1 := S1) (j := n) (fun r acc S => ∃ j, r = (rngV 0 n).drop j ∧ j ≤ n ∧ J j acc S) ha (by unfold small62; omega) ⟨0, by simp, by omega, h0⟩ (fun r acc S ⟨j, _, h, h'⟩ => big j acc S h h') ?_ ?_
  · rintro acc S ⟨j, e, hj, h⟩
    have : j = n := by
      have := congrArg List.length e
      simp [hl] at this; omega
    subst this
    exact hend acc S h
  · rintro x r acc S ⟨j, e, hj, h⟩ R r0 r1
    obtain ⟨e1, e2, e3⟩ := drop_cons e
    rw [ixr j e3] at e1; cases e1
    have hjn : j < n := by rw [hl] at e3; exact e3
    have := hst j acc S hjn h R (fun S q => r0 S ⟨_, e2, hjn, q⟩) fun v T q => r1 v T ⟨_, e2, hjn, q⟩ (big j acc S hj h)
    have z : (0 : Int) + (j : Int) = j := by omega
    dsimp only
    rw [z]
    exact this
theorem lc_tup_ix {α : Type} {xs : List α} {f : α → Val} (J : Nat → List Val → Sto → Prop) (ha : ∀ Q : Post, Q (.tup (xs.map f)) S1 → wE G X a ρ S Q) (hn : xs.length ≤ 2 ^ 20) (hJ : ∀ j acc S, J j acc S → acc.length ≤ j) (h0 : J 0 [] S1) (hend : ∀ acc S, J xs.length acc S → ∀ p, S p = none → Q (.ref p) (S.upd p (.lst acc)))
    (hst : ∀ (j : Nat) (x : α) acc S, xs[j]? = some x → J j acc S → CTurnAt G (own.map (·.2)) t ifs e ρ (f x) j acc S J) : wE G X (.lc own t (.val a) ifs e) ρ S Q := by
  have big : ∀ j acc S, j ≤ xs.length → J j acc S → acc.length < sizeLine := fun j acc S h h' => by
    have := hJ j acc S h'
    exact Nat.lt_of_le_of_lt (show acc.length ≤ 2 ^ 20 by omega) (by decide)
  refine lc_tup (S1 := S1) (fun r acc S => ∃ j, r = (xs.map f).drop j ∧ j ≤ xs.length ∧ J j acc S) ha ⟨0, by simp, by omega, h0⟩ (fun r acc S ⟨j, _, h, h'⟩ => big j acc S h h') ?_ ?_
  · rintro acc S ⟨j, e, hj, h⟩
    have : j = xs.length := by
      have := congrArg List.length e
      simp at this; omega
    subst this
    exact hend acc S h
  · rintro x r acc S ⟨j, e, hj, h⟩ R r0 r1
    obtain ⟨e1, e2, e3⟩ := drop_cons e
    rw [List.getElem?_map] at e1
    cases q : xs[j]? with
    | none => rw [q] at e1; cases e1
    | some y =>
      rw [q] at e1; cases e1
      have hjn : j < xs.length := by simpa using e3
      exact hst j y acc S q h R (fun S q => r0 S ⟨_, e2, hjn, q⟩) fun v T q => r1 v T ⟨_, e2, hjn, q⟩ (big j acc S hj h)
theorem lc_list_ix {α : Type} {xs : List α} {f : α → Val} {q : Addr} (J : Nat → List Val → Sto → Prop) (ha : ∀ Q : Post, Q (.ref q) S1 → wE G X a ρ S Q) (hr : rdL S1 q (xs.map f)) (hk : ∀ j acc S, J j acc S → rdL S q (xs.map f)) (hn : xs.length ≤ 2 ^ 20) (hJ : ∀ j acc S, J j acc S → acc.length ≤ j) (h0 : J 0 [] S1) (hend : ∀ acc S, J xs.length acc S → ∀ p, S p = none → Q (.ref p) (S.upd p (.lst acc)))
    (hst : ∀ (j : Nat) (x : α) acc S, xs[j]? = some x → J j acc S → CTurnAt G (own.map (·.2)) t ifs e ρ (f x) j acc S J) : wE G X (.lc own t (.val a) ifs e) ρ S Q := by
  have big : ∀ j acc S, j ≤ xs.length → J j acc S → acc.length < sizeLine := fun j acc S h h' => by
    have := hJ j acc S h'
    exact Nat.lt_of_le_of_lt (show acc.length ≤ 2 ^ 20 by omega) (by decide)
  refine lc_list (S1 := S1) (q := q) (fun r acc S => ∃ j, r = (xs.map f).drop j ∧ j ≤ xs.length ∧ J j acc S) ha hr (fun r acc S ⟨j, _, _, h⟩ => hk j acc S h) ⟨0, by simp, by omega, h0⟩ (fun r acc S ⟨j, _, h, h'⟩ => big j acc S h h') ?_ ?_
  · rintro acc S ⟨j, e, hj, h⟩
    have : j = xs.length := by
      have := congrArg List.length e
      simp at this; omega
    subst this
    exact hend acc S h
  · rintro x r acc S ⟨j, e, hj, h⟩ R r0 r1
    obtain ⟨e1, e2, e3⟩ := drop_cons e
    rw [List.getElem?_map] at e1
    cases q : xs[j]? with
    | none => rw [q] at e1; cases e1
    | some y =>
      rw [q] at e1; cases e1
      have hjn : j < xs.length := by simpa using e3
      exact hst j y acc S q h R (fun S q => r0 S ⟨_, e2, hjn, q⟩) fun v T q => r1 v T ⟨_, e2, hjn, q⟩ (big j acc S hj h)
end
/-- a for over what an expression makes -/
theorem loop_made {G : Gam} {t : T} {p : List C} {D : En} {ρ : Loc} {S : Sto} {a : E} (R : Val → Sto → Prop) (ha : wE G (fun c S => D.xc c ρ S) a ρ S R)
    (h : ∀ v S1, R v S1 → ∃ q xs, v = .ref q ∧ rdL S1 q xs ∧ forW (fun S' => rdL S' q xs) (fun x ρ1 S2 D' => wTg G noX t x ρ1 S2 fun ρ2 S3 => wCs G p D' ρ2 S3) D xs ρ S1) : wC G (.loop t (.val a) p) D ρ S := by
  simp only [wC, wI]
  refine wE_mono G _ a (fun v S1 r => ?_) ha
  obtain ⟨q, xs, rfl, h1, h2⟩ := h v S1 r
  exact ⟨xs, h1, h2⟩
theorem rd_le {S T : Sto} {a : Addr} {xs : List Val} (h : rdL S a xs) (l : S.le T) : rdL T a xs := by
  rcases h.cases with e | e
  · exact .lst (l _ _ e)
  · exact .ro (l _ _ e)
end M

set_option maxHeartbeats 1000000
namespace M
open PySem PySem.Spec L2
local macro_rules | `(tactic| simp_wf) => `(tactic| simp only [wCs, w_asg, w_par, w_aug, w_ex, w_ret, w_retN, w_ite, w_brk, w_cnt, w_pass, w_rais, e_v, e_int, e_bl, e_non, e_str, e_g, e_bin, e_neg, e_cmp, e_chain, e_and, e_or, e_not, e_ife, e_tup, e_lst, e_ix, e_sl, e_rev, e_fld, e_call, e_new, e_meth, e_blt, e_mth, e_isi, e_isiT, e_dK0, e_dT0, e_repr, e_ktup, e_lrng1, e_lrng2, e_lrev, e_trev, e_dix, e_dg1, e_dg2, e_dsd, e_dpop, e_din, wEs, wAndV, wOrV, wB, wAnd, wOr, wBs, wP, r_nm, r_tgt, r_tgr, r_tgp, r_tgd, r_tgi, r_tgs, r_tgs0, wBin, wCmp,
  r_add_ii, r_add_ib, r_add_ss, r_add_tt, r_add_rr, r_sub_ii, r_mul_ii, r_mul_ri, r_mul_ti, r_div_ii, r_mod_ii, r_pow_ii, r_shl_ii, r_shr_ii, r_and_ii, r_xor_ii, r_int, r_is_n, r_is_b, r_tru_b, r_tru_i, r_tru_n, r_tru_t, r_tru_r, r_ix_t, r_ix_r, r_sl_t, r_sl_r, r_len_t, r_len_s, r_abs, r_min2, r_max2, r_int1, r_int1b, r_str1, r_list1, r_tuple1, r_tuple1t, r_tuple1p, r_len_p, r_sorted1t, r_ix_p, r_valD_p, r_ty_p, r_tindex, r_tyM_tindex, r_reverse, r_tyM_reverse, r_remove, r_tyM_remove, r_append, r_pop0, r_pop1, r_insert, r_extend, r_count, r_index, r_sum1, r_sorted1, r_tyM_pop1, r_tyM_insert, r_tyM_extend, r_tyM_count, r_tyM_index, r_fld, r_tgf, r_tyM_append, r_tyM_pop0, r_valD_t, r_valD_r, r_ty_n, r_ty_b, r_ty_i, r_ty_s, r_ty_t, r_is_non_int, r_is_non_bool, r_is_non_str, r_is_non_tuple, r_is_non_list, r_is_non_dict, r_is_bl_int, r_is_bl_bool, r_is_bl_str, r_is_bl_tuple, r_is_bl_list, r_is_bl_dict, r_is_int_int, r_is_int_bool, r_is_int_str, r_is_int_tuple, r_is_int_list, r_is_int_dict, r_is_str_int, r_is_str_bool, r_is_str_str, r_is_str_tuple, r_is_str_list, r_is_str_dict, r_is_ptup_int, r_is_ptup_bool, r_is_ptup_str, r_is_ptup_tuple, r_is_ptup_list, r_is_ptup_dict, r_is_tup_int, r_is_tup_bool, r_is_tup_str, r_is_tup_tuple, r_is_tup_list, r_is_tup_dict, isNon, r_at0, r_at1, r_at2, r_at3, r_at4, r_at5,
  List.getElem?_cons_zero, List.getElem?_cons_succ, List.set_cons_zero, List.set_cons_succ, setAll, Option.some.injEq, Val.int.injEq, Val.bl.injEq, Val.tup.injEq, Val.ref.injEq, exists_eq_left', exists_eq_left, exists_eq_right, Bool.false_eq_true, if_true, if_false, List.isEmpty_nil, List.isEmpty_cons, true_and, and_true, ↓reduceIte, List.length_cons, List.length_nil, startL, List.map_cons, List.map_nil, Bool.not_true, Bool.not_false, Nat.reduceAdd, Nat.reduceSub, List.replicate, List.cons_append, List.nil_append, reduceCtorEq, false_and, exists_false, List.cons.injEq, Bool.false_xor, Bool.true_xor, wipeL, Int.reduceNeg, Int.cast_ofNat_Int, decide_true, decide_false, Int.reduceEq, decide_eq_true_eq, r_nd, r_sl0, r_sl1, r_sl2, r_sl3, r_sl4, r_sl5, r_sl6, r_sl7, r_sl8, r_sl9, r_sl10, r_sl11, r_sl12, r_sl13, r_sl14, r_sl15, r_sl16, r_sl17, r_sl18, r_sl19, r_sl20, r_sl21, r_sl22, r_sl23, r_sl24, decide_eq_false_iff_not, not_true_eq_false, not_false_eq_true, Int.not_lt, Int.not_le])
mutual
def datB : Nat → Val → Bool
  | _, .non => true
  | _, .bl _ => true
  | _, .int _ => true
  | _, .str x => PyData.strOk x
  | 0, .tup _ => false
  | n + 1, .tup xs => datBs n xs
  | 0, .ptup _ => false
  | n + 1, .ptup xs => datBs n xs
  | _, .ref _ => false
def datBs : Nat → List Val → Bool
  | _, [] => true
  | n, v :: vs => datB n v && datBs n vs
end
theorem datBs_all {n : Nat} : ∀ {vs : List Val}, (∀ v ∈ vs, datB n v = true) → datBs n vs = true
  | [], _ => by simp only [datBs]
  | v :: vs, h => by simp only [datBs, Bool.and_eq_true]; exact ⟨h v (by simp), datBs_all fun w hw => h w (by simp [hw])⟩
mutual
theorem datB_ok : ∀ (n : Nat) (v : Val), datB n v = true → isPure v = true ∧ (toD v).canLay0 = true ∧ (toD v).depth ≤ n
  | _, .non, _ => by simp [isPure, toD, PyData.canLay0, PyData.depth]
  | _, .bl _, _ => by simp [isPure, toD, PyData.canLay0, PyData.depth]
  | _, .int _, _ => by simp [isPure, toD, PyData.canLay0, PyData.depth]
  | _, .str x, h => by simp only [datB] at h; simp [isPure, toD, PyData.canLay0, PyData.depth, h]
  | 0, .tup _, h => by simp [datB] at h
  | n + 1, .tup xs, h => by
    simp only [datB] at h
    obtain ⟨a, b, c⟩ := datBs_ok n xs h
    simp only [isPure, toD, PyData.canLay0, PyData.depth]
    exact ⟨a, b, by omega⟩
  | 0, .ptup _, h => by simp [datB] at h
  | n + 1, .ptup xs, h => by
    simp only [datB] at h
    obtain ⟨a, b, c⟩ := datBs_ok n xs h
    simp only [isPure, toD, PyData.canLay0, PyData.depth]
    exact ⟨a, b, by omega⟩
  | n, .ref _, h => by simp [datB] at h
theorem datBs_ok : ∀ (n : Nat) (vs : List Val), datBs n vs = true → arePure vs = true ∧ PyData.canLayAll0 (toDs vs) = true ∧ PyData.depthAll (toDs vs) ≤ n
  | _, [], _ => by simp [arePure, toDs, PyData.canLayAll0, PyData.depthAll]
  | n, v :: vs, h => by
    simp only [datBs, Bool.and_eq_true] at h
    obtain ⟨a, b, c⟩ := datB_ok n v h.1
    obtain ⟨a', b', c'⟩ := datBs_ok n vs h.2
    simp only [arePure, toDs, PyData.canLayAll0, PyData.depthAll, Bool.and_eq_true]
    exact ⟨⟨a, a'⟩, ⟨b, b'⟩, by omega⟩
end
theorem okD_of {n : Nat} {v : Val} (h : datB n v = true) (hn : n ≤ 64) : okD v = true := by
  obtain ⟨a, b, c⟩ := datB_ok n v h
  unfold okD SeqAt.shaped
  simp only [a, b, Bool.true_and, decide_eq_true_eq]
  omega
mutual
/-- without truths -/
def noB : Val → Bool
  | .bl _ => false
  | .tup xs => noBs xs
  | .ref _ => false
  | .ptup _ => false
  | _ => true
def noBs : List Val → Bool
  | [] => true
  | v :: vs => noB v && noBs vs
end
theorem noBs_all : ∀ {vs : List Val}, (∀ v ∈ vs, noB v = true) → noBs vs = true
  | [], _ => by simp only [noBs]
  | v :: vs, h => by simp only [noBs, Bool.and_eq_true]; exact ⟨h v (by simp), noBs_all fun w hw => h w (by simp [hw])⟩
mutual
theorem eqv_iff : ∀ (v w : Val), noB v = true → noB w = true → (PyData.eqv (toD v) (toD w) = true ↔ v = w)
  | .non, w, _, hw => by cases w <;> simp [toD, PyData.eqv, noB] at hw ⊢
  | .bl _, _, h, _ => by simp [noB] at h
  | .ref _, _, h, _ => by simp [noB] at h
  | .ptup _, _, h, _ => by simp [noB] at h
  | .int i, w, _, hw => by cases w <;> simp [toD, PyData.eqv, noB] at hw ⊢
  | .str i, w, _, hw => by cases w <;> simp [toD, PyData.eqv, noB] at hw ⊢
  | .tup xs, w, h, hw => by
    cases w
    case tup ys =>
      simp only [noB] at h hw
      simp only [toD, PyData.eqv, Val.tup.injEq]
      exact eqvs_iff xs ys h hw
    all_goals simp [toD, PyData.eqv, noB] at hw ⊢
theorem eqvs_iff : ∀ (vs ws : List Val), noBs vs = true → noBs ws = true → (PyData.eqvAll (toDs vs) (toDs ws) = true ↔ vs = ws)
  | [], ws, _, _ => by cases ws <;> simp [toDs, PyData.eqvAll]
  | v :: vs, [], _, _ => by simp [toDs, PyData.eqvAll]
  | v :: vs, w :: ws, h, hw => by
    simp only [noBs, Bool.and_eq_true] at h hw
    simp only [toDs, PyData.eqvAll, Bool.and_eq_true, List.cons.injEq, eqv_iff v w h.1 hw.1, eqvs_iff vs ws h.2 hw.2]
end
section
variable {S : Sto} {Q : Post} {i j : Int} {a b n : Bool} {x y : Str}
theorem cEq_dat {k l : Nat} {v w : Val} (hv : datB k v = true) (hw : datB l w = true) (hk : k ≤ 64) (hl : l ≤ 64) : cEq n v w S Q = Q (.bl (n ^^ PyData.eqv (toD v) (toD w))) S := by
  unfold cEq
  rw [if_pos (by rw [okD_of hv hk, okD_of hw hl]; rfl)]
theorem cEq_no {k l : Nat} {v w : Val} [Decidable (v = w)] (hv : datB k v = true) (hw : datB l w = true) (nv : noB v = true) (nw : noB w = true) (hk : k ≤ 64) (hl : l ≤ 64) : cEq n v w S Q = Q (.bl (n ^^ decide (v = w))) S := by
  rw [cEq_dat hv hw hk hl]
  have : PyData.eqv (toD v) (toD w) = decide (v = w) := by
    rw [Bool.eq_iff_iff, eqv_iff v w nv nw, decide_eq_true_eq]
  rw [this]
theorem r_eq_ii : cEq n (.int i) (.int j) S Q = Q (.bl (n ^^ decide (i = j))) S := by
  rw [cEq_dat (k := 0) (l := 0) (by simp only [datB]) (by simp only [datB]) (by decide) (by decide)]
  simp only [toD, PyData.eqv]
  rfl
theorem r_eq_bb : cEq n (.bl a) (.bl b) S Q = Q (.bl (n ^^ decide (a = b))) S := by
  rw [cEq_dat (k := 0) (l := 0) (by simp only [datB]) (by simp only [datB]) (by decide) (by decide)]
  simp only [toD, PyData.eqv]
  cases a <;> cases b <;> rfl
end
/-- a list of ints beside the empty list -/
theorem Dv_ints {S : Sto} : ∀ (ns : List Int), DvAll S (ns.map Val.int) (ns.map PyData.int)
  | [] => .nil
  | n :: ns => .cons (.int n) (Dv_ints ns)
theorem lay_ints : ∀ (ns : List Int), PyData.canLayAll0 (ns.map PyData.int) = true ∧ PyData.depthAll (ns.map PyData.int) = 0
  | [] => by simp [PyData.canLayAll0, PyData.depthAll]
  | n :: ns => by simp [PyData.canLayAll0, PyData.canLay0, PyData.depthAll, PyData.depth, lay_ints ns]
theorem shaped_ints (ns : List Int) : SeqAt.shaped (.list (ns.map PyData.int)) = true := by
  unfold SeqAt.shaped
  simp only [PyData.canLay0, PyData.depth, lay_ints ns]; rfl
theorem cEq_nil {S : Sto} {Q : Post} {n : Bool} {p q : Addr} {ns : List Int} (h : rdL S p (ns.map Val.int)) (h' : rdL S q []) (hq : Q (.bl (n ^^ ns.isEmpty)) S) : cEq n (.ref p) (.ref q) S Q := by
  unfold cEq
  rw [if_neg (by simp [okD, isPure])]
  refine .inr ⟨_, _, .lst h (Dv_ints ns), .lst h' .nil, shaped_ints ns, shaped_ints [], ?_⟩
  cases ns with
  | nil => exact hq
  | cons m ns => exact hq
end M

set_option maxHeartbeats 1000000
namespace M
open PySem PySem.Spec L2
local macro_rules | `(tactic| simp_wf) => `(tactic| simp only [wCs, w_asg, w_par, w_aug, w_ex, w_ret, w_retN, w_ite, w_brk, w_cnt, w_pass, w_rais, e_v, e_int, e_bl, e_non, e_str, e_g, e_bin, e_neg, e_cmp, e_chain, e_and, e_or, e_not, e_ife, e_tup, e_lst, e_ix, e_sl, e_rev, e_fld, e_call, e_new, e_meth, e_blt, e_mth, e_isi, e_isiT, e_dK0, e_dT0, e_repr, e_ktup, e_lrng1, e_lrng2, e_lrev, e_trev, e_dix, e_dg1, e_dg2, e_dsd, e_dpop, e_din, wEs, wAndV, wOrV, wB, wAnd, wOr, wBs, wP, r_nm, r_tgt, r_tgr, r_tgp, r_tgd, r_tgi, r_tgs, r_tgs0, wBin, wCmp,
  r_add_ii, r_add_ib, r_add_ss, r_add_tt, r_add_rr, r_sub_ii, r_mul_ii, r_mul_ri, r_mul_ti, r_div_ii, r_mod_ii, r_pow_ii, r_shl_ii, r_shr_ii, r_and_ii, r_xor_ii, r_int, r_is_n, r_is_b, r_tru_b, r_tru_i, r_tru_n, r_tru_t, r_tru_r, r_ix_t, r_ix_r, r_sl_t, r_sl_r, r_len_t, r_len_s, r_abs, r_min2, r_max2, r_int1, r_int1b, r_str1, r_list1, r_tuple1, r_tuple1t, r_tuple1p, r_len_p, r_sorted1t, r_ix_p, r_valD_p, r_ty_p, r_tindex, r_tyM_tindex, r_reverse, r_tyM_reverse, r_remove, r_tyM_remove, r_append, r_pop0, r_pop1, r_insert, r_extend, r_count, r_index, r_sum1, r_sorted1, r_tyM_pop1, r_tyM_insert, r_tyM_extend, r_tyM_count, r_tyM_index, r_fld, r_tgf, r_tyM_append, r_tyM_pop0, r_valD_t, r_valD_r, r_ty_n, r_ty_b, r_ty_i, r_ty_s, r_ty_t, r_is_non_int, r_is_non_bool, r_is_non_str, r_is_non_tuple, r_is_non_list, r_is_non_dict, r_is_bl_int, r_is_bl_bool, r_is_bl_str, r_is_bl_tuple, r_is_bl_list, r_is_bl_dict, r_is_int_int, r_is_int_bool, r_is_int_str, r_is_int_tuple, r_is_int_list, r_is_int_dict, r_is_str_int, r_is_str_bool, r_is_str_str, r_is_str_tuple, r_is_str_list, r_is_str_dict, r_is_ptup_int, r_is_ptup_bool, r_is_ptup_str, r_is_ptup_tuple, r_is_ptup_list, r_is_ptup_dict, r_is_tup_int, r_is_tup_bool, r_is_tup_str, r_is_tup_tuple, r_is_tup_list, r_is_tup_dict, isNon, r_at0, r_at1, r_at2, r_at3, r_at4, r_at5, r_eq_ii, r_eq_bb,
  List.getElem?_cons_zero, List.getElem?_cons_succ, List.set_cons_zero, List.set_cons_succ, setAll, Option.some.injEq, Val.int.injEq, Val.bl.injEq, Val.tup.injEq, Val.ref.injEq, exists_eq_left', exists_eq_left, exists_eq_right, Bool.false_eq_true, if_true, if_false, List.isEmpty_nil, List.isEmpty_cons, true_and, and_true, ↓reduceIte, List.length_cons, List.length_nil, startL, List.map_cons, List.map_nil, Bool.not_true, Bool.not_false, Nat.reduceAdd, Nat.reduceSub, List.replicate, List.cons_append, List.nil_append, reduceCtorEq, false_and, exists_false, List.cons.injEq, Bool.false_xor, Bool.true_xor, wipeL, Int.reduceNeg, Int.cast_ofNat_Int, decide_true, decide_false, Int.reduceEq, decide_eq_true_eq, r_nd, r_sl0, r_sl1, r_sl2, r_sl3, r_sl4, r_sl5, r_sl6, r_sl7, r_sl8, r_sl9, r_sl10, r_sl11, r_sl12, r_sl13, r_sl14, r_sl15, r_sl16, r_sl17, r_sl18, r_sl19, r_sl20, r_sl21, r_sl22, r_sl23, r_sl24, decide_eq_false_iff_not, not_true_eq_false, not_false_eq_true, Int.not_lt, Int.not_le])
def cd (a b : Int) : Int := (Int.gcd a b : Nat)
def spCd : Spec
  | [.int a, .int b], S, Q, _ => Q (.int (cd a b)) S
  | _, _, _, _ => False
def N_common_divisor : List Str := ["one", "other"]
def P_common_divisor : List Str := ["one", "other"]
def B_common_divisor : List C := [
  .par [0, 1] [.blt .abs [.v 0], .blt .abs [.v 1]],
  .whil (.cmp .Gt (.v 1) (.int 0)) [.par [0, 1] [.v 1, .bin .Mod (.v 0) (.v 1)]],
  .ret (.v 0)]
theorem abs_if (a : Int) : (if a < 0 then -a else a) = a.natAbs := by split <;> omega
theorem gcd_mod {x y : Int} (hx : 0 ≤ x) (hy : 0 ≤ y) : Int.gcd y (x % y) = Int.gcd x y := by
  obtain ⟨n, rfl⟩ := Int.eq_ofNat_of_zero_le hx
  obtain ⟨m, rfl⟩ := Int.eq_ofNat_of_zero_le hy
  show Nat.gcd m (n % m) = Nat.gcd n m
  rw [Nat.gcd_comm m (n % m), ← Nat.gcd_rec, Nat.gcd_comm]
theorem gcd_zero' {x : Int} (h : 0 ≤ x) : ((Int.gcd x 0 : Nat) : Int) = x := by
  rw [Int.gcd_zero_right]; omega
theorem cd_pos {a b : Int} (h : b ≠ 0) : 0 < cd a b := by
  unfold cd
  have : 0 < Int.gcd a b := Int.gcd_pos_of_ne_zero_right a h
  omega
theorem body_common_divisor {G : Gam} : Body G N_common_divisor P_common_divisor B_common_divisor spCd := by
  intro vs S Q X h
  unfold spCd at h
  split at h
  · rename_i a b
    refine ⟨rfl, ?_⟩
    simp only [B_common_divisor, N_common_divisor]
    simp_wf
    refine ⟨fun m ρ S' => ∃ x y : Int, ρ = [some (.int x), some (.int y)] ∧ S' = S ∧ 0 ≤ x ∧ 0 ≤ y ∧ Int.gcd x y = Int.gcd a b ∧ m = y.toNat, ⟨_, _, _, rfl, rfl, ?_, ?_, ?_, rfl⟩, ?_⟩
    · rw [abs_if]; omega
    · rw [abs_if]; omega
    · rw [abs_if, abs_if]; rfl
    · rintro m ρ S' ⟨x, y, rfl, rfl, hx, hy, hg, rfl⟩
      simp_wf
      split
      · rename_i hlt
        rw [imod_pos hlt]
        have h1 := Int.emod_nonneg x (show y ≠ 0 by omega)
        have h2 := Int.emod_lt_of_pos x hlt
        exact ⟨by omega, _, by omega, _, _, ⟨rfl, rfl⟩, hy, h1, by rw [gcd_mod hx hy, hg], rfl⟩
      · rename_i hlt
        have : y = 0 := by omega
        subst this
        refine ⟨_, .refl, ?_⟩
        unfold cd at h
        rw [← hg, gcd_zero' hx] at h
        exact h
  · exact h.elim
/-- the fraction of two ints -/
def fr (a b : Int) : Int × Int := if b < 0 then ((0 - a) / cd (0 - a) (0 - b), (0 - b) / cd (0 - a) (0 - b)) else (a / cd a b, b / cd a b)
def vF (p : Int × Int) : Val := .tup [.int p.1, .int p.2]
def SzF (n : Nat) (p : Int × Int) : Prop := Sz n p.1 ∧ Sz n p.2
/-- what a type is asked of -/
def isPt : Val → Bool
  | .ptup _ => true
  | _ => false
def okTy (v : Val) (S : Sto) : Prop := ∃ n, tyName v S = some n ∧ n ∈ ["NoneType", "bool", "int", "str", "tuple", "list", "dict"] ∧ isPt v = false
def isI : Val → Bool
  | .int _ => true
  | _ => false
def isB : Val → Bool
  | .bl _ => true
  | _ => false
theorem kb_int : kitB "NoneType" "int" = some false ∧ kitB "bool" "int" = some true ∧ kitB "int" "int" = some true ∧ kitB "str" "int" = some false ∧ kitB "tuple" "int" = some false ∧ kitB "list" "int" = some false ∧ kitB "dict" "int" = some false := by decide +kernel
theorem kb_bool : kitB "NoneType" "bool" = some false ∧ kitB "bool" "bool" = some true ∧ kitB "int" "bool" = some false ∧ kitB "str" "bool" = some false ∧ kitB "tuple" "bool" = some false ∧ kitB "list" "bool" = some false ∧ kitB "dict" "bool" = some false := by decide +kernel
theorem isi_int {v : Val} {S : Sto} (h : okTy v S) : ∃ n k, tyName v S = some n ∧ kitB n "int" = some k ∧ k = (isI v || isB v) := by
  obtain ⟨n, e, hn⟩ := h
  refine ⟨n, _, e, ?_, rfl⟩
  obtain ⟨k1, k2, k3, k4, k5, k6, k7⟩ := kb_int
  cases v <;> simp only [tyName, Option.some.injEq] at e <;> (try subst e) <;> simp only [isI, isB, *] <;> try rfl
  split at e <;> simp only [Option.some.injEq, reduceCtorEq] at e <;> subst e <;> simp only [*] <;> rfl
theorem isi_bool {v : Val} {S : Sto} (h : okTy v S) : ∃ n k, tyName v S = some n ∧ kitB n "bool" = some k ∧ k = isB v := by
  obtain ⟨n, e, hn⟩ := h
  refine ⟨n, _, e, ?_, rfl⟩
  obtain ⟨k1, k2, k3, k4, k5, k6, k7⟩ := kb_bool
  cases v <;> simp only [tyName, Option.some.injEq] at e <;> (try subst e) <;> simp only [isI, isB, *] <;> try rfl
  split at e <;> simp only [Option.some.injEq, reduceCtorEq] at e <;> subst e <;> simp only [*]
theorem okTy.of {v : Val} {S : Sto} (h : ∀ a, v = .ref a → ∃ xs, rdL S a xs) (hp : isPt v = false) : okTy v S := by
  cases v
  case ptup => cases hp
  case ref a =>
    obtain ⟨xs, r⟩ := h a rfl
    rcases r.cases with e | e <;> exact ⟨"list", by simp only [tyName, e], by simp, rfl⟩
  all_goals exact ⟨_, rfl, by simp, rfl⟩
def spInt : Spec
  | [v], S, Q, _ => okTy v S ∧ Q (.bl (isI v)) S
  | _, _, _, _ => False
def spAs : Spec
  | [.int a, .int b], S, Q, _ => b ≠ 0 ∧ Sz 9000 b ∧ Q (vF (fr a b)) S
  | _, _, _, _ => False
def ofF : Val → Option (Int × Int)
  | .tup [.int a, .int b] => some (a, b)
  | _ => none
@[simp] theorem ofF_vF (p : Int × Int) : ofF (vF p) = some p := rfl
/-- of two fractions -/
def spF2 (f : Int × Int → Int × Int → Val) : Spec
  | [v, w], S, Q, _ => ∃ p q, v = vF p ∧ w = vF q ∧ p.2 ≠ 0 ∧ q.2 ≠ 0 ∧ SzF 4000 p ∧ SzF 4000 q ∧ Q (f p q) S
  | _, _, _, _ => False
def fPlus (p q : Int × Int) : Int × Int := fr (p.1 * q.2 + q.1 * p.2) (p.2 * q.2)
def N_is_int : List Str := ["thing"]
def P_is_int : List Str := ["thing"]
def B_is_int : List C := [
  .ret (.and [.isi (.v 0) "int", .not (.isi (.v 0) "bool")])]
theorem body_is_int {G : Gam} : Body G N_is_int P_is_int B_is_int spInt := by
  intro vs S Q X h
  unfold spInt at h
  split at h
  · rename_i v
    refine ⟨rfl, ?_⟩
    obtain ⟨ok, h⟩ := h
    simp only [B_is_int, N_is_int]
    obtain ⟨n1, k1, e1, e2, e3⟩ := isi_int ok
    obtain ⟨n2, k2, f1, f2, f3⟩ := isi_bool ok
    simp_wf
    rw [vIsi_row e1 e2]
    simp_wf
    split
    · rename_i hk
      have e : (!k2) = isI v := by cases v <;> simp_all [isI, isB]
      rw [vIsi_row f1 f2]
      simp_wf
      exact ⟨S, .refl, by rw [e]; exact h⟩
    · rename_i hk
      have e : false = isI v := by cases v <;> simp_all [isI, isB]
      exact ⟨S, .refl, by rw [e]; exact h⟩
  · exact h.elim
theorem fr_pos {a b : Int} (h : ¬ b < 0) : fr a b = (a / cd a b, b / cd a b) := by unfold fr; rw [if_neg h]
theorem Sz.cd {n : Nat} {a b : Int} (h : b ≠ 0) (s : Sz n b) : Sz n (cd a b) := s.of_le (by
  unfold M.cd
  have := Int.gcd_le_natAbs_right a h
  simpa using this)
def N_as_fraction : List Str := ["top", "bottom", "by"]
def P_as_fraction : List Str := ["top", "bottom"]
def B_as_fraction : List C := [
  .ite (.cmp .Lt (.v 1) (.int 0)) [.par [0, 1] [.bin .Sub (.int 0) (.v 0), .bin .Sub (.int 0) (.v 1)]] [],
  .asg (.nm 2) (.call "common_divisor" [.v 0, .v 1]),
  .ret (.tup [.bin .FloorDiv (.v 0) (.v 2), .bin .FloorDiv (.v 1) (.v 2)])]
theorem as_core {G : Gam} (g2 : G.fn "common_divisor" = some spCd) {a b : Int} {D : En} {S : Sto} (hb : b ≠ 0) (hs : Sz 9000 b) (h : D.rt (vF (a / cd a b, b / cd a b)) S) :
    wCs G [.asg (.nm 2) (.call "common_divisor" [.v 0, .v 1]), .ret (.tup [.bin .FloorDiv (.v 0) (.v 2), .bin .FloorDiv (.v 1) (.v 2)])] D [some (.int a), some (.int b), none] S := by
  simp_wf
  simp only [g2, Option.some.injEq, exists_eq_left']
  refine .of ?_
  simp only [spCd]
  simp_wf
  have hp := cd_pos (a := a) hb
  have d : ∀ x, DivOk x (cd a b) := fun x => divOk_of (by omega) (Sz.cd hb hs)
  refine ⟨d _, d _, ?_⟩
  rw [idiv_pos hp, idiv_pos hp]
  exact h
theorem body_as_fraction {G : Gam} (g2 : G.fn "common_divisor" = some spCd) : Body G N_as_fraction P_as_fraction B_as_fraction spAs := by
  intro vs S Q X h
  unfold spAs at h
  split at h
  · rename_i a b
    refine ⟨rfl, ?_⟩
    obtain ⟨hb, hs, h⟩ := h
    simp only [B_as_fraction, N_as_fraction]
    refine wCs_step fun nx hn => ?_
    simp_wf
    unfold fr at h
    split
    · rename_i hl
      rw [if_pos hl] at h
      subst hn
      refine as_core g2 (by omega) ?_ ⟨S, .refl, h⟩
      unfold Sz at hs ⊢; omega
    · rename_i hl
      rw [if_neg hl] at h
      subst hn
      exact as_core g2 hb hs ⟨S, .refl, h⟩
  · exact h.elim
theorem SzF.m {n : Nat} {p q : Int × Int} (hp : SzF n p) (hq : SzF n q) : MulOk p.1 q.1 ∨ True := .inr trivial
theorem fr2_ok {p q : Int × Int} (hp : SzF 4000 p) (hq : SzF 4000 q) : MulOk p.1 q.1 ∧ MulOk p.1 q.2 ∧ MulOk p.2 q.1 ∧ MulOk p.2 q.2 :=
  ⟨hp.1.mulOk hq.1 (by decide), hp.1.mulOk hq.2 (by decide), hp.2.mulOk hq.1 (by decide), hp.2.mulOk hq.2 (by decide)⟩
theorem fr2_sz {p q : Int × Int} (hp : SzF 4000 p) (hq : SzF 4000 q) (a : p.2 ≠ 0) (b : q.2 ≠ 0) : p.2 * q.2 ≠ 0 ∧ Sz 9000 (p.2 * q.2) := ⟨Int.mul_ne_zero a b, (hp.2.mul hq.2).mono (by decide)⟩
def N_plus : List Str := ["one", "other"]
def P_plus : List Str := ["one", "other"]
def B_plus : List C := [
  .ret (.call "as_fraction" [.bin .Add (.bin .Mult (.ix (.v 0) (.int 0)) (.ix (.v 1) (.int 1))) (.bin .Mult (.ix (.v 1) (.int 0)) (.ix (.v 0) (.int 1))), .bin .Mult (.ix (.v 0) (.int 1)) (.ix (.v 1) (.int 1))])]
theorem body_plus {G : Gam} (g : G.fn "as_fraction" = some spAs) : Body G N_plus P_plus B_plus (spF2 fun p q => vF (fPlus p q)) := by
  intro vs S Q X h
  unfold spF2 at h
  split at h
  · obtain ⟨p, q, rfl, rfl, np, nq, sp, sq, h⟩ := h
    refine ⟨rfl, ?_⟩
    obtain ⟨a, b⟩ := p
    obtain ⟨c, d⟩ := q
    obtain ⟨m1, m2, m3, m4⟩ := fr2_ok sp sq
    obtain ⟨n1, n2, n3, n4⟩ := fr2_ok sq sp
    obtain ⟨z1, z2⟩ := fr2_sz sp sq np nq
    simp only [B_plus, N_plus, vF]
    simp_wf
    simp only [g, Option.some.injEq, exists_eq_left', m1, m2, m3, m4, n1, n2, n3, n4, true_and]
    exact .of ⟨z1, z2, S, .refl, h⟩
  · exact h.elim
end M

set_option maxHeartbeats 1000000
namespace M
open PySem PySem.Spec L2
local macro_rules | `(tactic| simp_wf) => `(tactic| simp only [wCs, w_asg, w_par, w_aug, w_ex, w_ret, w_retN, w_ite, w_brk, w_cnt, w_pass, w_rais, e_v, e_int, e_bl, e_non, e_str, e_g, e_bin, e_neg, e_cmp, e_chain, e_and, e_or, e_not, e_ife, e_tup, e_lst, e_ix, e_sl, e_rev, e_fld, e_call, e_new, e_meth, e_blt, e_mth, e_isi, e_isiT, e_dK0, e_dT0, e_repr, e_ktup, e_lrng1, e_lrng2, e_lrev, e_trev, e_dix, e_dg1, e_dg2, e_dsd, e_dpop, e_din, wEs, wAndV, wOrV, wB, wAnd, wOr, wBs, wP, r_nm, r_tgt, r_tgr, r_tgp, r_tgd, r_tgi, r_tgs, r_tgs0, wBin, wCmp,
  r_add_ii, r_add_ib, r_add_ss, r_add_tt, r_add_rr, r_sub_ii, r_mul_ii, r_mul_ri, r_mul_ti, r_div_ii, r_mod_ii, r_pow_ii, r_shl_ii, r_shr_ii, r_and_ii, r_xor_ii, r_int, r_is_n, r_is_b, r_tru_b, r_tru_i, r_tru_n, r_tru_t, r_tru_r, r_ix_t, r_ix_r, r_sl_t, r_sl_r, r_len_t, r_len_s, r_abs, r_min2, r_max2, r_int1, r_int1b, r_str1, r_list1, r_tuple1, r_tuple1t, r_tuple1p, r_len_p, r_sorted1t, r_ix_p, r_valD_p, r_ty_p, r_tindex, r_tyM_tindex, r_reverse, r_tyM_reverse, r_remove, r_tyM_remove, r_append, r_pop0, r_pop1, r_insert, r_extend, r_count, r_index, r_sum1, r_sorted1, r_tyM_pop1, r_tyM_insert, r_tyM_extend, r_tyM_count, r_tyM_index, r_fld, r_tgf, r_tyM_append, r_tyM_pop0, r_valD_t, r_valD_r, r_ty_n, r_ty_b, r_ty_i, r_ty_s, r_ty_t, r_is_non_int, r_is_non_bool, r_is_non_str, r_is_non_tuple, r_is_non_list, r_is_non_dict, r_is_bl_int, r_is_bl_bool, r_is_bl_str, r_is_bl_tuple, r_is_bl_list, r_is_bl_dict, r_is_int_int, r_is_int_bool, r_is_int_str, r_is_int_tuple, r_is_int_list, r_is_int_dict, r_is_str_int, r_is_str_bool, r_is_str_str, r_is_str_tuple, r_is_str_list, r_is_str_dict, r_is_ptup_int, r_is_ptup_bool, r_is_ptup_str, r_is_ptup_tuple, r_is_ptup_list, r_is_ptup_dict, r_is_tup_int, r_is_tup_bool, r_is_tup_str, r_is_tup_tuple, r_is_tup_list, r_is_tup_dict, isNon, r_at0, r_at1, r_at2, r_at3, r_at4, r_at5, r_eq_ii, r_eq_bb,
  List.getElem?_cons_zero, List.getElem?_cons_succ, List.set_cons_zero, List.set_cons_succ, setAll, Option.some.injEq, Val.int.injEq, Val.bl.injEq, Val.tup.injEq, Val.ref.injEq, exists_eq_left', exists_eq_left, exists_eq_right, Bool.false_eq_true, if_true, if_false, List.isEmpty_nil, List.isEmpty_cons, true_and, and_true, ↓reduceIte, List.length_cons, List.length_nil, startL, List.map_cons, List.map_nil, Bool.not_true, Bool.not_false, Nat.reduceAdd, Nat.reduceSub, List.replicate, List.cons_append, List.nil_append, reduceCtorEq, false_and, exists_false, List.cons.injEq, Bool.false_xor, Bool.true_xor, wipeL, Int.reduceNeg, Int.cast_ofNat_Int, decide_true, decide_false, Int.reduceEq, decide_eq_true_eq, r_nd, r_sl0, r_sl1, r_sl2, r_sl3, r_sl4, r_sl5, r_sl6, r_sl7, r_sl8, r_sl9, r_sl10, r_sl11, r_sl12, r_sl13, r_sl14, r_sl15, r_sl16, r_sl17, r_sl18, r_sl19, r_sl20, r_sl21, r_sl22, r_sl23, r_sl24, decide_eq_false_iff_not, not_true_eq_false, not_false_eq_true, Int.not_lt, Int.not_le])
theorem cd_dvd_l (a b : Int) : cd a b ∣ a := by unfold cd; exact Int.gcd_dvd_left ..
theorem cd_dvd_r (a b : Int) : cd a b ∣ b := by unfold cd; exact Int.gcd_dvd_right ..
theorem cd_div {a b : Int} (h : b ≠ 0) : cd (a / cd a b) (b / cd a b) = 1 := by
  unfold cd
  have hp : 0 < Int.gcd a b := Int.gcd_pos_of_ne_zero_right a h
  have := Int.gcd_ediv_gcd_ediv_gcd hp
  omega
theorem fr_core {a b : Int} (h : 0 < b) : 0 < b / cd a b ∧ (a / cd a b) * b = a * (b / cd a b) ∧ cd (a / cd a b) (b / cd a b) = 1 ∧ (a / cd a b).natAbs ≤ a.natAbs ∧ (b / cd a b).natAbs ≤ b.natAbs := by
  have hg := cd_pos (a := a) (show b ≠ 0 by omega)
  obtain ⟨x, hx⟩ := cd_dvd_l a b
  obtain ⟨y, hy⟩ := cd_dvd_r a b
  have e1 : a / cd a b = x := by
    have := Int.mul_ediv_cancel_left x (show cd a b ≠ 0 by omega)
    rw [← hx] at this; exact this
  have e2 : b / cd a b = y := by
    have := Int.mul_ediv_cancel_left y (show cd a b ≠ 0 by omega)
    rw [← hy] at this; exact this
  refine ⟨?_, ?_, cd_div (by omega), Int.natAbs_ediv_le_natAbs .., Int.natAbs_ediv_le_natAbs ..⟩
  · rw [e2]
    rcases Int.lt_trichotomy y 0 with z | z | z
    · have : cd a b * y < 0 := Int.mul_neg_of_pos_of_neg hg z
      omega
    · subst z; simp at hy; omega
    · exact z
  · rw [e1, e2]
    calc x * b = x * (cd a b * y) := by rw [← hy]
      _ = (cd a b * x) * y := by grind
      _ = a * y := by rw [← hx]
structure FrOk (a b : Int) (f : Int × Int) : Prop where
  pos : 0 < f.2
  eq : f.1 * b = a * f.2
  low : cd f.1 f.2 = 1
  l1 : f.1.natAbs ≤ a.natAbs
  l2 : f.2.natAbs ≤ b.natAbs
theorem fr_ok {a b : Int} (h : b ≠ 0) : FrOk a b (fr a b) := by
  unfold fr
  split
  · obtain ⟨h1, h2, h3, h4, h5⟩ := fr_core (a := 0 - a) (b := 0 - b) (by omega)
    refine ⟨h1, ?_, h3, by simpa using h4, by simpa using h5⟩
    dsimp only
    generalize (0 - a) / cd (0 - a) (0 - b) = x at *
    generalize (0 - b) / cd (0 - a) (0 - b) = y at *
    have : x * (0 - b) = -(x * b) := by grind
    have : (0 - a) * y = -(a * y) := by grind
    omega
  · obtain ⟨h1, h2, h3, h4, h5⟩ := fr_core (a := a) (b := b) (by omega)
    exact ⟨h1, h2, h3, h4, h5⟩
theorem FrOk.sz {a b : Int} {f : Int × Int} {m n : Nat} (h : FrOk a b f) (ha : Sz m a) (hb : Sz n b) : Sz m f.1 ∧ Sz n f.2 := ⟨ha.of_le h.l1, hb.of_le h.l2⟩
theorem FrOk.ne {a b : Int} {f : Int × Int} (h : FrOk a b f) : f.2 ≠ 0 := by have := h.pos; omega
end M

set_option maxHeartbeats 1000000
namespace M
open PySem PySem.Spec L2
local macro_rules | `(tactic| simp_wf) => `(tactic| simp only [wCs, w_asg, w_par, w_aug, w_ex, w_ret, w_retN, w_ite, w_brk, w_cnt, w_pass, w_rais, e_v, e_int, e_bl, e_non, e_str, e_g, e_bin, e_neg, e_cmp, e_chain, e_and, e_or, e_not, e_ife, e_tup, e_lst, e_ix, e_sl, e_rev, e_fld, e_call, e_new, e_meth, e_blt, e_mth, e_isi, e_isiT, e_dK0, e_dT0, e_repr, e_ktup, e_lrng1, e_lrng2, e_lrev, e_trev, e_dix, e_dg1, e_dg2, e_dsd, e_dpop, e_din, wEs, wAndV, wOrV, wB, wAnd, wOr, wBs, wP, r_nm, r_tgt, r_tgr, r_tgp, r_tgd, r_tgi, r_tgs, r_tgs0, wBin, wCmp,
  r_add_ii, r_add_ib, r_add_ss, r_add_tt, r_add_rr, r_sub_ii, r_mul_ii, r_mul_ri, r_mul_ti, r_div_ii, r_mod_ii, r_pow_ii, r_shl_ii, r_shr_ii, r_and_ii, r_xor_ii, r_int, r_is_n, r_is_b, r_tru_b, r_tru_i, r_tru_n, r_tru_t, r_tru_r, r_ix_t, r_ix_r, r_sl_t, r_sl_r, r_len_t, r_len_s, r_abs, r_min2, r_max2, r_int1, r_int1b, r_str1, r_list1, r_tuple1, r_tuple1t, r_tuple1p, r_len_p, r_sorted1t, r_ix_p, r_valD_p, r_ty_p, r_tindex, r_tyM_tindex, r_reverse, r_tyM_reverse, r_remove, r_tyM_remove, r_append, r_pop0, r_pop1, r_insert, r_extend, r_count, r_index, r_sum1, r_sorted1, r_tyM_pop1, r_tyM_insert, r_tyM_extend, r_tyM_count, r_tyM_index, r_fld, r_tgf, r_tyM_append, r_tyM_pop0, r_valD_t, r_valD_r, r_ty_n, r_ty_b, r_ty_i, r_ty_s, r_ty_t, r_is_non_int, r_is_non_bool, r_is_non_str, r_is_non_tuple, r_is_non_list, r_is_non_dict, r_is_bl_int, r_is_bl_bool, r_is_bl_str, r_is_bl_tuple, r_is_bl_list, r_is_bl_dict, r_is_int_int, r_is_int_bool, r_is_int_str, r_is_int_tuple, r_is_int_list, r_is_int_dict, r_is_str_int, r_is_str_bool, r_is_str_str, r_is_str_tuple, r_is_str_list, r_is_str_dict, r_is_ptup_int, r_is_ptup_bool, r_is_ptup_str, r_is_ptup_tuple, r_is_ptup_list, r_is_ptup_dict, r_is_tup_int, r_is_tup_bool, r_is_tup_str, r_is_tup_tuple, r_is_tup_list, r_is_tup_dict, isNon, r_at0, r_at1, r_at2, r_at3, r_at4, r_at5, r_eq_ii, r_eq_bb,
  List.getElem?_cons_zero, List.getElem?_cons_succ, List.set_cons_zero, List.set_cons_succ, setAll, Option.some.injEq, Val.int.injEq, Val.bl.injEq, Val.tup.injEq, Val.ref.injEq, exists_eq_left', exists_eq_left, exists_eq_right, Bool.false_eq_true, if_true, if_false, List.isEmpty_nil, List.isEmpty_cons, true_and, and_true, ↓reduceIte, List.length_cons, List.length_nil, startL, List.map_cons, List.map_nil, Bool.not_true, Bool.not_false, Nat.reduceAdd, Nat.reduceSub, List.replicate, List.cons_append, List.nil_append, reduceCtorEq, false_and, exists_false, List.cons.injEq, Bool.false_xor, Bool.true_xor, wipeL, Int.reduceNeg, Int.cast_ofNat_Int, decide_true, decide_false, Int.reduceEq, decide_eq_true_eq, r_nd, r_sl0, r_sl1, r_sl2, r_sl3, r_sl4, r_sl5, r_sl6, r_sl7, r_sl8, r_sl9, r_sl10, r_sl11, r_sl12, r_sl13, r_sl14, r_sl15, r_sl16, r_sl17, r_sl18, r_sl19, r_sl20, r_sl21, r_sl22, r_sl23, r_sl24, decide_eq_false_iff_not, not_true_eq_false, not_false_eq_true, Int.not_lt, Int.not_le])
def N_Lcell_at : List Str := ["_law_script", "_law_k"]
def P_Lcell_at : List Str := ["_law_script", "_law_k"]
def B_Lcell_at : List C := [
  .ite (.cmp .Lt (.v 1) (.blt .len [.v 0])) [.ret (.ix (.v 0) (.v 1))] [],
  .ret (.int 0)]
def spCell : Spec
  | [.ref p, .int k], S, Q, _ => (∃ ns : List Int, rdL S p (ns.map .int)) ∧ 0 ≤ k ∧ ∀ i : Int, Q (.int i) S
  | _, _, _, _ => False
theorem body_Lcell_at {G : Gam} : Body G N_Lcell_at P_Lcell_at B_Lcell_at spCell := by
  intro vs S Q X h
  unfold spCell at h
  split at h
  · rename_i p k
    obtain ⟨⟨ns, hp⟩, hk, h⟩ := h
    refine ⟨rfl, ?_⟩
    simp only [B_Lcell_at, N_Lcell_at]
    refine wCs_step fun nx hn => ?_
    simp_wf
    rw [r_len hp]
    simp_wf
    split
    · rename_i hl
      simp only [List.length_map, decide_eq_true_eq] at hl
      obtain ⟨j, rfl⟩ := Int.eq_ofNat_of_zero_le hk
      have hj : j < ns.length := by omega
      refine ⟨_, .int ns[j], hp, ?_, S, .refl, h _⟩
      rw [atI_nat]; simp [hj]
    · subst hn
      simp_wf
      exact ⟨S, .refl, h _⟩
  · exact h.elim
/-- a list of ints -/
def vI (ns : List Int) : List Val := ns.map .int
theorem vI_app {ns : List Int} {i : Int} : vI ns ++ [.int i] = vI (ns ++ [i]) := by unfold vI; simp
theorem vI_len {ns : List Int} : (vI ns).length = ns.length := by unfold vI; simp
theorem vI_rev {ns : List Int} : (vI ns).reverse = vI ns.reverse := by unfold vI; simp
theorem rd_upd {S : Sto} {p : Addr} {xs : List Val} : rdL (S.upd p (.lst xs)) p xs := .lst Sto.upd_same
def N_Lstream : List Str := ["_law_cell", "_law_many", "_law_found", "_law_k", "_law_number_here", "_law_other"]
def P_Lstream : List Str := ["_law_cell", "_law_many"]
def B_Lstream : List C := [
  .asg (.nm 2) (.lst []),
  .ite (.cmp .GtE (.v 0) (.bin .Pow (.int 10) (.int 18))) [.loop (.nm 3) (.rng1 (.v 1)) [.ex (.mth .append (.v 2) [.bin .Mod (.v 0) (.int 1000)]), .asg (.nm 0) (.bin .FloorDiv (.v 0) (.int 1000))], .ret (.rev (.v 2))] [],
  .asg (.nm 4) (.bin .Add (.bin .Mod (.v 0) (.int 2147483647)) (.int 48271)),
  .asg (.nm 5) (.bin .Add (.bin .Mod (.v 0) (.int 2147483629)) (.int 69621)),
  .loop (.nm 3) (.rng1 (.v 1)) [.asg (.nm 4) (.bin .Mod (.bin .Add (.bin .Add (.bin .Mult (.v 4) (.int 39373)) (.bin .Mult (.v 3) (.v 3))) (.int 1)) (.int 2147483647)), .asg (.nm 5) (.bin .Mod (.bin .Add (.bin .Mult (.v 5) (.int 48271)) (.bin .Mod (.v 4) (.int 7919))) (.int 2147483629)), .ex (.mth .append (.v 2) [.bin .FloorDiv (.bin .Add (.v 4) (.bin .Mult (.int 3) (.v 5))) (.int 5)])],
  .ret (.v 2)]
def spStream : Spec
  | [.int _, .int m], S, Q, _ => 0 ≤ m ∧ m ≤ 1000000 ∧ ∀ p ns, S p = none → ns.length = m.toNat → Q (.ref p) (S.upd p (.lst (vI ns)))
  | _, _, _, _ => False
theorem szSmall {i : Int} {n : Nat} (h : i.natAbs < 2 ^ n) : Sz n i := h
theorem body_Lstream {G : Gam} : Body G N_Lstream P_Lstream B_Lstream spStream := by
  intro vs S Q X h
  unfold spStream at h
  split at h
  · rename_i c m
    obtain ⟨m0, m1, h⟩ := h
    refine ⟨rfl, ?_⟩
    simp only [B_Lstream, N_Lstream]
    refine wCs_step fun nx hn => ?_
    simp_wf
    refine fun p hp => ?_
    subst hn
    have hm : small62 m := by unfold small62; omega
    refine wCs_step fun nx hn => ?_
    simp_wf
    refine ⟨by decide, ?_⟩
    split
    · clear hn
      refine loop_rng1 (S1 := S.upd p (.lst [])) (j := m) (fun r ρ S' => ∃ (c' : Int) (k : Option Val) (xs : List Int), ρ = [some (.int c'), some (.int m), some (.ref p), k, none, none] ∧ S' = S.upd p (.lst (vI xs)) ∧ xs.length + r.length = m.toNat) (fun Q q => by simp_wf; exact q) hm ⟨c, _, [], rfl, rfl, by simp [rngV_len]⟩ ?_ ?_
      · rintro ρ S' ⟨c', k, xs, rfl, rfl, hl⟩
        simp_wf
        refine ⟨_, _, rfl, rd_upd, fun q hq => ?_⟩
        rw [vI_rev]
        have hS : S q = none := by
          by_cases e : q = p
          · subst e; exact hp
          · rw [Sto.upd_ne e] at hq; exact hq
        refine ⟨S.upd q (.lst (vI xs.reverse)), (Sto.le.new .refl hp).upd, h _ _ hS ?_⟩
        simpa using hl
      · rintro x r ρ S' ⟨c', k, xs, rfl, rfl, hl⟩ D' hnx hct hrt hbk hxc
        simp_wf
        refine ⟨⟨_, rd_upd⟩, by decide, _, Sto.upd_same, ?_, ?_⟩
        · rw [vI_len]; have : xs.length ≤ 1000000 := by omega
          exact Nat.lt_of_le_of_lt this (by decide)
        · refine ⟨divOk_s (by decide) (by decide), hnx _ _ ⟨_, _, xs ++ [imod c' 1000], rfl, ?_, ?_⟩⟩
          · rw [Sto.upd_upd, vI_app]
          · simp at hl ⊢; omega
    · subst hn
      refine wCs_step fun nx hn => ?_
      simp_wf
      refine ⟨by decide, ?_⟩
      subst hn
      refine wCs_step fun nx hn => ?_
      simp_wf
      refine ⟨by decide, ?_⟩
      subst hn
      refine wCs_step fun nx hn => ?_
      rw [imod_pos (by decide), imod_pos (by decide)]
      refine loop_rng1 (S1 := S.upd p (.lst [])) (j := m) (fun r ρ S' => ∃ (a b : Int) (k : Option Val) (xs : List Int), ρ = [some (.int c), some (.int m), some (.ref p), k, some (.int a), some (.int b)] ∧ S' = S.upd p (.lst (vI xs)) ∧ xs.length + r.length = m.toNat ∧ 0 ≤ a ∧ a < 2 ^ 32 ∧ 0 ≤ b ∧ b < 2 ^ 32 ∧ ∀ x ∈ r, ∃ k : Int, x = .int k ∧ 0 ≤ k ∧ k < 1000000) (fun Q q => by simp_wf; exact q) hm ⟨_, _, _, [], rfl, rfl, by simp [rngV_len], ?_, ?_, ?_, ?_, ?_⟩ ?_ ?_
      · have := Int.emod_nonneg c (show (2147483647:Int) ≠ 0 by decide); omega
      · have := Int.emod_lt_of_pos c (show (0:Int) < 2147483647 by decide); omega
      · have := Int.emod_nonneg c (show (2147483629:Int) ≠ 0 by decide); omega
      · have := Int.emod_lt_of_pos c (show (0:Int) < 2147483629 by decide); omega
      · intro x hx
        obtain ⟨k, rfl, a, b⟩ := rngV_mem hx
        exact ⟨k, rfl, a, by omega⟩
      · rintro ρ S' ⟨a, b, k, xs, rfl, rfl, hl, _⟩
        subst hn
        simp_wf
        exact ⟨_, .refl, h _ _ hp (by simpa using hl)⟩
      · rintro x r ρ S' ⟨a, b, k, xs, rfl, rfl, hl, a0, a1, b0, b1, hk⟩ D' hnx hct hrt hbk hxc
        obtain ⟨k, rfl, k0, k1⟩ := hk x (by simp)
        simp_wf
        have sa : Sz 32 a := szSmall (by omega)
        have sb : Sz 32 b := szSmall (by omega)
        have sk : Sz 20 k := szSmall (by omega)
        rw [imod_pos (show (0:Int) < 2147483647 by decide), imod_pos (show (0:Int) < 7919 by decide), imod_pos (show (0:Int) < 2147483629 by decide)]
        have i1 := Int.emod_nonneg (a * 39373 + k * k + 1) (show (2147483647:Int) ≠ 0 by decide)
        have i2 := Int.emod_lt_of_pos (a * 39373 + k * k + 1) (show (0:Int) < 2147483647 by decide)
        have j1 := Int.emod_nonneg (b * 48271 + (a * 39373 + k * k + 1) % 2147483647 % 7919) (show (2147483629:Int) ≠ 0 by decide)
        have j2 := Int.emod_lt_of_pos (b * 48271 + (a * 39373 + k * k + 1) % 2147483647 % 7919) (show (0:Int) < 2147483629 by decide)
        generalize (a * 39373 + k * k + 1) % 2147483647 = a' at *
        generalize (b * 48271 + a' % 7919) % 2147483629 = b' at *
        have sb' : Sz 32 b' := szSmall (by omega)
        refine ⟨sa.mulOk (szSmall (n := 20) (by decide)) (by decide), sk.mulOk sk (by decide), by decide, sb.mulOk (szSmall (n := 20) (by decide)) (by decide), by decide, by decide, ⟨_, rd_upd⟩, Sz.mulOk (szSmall (n := 2) (by decide)) sb' (by decide), divOk_s (by decide) (by decide), _, Sto.upd_same, ?_, hnx _ _ ⟨a', b', _, xs ++ [idiv (a' + 3 * b') 5], rfl, ?_, ?_, i1, by omega, j1, by omega, fun x hx => hk x (by simp [hx])⟩⟩
        · rw [vI_len]; have : xs.length ≤ 1000000 := by omega
          exact Nat.lt_of_le_of_lt this (by decide)
        · rw [Sto.upd_upd, vI_app]
        · simp at hl ⊢; omega
  · exact h.elim
theorem vI_drop {ns : List Int} : (vI ns).dropLast = vI ns.dropLast := by unfold vI; rw [List.map_dropLast]
theorem vI_last {ns : List Int} (h : ns ≠ []) : (vI ns).getLast? = some (.int (ns.getLast h)) := by unfold vI; rw [List.getLast?_map, List.getLast?_eq_some_getLast h]; rfl
theorem Sto.ne_of {S : Sto} {p q : Addr} {o : MO} (h : S p = some o) (hq : S q = none) : p ≠ q := fun e => by subst e; rw [h] at hq; cases hq
theorem Sto.old {S : Sto} {p q : Addr} {o u : MO} (h : S p = some o) (hq : S q = none) : (S.upd q u) p = some o := by rw [Sto.upd_ne (Sto.ne_of h hq)]; exact h
theorem Sto.upd_comm {S : Sto} {p q : Addr} {o u : MO} (h : p ≠ q) : (S.upd p o).upd q u = (S.upd q u).upd p o := by
  funext a
  unfold Sto.upd
  by_cases e : a = p
  · subst e; simp [h]
  · by_cases e2 : a = q
    · subst e2; simp [e]
    · simp [e, e2]
def N_Lnext : List Str := ["_law_xs", "_law_many"]
def P_Lnext : List Str := ["_law_xs", "_law_many"]
def B_Lnext : List C := [
  .ite (.cmp .Eq (.v 0) (.lst [])) [.ret (.int 0)] [],
  .ret (.bin .Mod (.mth .pop0 (.v 0) []) (.v 1))]
def spNext : Spec
  | [.ref p, .int m], S, Q, _ => 0 < m ∧ (∃ ns, S p = some (.lst (vI ns))) ∧ ∀ r ns, 0 ≤ r → r < m → Q (.int r) (S.upd p (.lst (vI ns)))
  | _, _, _, _ => False
theorem body_Lnext {G : Gam} : Body G N_Lnext P_Lnext B_Lnext spNext := by
  intro vs S Q X h
  unfold spNext at h
  split at h
  · rename_i p m
    obtain ⟨hm, ⟨ns, hp⟩, h⟩ := h
    refine ⟨rfl, ?_⟩
    simp only [B_Lnext, N_Lnext]
    refine wCs_step fun nx hn => ?_
    simp_wf
    refine fun q hq => cEq_nil (ns := ns) (.lst (Sto.old hp hq)) rd_upd ?_
    simp_wf
    have l : S.le (S.upd q (.lst [])) := Sto.le.new .refl hq
    split
    · refine ⟨S, l, ?_⟩
      have := h 0 ns (by omega) hm
      rw [Sto.upd_eta hp] at this; exact this
    · rename_i hne
      have hns : ns ≠ [] := by simpa using hne
      subst hn
      simp_wf
      refine ⟨⟨_, .lst (Sto.old hp hq)⟩, _, _, Sto.old hp hq, vI_last hns, ?_⟩
      simp_wf
      rw [imod_pos hm]
      refine ⟨by omega, S.upd p (.lst (vI ns.dropLast)), ?_, h _ _ (Int.emod_nonneg _ (by omega)) (Int.emod_lt_of_pos _ hm)⟩
      rw [vI_drop]
      exact Sto.le.upd l
  · exact h.elim
end M

set_option maxHeartbeats 1000000
namespace M
open PySem PySem.Spec L2
local macro_rules | `(tactic| simp_wf) => `(tactic| simp only [wCs, w_asg, w_par, w_aug, w_ex, w_ret, w_retN, w_ite, w_brk, w_cnt, w_pass, w_rais, e_v, e_int, e_bl, e_non, e_str, e_g, e_bin, e_neg, e_cmp, e_chain, e_and, e_or, e_not, e_ife, e_tup, e_lst, e_ix, e_sl, e_rev, e_fld, e_call, e_new, e_meth, e_blt, e_mth, e_isi, e_isiT, e_dK0, e_dT0, e_repr, e_ktup, e_lrng1, e_lrng2, e_lrev, e_trev, e_dix, e_dg1, e_dg2, e_dsd, e_dpop, e_din, wEs, wAndV, wOrV, wB, wAnd, wOr, wBs, wP, r_nm, r_tgt, r_tgr, r_tgp, r_tgd, r_tgi, r_tgs, r_tgs0, wBin, wCmp,
  r_add_ii, r_add_ib, r_add_ss, r_add_tt, r_add_rr, r_sub_ii, r_mul_ii, r_mul_ri, r_mul_ti, r_div_ii, r_mod_ii, r_pow_ii, r_shl_ii, r_shr_ii, r_and_ii, r_xor_ii, r_int, r_is_n, r_is_b, r_tru_b, r_tru_i, r_tru_n, r_tru_t, r_tru_r, r_ix_t, r_ix_r, r_sl_t, r_sl_r, r_len_t, r_len_s, r_abs, r_min2, r_max2, r_int1, r_int1b, r_str1, r_list1, r_tuple1, r_tuple1t, r_tuple1p, r_len_p, r_sorted1t, r_ix_p, r_valD_p, r_ty_p, r_tindex, r_tyM_tindex, r_reverse, r_tyM_reverse, r_remove, r_tyM_remove, r_append, r_pop0, r_pop1, r_insert, r_extend, r_count, r_index, r_sum1, r_sorted1, r_tyM_pop1, r_tyM_insert, r_tyM_extend, r_tyM_count, r_tyM_index, r_fld, r_tgf, r_tyM_append, r_tyM_pop0, r_valD_t, r_valD_r, r_ty_n, r_ty_b, r_ty_i, r_ty_s, r_ty_t, r_is_non_int, r_is_non_bool, r_is_non_str, r_is_non_tuple, r_is_non_list, r_is_non_dict, r_is_bl_int, r_is_bl_bool, r_is_bl_str, r_is_bl_tuple, r_is_bl_list, r_is_bl_dict, r_is_int_int, r_is_int_bool, r_is_int_str, r_is_int_tuple, r_is_int_list, r_is_int_dict, r_is_str_int, r_is_str_bool, r_is_str_str, r_is_str_tuple, r_is_str_list, r_is_str_dict, r_is_ptup_int, r_is_ptup_bool, r_is_ptup_str, r_is_ptup_tuple, r_is_ptup_list, r_is_ptup_dict, r_is_tup_int, r_is_tup_bool, r_is_tup_str, r_is_tup_tuple, r_is_tup_list, r_is_tup_dict, isNon, r_at0, r_at1, r_at2, r_at3, r_at4, r_at5, r_eq_ii, r_eq_bb,
  List.getElem?_cons_zero, List.getElem?_cons_succ, List.set_cons_zero, List.set_cons_succ, setAll, Option.some.injEq, Val.int.injEq, Val.bl.injEq, Val.tup.injEq, Val.ref.injEq, exists_eq_left', exists_eq_left, exists_eq_right, Bool.false_eq_true, if_true, if_false, List.isEmpty_nil, List.isEmpty_cons, true_and, and_true, ↓reduceIte, List.length_cons, List.length_nil, startL, List.map_cons, List.map_nil, Bool.not_true, Bool.not_false, Nat.reduceAdd, Nat.reduceSub, List.replicate, List.cons_append, List.nil_append, reduceCtorEq, false_and, exists_false, List.cons.injEq, Bool.false_xor, Bool.true_xor, wipeL, Int.reduceNeg, Int.cast_ofNat_Int, decide_true, decide_false, Int.reduceEq, decide_eq_true_eq, r_nd, r_sl0, r_sl1, r_sl2, r_sl3, r_sl4, r_sl5, r_sl6, r_sl7, r_sl8, r_sl9, r_sl10, r_sl11, r_sl12, r_sl13, r_sl14, r_sl15, r_sl16, r_sl17, r_sl18, r_sl19, r_sl20, r_sl21, r_sl22, r_sl23, r_sl24, decide_eq_false_iff_not, not_true_eq_false, not_false_eq_true, Int.not_lt, Int.not_le])
def vQ (r : Rat) : Val := .tup [.int r.num, .int (r.den : Int)]
theorem vQ_inj {r s : Rat} : vQ r = vQ s ↔ r = s := by
  unfold vQ
  constructor
  · intro h
    simp only [Val.tup.injEq, List.cons.injEq, Val.int.injEq, and_true] at h
    exact Rat.ext h.1 (by have := h.2; omega)
  · rintro rfl; rfl
theorem frok_rat {a b : Int} {f : Int × Int} (hb : b ≠ 0) (h : FrOk a b f) : f = ((Rat.divInt a b).num, ((Rat.divInt a b).den : Int)) := by
  obtain ⟨x, y⟩ := f
  have hp := h.pos
  have he := h.eq
  have hl := h.low
  dsimp only at hp he hl
  obtain ⟨n, rfl⟩ := Int.eq_ofNat_of_zero_le (show 0 ≤ y by omega)
  have nz : n ≠ 0 := by omega
  have cop : x.natAbs.Coprime n := by
    unfold cd at hl
    show Nat.gcd _ _ = 1
    have : Int.gcd x n = Nat.gcd x.natAbs n := rfl
    omega
  have e : (Rat.mk' x n nz cop) = Rat.divInt a b := by
    rw [Rat.mk_eq_divInt, Rat.divInt_eq_divInt_iff (by omega) hb]
    exact he
  rw [← e]
theorem fr_rat {a b : Int} (hb : b ≠ 0) : vF (fr a b) = vQ (Rat.divInt a b) := by
  rw [frok_rat hb (fr_ok hb)]; rfl
/-- sizes -/
structure SzQ (n d : Nat) (r : Rat) : Prop where
  num : Sz n r.num
  den : r.den < 2 ^ d
theorem SzQ.mono {n d m e : Nat} {r : Rat} (h : SzQ n d r) (a : n ≤ m) (b : d ≤ e) : SzQ m e r := ⟨h.num.mono a, Nat.lt_of_lt_of_le h.den (Nat.pow_le_pow_right (by decide) b)⟩
theorem SzQ.dsz {n d : Nat} {r : Rat} (h : SzQ n d r) : Sz d (r.den : Int) := by unfold Sz; simpa using h.den
theorem divInt_sz {a b : Int} {n d : Nat} (hb : b ≠ 0) (ha : Sz n a) (hd : Sz d b) : SzQ n d (Rat.divInt a b) := by
  have f := fr_ok (a := a) hb
  rw [frok_rat hb f] at f
  have l1 := f.l1
  have l2 := f.l2
  dsimp only at l1 l2
  exact ⟨ha.of_le l1, by unfold Sz at hd; omega⟩
theorem den_ne (r : Rat) : (r.den : Int) ≠ 0 := by have := r.den_nz; omega
theorem den_pos (r : Rat) : 0 < (r.den : Int) := by have := r.den_nz; omega
theorem add_divInt (a b : Rat) : a + b = Rat.divInt (a.num * b.den + b.num * a.den) (a.den * b.den) := by
  have := Rat.divInt_add_divInt a.num b.num (den_ne a) (den_ne b)
  rw [Rat.num_divInt_den, Rat.num_divInt_den] at this
  exact this
theorem sub_divInt (a b : Rat) : a - b = Rat.divInt (a.num * b.den - b.num * a.den) (a.den * b.den) := by
  have := Rat.divInt_sub_divInt a.num b.num (den_ne a) (den_ne b)
  rw [Rat.num_divInt_den, Rat.num_divInt_den] at this
  exact this
theorem mul_divInt (a b : Rat) : a * b = Rat.divInt (a.num * b.num) (a.den * b.den) := by
  have := Rat.divInt_mul_divInt a.num b.num (d₁ := a.den) (d₂ := b.den)
  rw [Rat.num_divInt_den, Rat.num_divInt_den] at this
  exact this
theorem SzQ.add {n d m e : Nat} {r s : Rat} (h : SzQ n d r) (h' : SzQ m e s) : SzQ (max (n + e) (m + d) + 1) (d + e) (r + s) := by
  rw [add_divInt]
  exact divInt_sz (Int.mul_ne_zero (den_ne r) (den_ne s)) ((h.num.mul h'.dsz).add (h'.num.mul h.dsz)) (h.dsz.mul h'.dsz)
theorem SzQ.sub {n d m e : Nat} {r s : Rat} (h : SzQ n d r) (h' : SzQ m e s) : SzQ (max (n + e) (m + d) + 1) (d + e) (r - s) := by
  rw [sub_divInt]
  exact divInt_sz (Int.mul_ne_zero (den_ne r) (den_ne s)) ((h.num.mul h'.dsz).sub (h'.num.mul h.dsz)) (h.dsz.mul h'.dsz)
theorem SzQ.mul {n d m e : Nat} {r s : Rat} (h : SzQ n d r) (h' : SzQ m e s) : SzQ (n + m) (d + e) (r * s) := by
  rw [mul_divInt]
  exact divInt_sz (Int.mul_ne_zero (den_ne r) (den_ne s)) (h.num.mul h'.num) (h.dsz.mul h'.dsz)
theorem SzQ.zero {n d : Nat} (hd : 0 < d) : SzQ n d 0 := ⟨by unfold Sz; exact Nat.pow_pos (by decide), by
  show 1 < 2 ^ d
  have := Nat.pow_le_pow_right (n := 2) (by decide) hd
  omega⟩
/-- a weaker promise of a body -/
theorem Body.imp {G : Gam} {N ps : List Str} {body : List C} {sp sp' : Spec} (h : Body G N ps body sp) (i : ∀ vs S Q X, sp' vs S Q X → sp vs S Q X) : Body G N ps body sp' := fun vs S Q X q => h vs S Q X (i _ _ _ _ q)
def spQ2 (f : Rat → Rat → Val) : Spec
  | [v, w], S, Q, _ => ∃ a b, v = vQ a ∧ w = vQ b ∧ SzQ 4000 4000 a ∧ SzQ 4000 4000 b ∧ Q (f a b) S
  | _, _, _, _ => False
def pQ (r : Rat) : Int × Int := (r.num, (r.den : Int))
theorem spQ2_to {g : Int × Int → Int × Int → Val} {f : Rat → Rat → Val} (e : ∀ a b, g (pQ a) (pQ b) = f a b) : ∀ vs S Q X, spQ2 f vs S Q X → spF2 g vs S Q X := by
  intro vs S Q X h
  unfold spQ2 at h
  split at h
  · obtain ⟨a, b, rfl, rfl, sa, sb, h⟩ := h
    exact ⟨pQ a, pQ b, rfl, rfl, den_ne a, den_ne b, ⟨sa.num, sa.dsz⟩, ⟨sb.num, sb.dsz⟩, by rw [e]; exact h⟩
  · exact h.elim
theorem body_plusQ {G : Gam} (g : G.fn "as_fraction" = some spAs) : Body G N_plus P_plus B_plus (spQ2 fun a b => vQ (a + b)) := (body_plus g).imp (spQ2_to fun a b => by
  unfold fPlus pQ
  rw [fr_rat (Int.mul_ne_zero (den_ne a) (den_ne b)), add_divInt])
end M

set_option maxHeartbeats 1000000
namespace M
open PySem PySem.Spec L2
local macro_rules | `(tactic| simp_wf) => `(tactic| simp only [wCs, w_asg, w_par, w_aug, w_ex, w_ret, w_retN, w_ite, w_brk, w_cnt, w_pass, w_rais, e_v, e_int, e_bl, e_non, e_str, e_g, e_bin, e_neg, e_cmp, e_chain, e_and, e_or, e_not, e_ife, e_tup, e_lst, e_ix, e_sl, e_rev, e_fld, e_call, e_new, e_meth, e_blt, e_mth, e_isi, e_isiT, e_dK0, e_dT0, e_repr, e_ktup, e_lrng1, e_lrng2, e_lrev, e_trev, e_dix, e_dg1, e_dg2, e_dsd, e_dpop, e_din, wEs, wAndV, wOrV, wB, wAnd, wOr, wBs, wP, r_nm, r_tgt, r_tgr, r_tgp, r_tgd, r_tgi, r_tgs, r_tgs0, wBin, wCmp,
  r_add_ii, r_add_ib, r_add_ss, r_add_tt, r_add_rr, r_sub_ii, r_mul_ii, r_mul_ri, r_mul_ti, r_div_ii, r_mod_ii, r_pow_ii, r_shl_ii, r_shr_ii, r_and_ii, r_xor_ii, r_int, r_is_n, r_is_b, r_tru_b, r_tru_i, r_tru_n, r_tru_t, r_tru_r, r_ix_t, r_ix_r, r_sl_t, r_sl_r, r_len_t, r_len_s, r_abs, r_min2, r_max2, r_int1, r_int1b, r_str1, r_list1, r_tuple1, r_tuple1t, r_tuple1p, r_len_p, r_sorted1t, r_ix_p, r_valD_p, r_ty_p, r_tindex, r_tyM_tindex, r_reverse, r_tyM_reverse, r_remove, r_tyM_remove, r_append, r_pop0, r_pop1, r_insert, r_extend, r_count, r_index, r_sum1, r_sorted1, r_tyM_pop1, r_tyM_insert, r_tyM_extend, r_tyM_count, r_tyM_index, r_fld, r_tgf, r_tyM_append, r_tyM_pop0, r_valD_t, r_valD_r, r_ty_n, r_ty_b, r_ty_i, r_ty_s, r_ty_t, r_is_non_int, r_is_non_bool, r_is_non_str, r_is_non_tuple, r_is_non_list, r_is_non_dict, r_is_bl_int, r_is_bl_bool, r_is_bl_str, r_is_bl_tuple, r_is_bl_list, r_is_bl_dict, r_is_int_int, r_is_int_bool, r_is_int_str, r_is_int_tuple, r_is_int_list, r_is_int_dict, r_is_str_int, r_is_str_bool, r_is_str_str, r_is_str_tuple, r_is_str_list, r_is_str_dict, r_is_ptup_int, r_is_ptup_bool, r_is_ptup_str, r_is_ptup_tuple, r_is_ptup_list, r_is_ptup_dict, r_is_tup_int, r_is_tup_bool, r_is_tup_str, r_is_tup_tuple, r_is_tup_list, r_is_tup_dict, isNon, r_at0, r_at1, r_at2, r_at3, r_at4, r_at5, r_eq_ii, r_eq_bb,
  List.getElem?_cons_zero, List.getElem?_cons_succ, List.set_cons_zero, List.set_cons_succ, setAll, Option.some.injEq, Val.int.injEq, Val.bl.injEq, Val.tup.injEq, Val.ref.injEq, exists_eq_left', exists_eq_left, exists_eq_right, Bool.false_eq_true, if_true, if_false, List.isEmpty_nil, List.isEmpty_cons, true_and, and_true, ↓reduceIte, List.length_cons, List.length_nil, startL, List.map_cons, List.map_nil, Bool.not_true, Bool.not_false, Nat.reduceAdd, Nat.reduceSub, List.replicate, List.cons_append, List.nil_append, reduceCtorEq, false_and, exists_false, List.cons.injEq, Bool.false_xor, Bool.true_xor, wipeL, Int.reduceNeg, Int.cast_ofNat_Int, decide_true, decide_false, Int.reduceEq, decide_eq_true_eq, r_nd, r_sl0, r_sl1, r_sl2, r_sl3, r_sl4, r_sl5, r_sl6, r_sl7, r_sl8, r_sl9, r_sl10, r_sl11, r_sl12, r_sl13, r_sl14, r_sl15, r_sl16, r_sl17, r_sl18, r_sl19, r_sl20, r_sl21, r_sl22, r_sl23, r_sl24, decide_eq_false_iff_not, not_true_eq_false, not_false_eq_true, Int.not_lt, Int.not_le])
structure Tie where
  a : Nat
  b : Nat
  w : Rat
structure Web where
  n : Nat
  ts : List Tie
def vT (t : Tie) : Val := .tup [.int t.a, .int t.b, vQ t.w]
def vW (W : Web) : Val := .tup [.int W.n, .tup (W.ts.map vT)]
def WtOk (r : Rat) : Prop := r.num.natAbs ≤ 1000000000 ∧ r.den ≤ 1000
theorem WtOk.sz {r : Rat} (h : WtOk r) : SzQ 30 10 r := ⟨by unfold Sz; have := h.1; omega, by have := h.2; omega⟩
structure Web.Ok (W : Web) : Prop where
  n1 : 1 ≤ W.n
  n2 : W.n ≤ 60
  len : W.ts.length ≤ 170
  ends : ∀ t ∈ W.ts, t.a < t.b ∧ t.b < W.n
  wt : ∀ t ∈ W.ts, WtOk t.w
/-- sums -/
def qs : List Rat → Rat
  | [] => 0
  | r :: rs => r + qs rs
theorem qs_app (rs ss : List Rat) : qs (rs ++ ss) = qs rs + qs ss := by
  induction rs with
  | nil => simp only [List.nil_append, qs]; grind
  | cons r rs ih => simp only [List.cons_append, qs, ih]; grind
theorem qs_snoc (rs : List Rat) (r : Rat) : qs (rs ++ [r]) = qs rs + r := by rw [qs_app]; simp only [qs]; grind
theorem qs_sz : ∀ {rs : List Rat} {k : Nat}, (∀ r ∈ rs, SzQ 30 10 r) → rs.length ≤ k → SzQ (30 + 11 * k) (10 * k + 1) (qs rs)
  | [], k, _, _ => SzQ.zero (by omega)
  | r :: rs, k, h, hl => by
    have h1 := h r (by simp)
    have ih := qs_sz (rs := rs) (k := k - 1) (fun x hx => h x (by simp [hx])) (by simp at hl; omega)
    have := h1.add ih
    simp only [List.length_cons] at hl
    exact this.mono (by omega) (by omega)
theorem at_map {α : Type} {xs : List α} {f : α → Val} {j : Nat} {x : α} (h : xs[j]? = some x) : atI (xs.map f) (j : Int) = some (f x) := by
  rw [atI_nat, List.getElem?_map, h]; rfl
theorem take_snoc {α : Type} {xs : List α} {j : Nat} {x : α} (h : xs[j]? = some x) : xs.take (j + 1) = xs.take j ++ [x] := by
  rw [List.take_add_one, h]; rfl
theorem mem_of_get {α : Type} {xs : List α} {j : Nat} {x : α} (h : xs[j]? = some x) : x ∈ xs := List.mem_of_getElem? h
section
variable {G : Gam} {X : XPost} {ρ : Loc} {S : Sto} {Q : Post} {W : Web} {t : Tie} {r : Rat} {ts : List T} {R : Loc → Sto → Prop}
theorem r_W0 : vIx (vW W) (.int 0) S Q = Q (.int W.n) S := by unfold vW; rw [r_ix_t, r_at0]; simp only [Option.some.injEq, exists_eq_left']
theorem r_W1 : vIx (vW W) (.int 1) S Q = Q (.tup (W.ts.map vT)) S := by unfold vW; rw [r_ix_t, r_at1]; simp only [Option.some.injEq, exists_eq_left']
theorem r_T0 : vIx (vT t) (.int 0) S Q = Q (.int t.a) S := by unfold vT; rw [r_ix_t, r_at0]; simp only [Option.some.injEq, exists_eq_left']
theorem r_T1 : vIx (vT t) (.int 1) S Q = Q (.int t.b) S := by unfold vT; rw [r_ix_t, r_at1]; simp only [Option.some.injEq, exists_eq_left']
theorem r_T2 : vIx (vT t) (.int 2) S Q = Q (vQ t.w) S := by unfold vT; rw [r_ix_t, r_at2]; simp only [Option.some.injEq, exists_eq_left']
theorem r_Q0 : vIx (vQ r) (.int 0) S Q = Q (.int r.num) S := by unfold vQ; rw [r_ix_t, r_at0]; simp only [Option.some.injEq, exists_eq_left']
theorem r_Q1 : vIx (vQ r) (.int 1) S Q = Q (.int r.den) S := by unfold vQ; rw [r_ix_t, r_at1]; simp only [Option.some.injEq, exists_eq_left']
theorem r_tgT {a b c : T} : wTg G X (.tup [a, b, c]) (vT t) ρ S R = wTgs G X [a, b, c] [.int t.a, .int t.b, vQ t.w] ρ S R := by unfold vT; rw [r_tgt]; simp
theorem r_tgQ {a b : T} : wTg G X (.tup [a, b]) (vQ r) ρ S R = wTgs G X [a, b] [.int r.num, .int r.den] ρ S R := by unfold vQ; rw [r_tgt]; simp
theorem r_tgW {a b : T} : wTg G X (.tup [a, b]) (vW W) ρ S R = wTgs G X [a, b] [.int W.n, .tup (W.ts.map vT)] ρ S R := by unfold vW; rw [r_tgt]; simp
end
/-- names are of no weight -/
theorem Body.names {G : Gam} {N N' ps ps' : List Str} {body : List C} {sp : Spec} (h : Body G N ps body sp) (e : N.length = N'.length) (e2 : ps.length = ps'.length) : Body G N' ps' body sp := fun vs S Q X q => by
  have := h vs S Q X q
  unfold startL at this ⊢
  rw [← e, ← e2]; exact this
end M

set_option maxHeartbeats 1000000
namespace M
open PySem PySem.Spec L2
local macro_rules | `(tactic| simp_wf) => `(tactic| simp only [wCs, w_asg, w_par, w_aug, w_ex, w_ret, w_retN, w_ite, w_brk, w_cnt, w_pass, w_rais, e_v, e_int, e_bl, e_non, e_str, e_g, e_bin, e_neg, e_cmp, e_chain, e_and, e_or, e_not, e_ife, e_tup, e_lst, e_ix, e_sl, e_rev, e_fld, e_call, e_new, e_meth, e_blt, e_mth, e_isi, e_isiT, e_dK0, e_dT0, e_repr, e_ktup, e_lrng1, e_lrng2, e_lrev, e_trev, e_dix, e_dg1, e_dg2, e_dsd, e_dpop, e_din, wEs, wAndV, wOrV, wB, wAnd, wOr, wBs, wP, r_nm, r_tgT, r_tgQ, r_tgW, r_tgt, r_tgr, r_tgp, r_tgd, r_tgi, r_tgs, r_tgs0, wBin, wCmp,
  r_add_ii, r_add_ib, r_add_ss, r_add_tt, r_add_rr, r_sub_ii, r_mul_ii, r_mul_ri, r_mul_ti, r_div_ii, r_mod_ii, r_pow_ii, r_shl_ii, r_shr_ii, r_and_ii, r_xor_ii, r_int, r_is_n, r_is_b, r_tru_b, r_tru_i, r_tru_n, r_tru_t, r_tru_r, r_ix_t, r_ix_r, r_sl_t, r_sl_r, r_len_t, r_len_s, r_abs, r_min2, r_max2, r_int1, r_int1b, r_str1, r_list1, r_tuple1, r_tuple1t, r_tuple1p, r_len_p, r_sorted1t, r_ix_p, r_valD_p, r_ty_p, r_tindex, r_tyM_tindex, r_reverse, r_tyM_reverse, r_remove, r_tyM_remove, r_append, r_pop0, r_pop1, r_insert, r_extend, r_count, r_index, r_sum1, r_sorted1, r_tyM_pop1, r_tyM_insert, r_tyM_extend, r_tyM_count, r_tyM_index, r_fld, r_tgf, r_tyM_append, r_tyM_pop0, r_valD_t, r_valD_r, r_ty_n, r_ty_b, r_ty_i, r_ty_s, r_ty_t, r_is_non_int, r_is_non_bool, r_is_non_str, r_is_non_tuple, r_is_non_list, r_is_non_dict, r_is_bl_int, r_is_bl_bool, r_is_bl_str, r_is_bl_tuple, r_is_bl_list, r_is_bl_dict, r_is_int_int, r_is_int_bool, r_is_int_str, r_is_int_tuple, r_is_int_list, r_is_int_dict, r_is_str_int, r_is_str_bool, r_is_str_str, r_is_str_tuple, r_is_str_list, r_is_str_dict, r_is_ptup_int, r_is_ptup_bool, r_is_ptup_str, r_is_ptup_tuple, r_is_ptup_list, r_is_ptup_dict, r_is_tup_int, r_is_tup_bool, r_is_tup_str, r_is_tup_tuple, r_is_tup_list, r_is_tup_dict, isNon, r_W0, r_W1, r_T0, r_T1, r_T2, r_Q0, r_Q1, r_at0, r_at1, r_at2, r_at3, r_at4, r_at5, r_eq_ii, r_eq_bb,
  List.getElem?_cons_zero, List.getElem?_cons_succ, List.set_cons_zero, List.set_cons_succ, setAll, Option.some.injEq, Val.int.injEq, Val.bl.injEq, Val.tup.injEq, Val.ref.injEq, exists_eq_left', exists_eq_left, exists_eq_right, Bool.false_eq_true, if_true, if_false, List.isEmpty_nil, List.isEmpty_cons, true_and, and_true, ↓reduceIte, List.length_cons, List.length_nil, startL, List.map_cons, List.map_nil, Bool.not_true, Bool.not_false, Nat.reduceAdd, Nat.reduceSub, List.replicate, List.cons_append, List.nil_append, reduceCtorEq, false_and, exists_false, List.cons.injEq, Bool.false_xor, Bool.true_xor, wipeL, Int.reduceNeg, Int.cast_ofNat_Int, decide_true, decide_false, Int.reduceEq, decide_eq_true_eq, r_nd, r_sl0, r_sl1, r_sl2, r_sl3, r_sl4, r_sl5, r_sl6, r_sl7, r_sl8, r_sl9, r_sl10, r_sl11, r_sl12, r_sl13, r_sl14, r_sl15, r_sl16, r_sl17, r_sl18, r_sl19, r_sl20, r_sl21, r_sl22, r_sl23, r_sl24, decide_eq_false_iff_not, not_true_eq_false, not_false_eq_true, Int.not_lt, Int.not_le])
def qabs (r : Rat) : Rat := if r < 0 then -r else r
def gainB (t : Tie) : Bool := decide (0 < t.w)
def wts (ts : List Tie) : List Rat := ts.map (·.w)
def topS (ts : List Tie) : Rat := qs (wts (ts.filter gainB))
theorem filter_snoc {α : Type} (p : α → Bool) (xs : List α) (x : α) : (xs ++ [x]).filter p = xs.filter p ++ if p x = true then [x] else [] := by
  rw [List.filter_append]; congr 1; simp only [List.filter_cons, List.filter_nil]
theorem Web.Ok.sum {W : Web} (h : W.Ok) {ts : List Tie} (hs : ∀ t ∈ ts, t ∈ W.ts) (hl : ts.length ≤ 170) : SzQ 4000 4000 (qs (wts ts)) := by
  refine (qs_sz (k := 170) (fun r hr => ?_) (by unfold wts; simpa using hl)).mono (by decide) (by decide)
  unfold wts at hr
  obtain ⟨t, ht, rfl⟩ := List.mem_map.mp hr
  exact (h.wt t (hs t ht)).sz
end M

set_option maxHeartbeats 1000000
namespace M
open PySem PySem.Spec L2
local macro_rules | `(tactic| simp_wf) => `(tactic| simp only [wCs, w_asg, w_par, w_aug, w_ex, w_ret, w_retN, w_ite, w_brk, w_cnt, w_pass, w_rais, e_v, e_int, e_bl, e_non, e_str, e_g, e_bin, e_neg, e_cmp, e_chain, e_and, e_or, e_not, e_ife, e_tup, e_lst, e_ix, e_sl, e_rev, e_fld, e_call, e_new, e_meth, e_blt, e_mth, e_isi, e_isiT, e_dK0, e_dT0, e_repr, e_ktup, e_lrng1, e_lrng2, e_lrev, e_trev, e_dix, e_dg1, e_dg2, e_dsd, e_dpop, e_din, wEs, wAndV, wOrV, wB, wAnd, wOr, wBs, wP, r_nm, r_tgT, r_tgQ, r_tgW, r_tgt, r_tgr, r_tgp, r_tgd, r_tgi, r_tgs, r_tgs0, wBin, wCmp,
  r_add_ii, r_add_ib, r_add_ss, r_add_tt, r_add_rr, r_sub_ii, r_mul_ii, r_mul_ri, r_mul_ti, r_div_ii, r_mod_ii, r_pow_ii, r_shl_ii, r_shr_ii, r_and_ii, r_xor_ii, r_int, r_is_n, r_is_b, r_tru_b, r_tru_i, r_tru_n, r_tru_t, r_tru_r, r_ix_t, r_ix_r, r_sl_t, r_sl_r, r_len_t, r_len_s, r_abs, r_min2, r_max2, r_int1, r_int1b, r_str1, r_list1, r_tuple1, r_tuple1t, r_tuple1p, r_len_p, r_sorted1t, r_ix_p, r_valD_p, r_ty_p, r_tindex, r_tyM_tindex, r_reverse, r_tyM_reverse, r_remove, r_tyM_remove, r_append, r_pop0, r_pop1, r_insert, r_extend, r_count, r_index, r_sum1, r_sorted1, r_tyM_pop1, r_tyM_insert, r_tyM_extend, r_tyM_count, r_tyM_index, r_fld, r_tgf, r_tyM_append, r_tyM_pop0, r_valD_t, r_valD_r, r_ty_n, r_ty_b, r_ty_i, r_ty_s, r_ty_t, r_is_non_int, r_is_non_bool, r_is_non_str, r_is_non_tuple, r_is_non_list, r_is_non_dict, r_is_bl_int, r_is_bl_bool, r_is_bl_str, r_is_bl_tuple, r_is_bl_list, r_is_bl_dict, r_is_int_int, r_is_int_bool, r_is_int_str, r_is_int_tuple, r_is_int_list, r_is_int_dict, r_is_str_int, r_is_str_bool, r_is_str_str, r_is_str_tuple, r_is_str_list, r_is_str_dict, r_is_ptup_int, r_is_ptup_bool, r_is_ptup_str, r_is_ptup_tuple, r_is_ptup_list, r_is_ptup_dict, r_is_tup_int, r_is_tup_bool, r_is_tup_str, r_is_tup_tuple, r_is_tup_list, r_is_tup_dict, isNon, r_W0, r_W1, r_T0, r_T1, r_T2, r_Q0, r_Q1, r_at0, r_at1, r_at2, r_at3, r_at4, r_at5, r_eq_ii, r_eq_bb,
  List.getElem?_cons_zero, List.getElem?_cons_succ, List.set_cons_zero, List.set_cons_succ, setAll, Option.some.injEq, Val.int.injEq, Val.bl.injEq, Val.tup.injEq, Val.ref.injEq, exists_eq_left', exists_eq_left, exists_eq_right, Bool.false_eq_true, if_true, if_false, List.isEmpty_nil, List.isEmpty_cons, true_and, and_true, ↓reduceIte, List.length_cons, List.length_nil, startL, List.map_cons, List.map_nil, Bool.not_true, Bool.not_false, Nat.reduceAdd, Nat.reduceSub, List.replicate, List.cons_append, List.nil_append, reduceCtorEq, false_and, exists_false, List.cons.injEq, Bool.false_xor, Bool.true_xor, wipeL, Int.reduceNeg, Int.cast_ofNat_Int, decide_true, decide_false, Int.reduceEq, decide_eq_true_eq, r_nd, r_sl0, r_sl1, r_sl2, r_sl3, r_sl4, r_sl5, r_sl6, r_sl7, r_sl8, r_sl9, r_sl10, r_sl11, r_sl12, r_sl13, r_sl14, r_sl15, r_sl16, r_sl17, r_sl18, r_sl19, r_sl20, r_sl21, r_sl22, r_sl23, r_sl24, decide_eq_false_iff_not, not_true_eq_false, not_false_eq_true, Int.not_lt, Int.not_le])
def crossB (bits : List Int) (t : Tie) : Bool := !decide (bits.getD t.a 0 = bits.getD t.b 0)
/-- the places of those that p tells -/
def ixF (p : Tie → Bool) (k : Nat) : List Tie → List Nat
  | [] => []
  | t :: ts => (if p t = true then [k] else []) ++ ixF p (k + 1) ts
theorem ixF_snoc (p : Tie → Bool) (t : Tie) : ∀ (ts : List Tie) (k : Nat), ixF p k (ts ++ [t]) = ixF p k ts ++ if p t = true then [k + ts.length] else []
  | [], k => by simp [ixF]
  | u :: ts, k => by
    simp only [List.cons_append, ixF, ixF_snoc p t ts (k + 1), List.append_assoc, List.length_cons]
    rw [show k + 1 + ts.length = k + (ts.length + 1) by omega]
theorem ixF_len (p : Tie → Bool) : ∀ (ts : List Tie) (k : Nat), (ixF p k ts).length ≤ ts.length
  | [], k => by simp [ixF]
  | u :: ts, k => by
    have := ixF_len p ts (k + 1)
    simp only [ixF, List.length_append, List.length_cons]
    split <;> simp <;> omega
theorem ixF_mem (p : Tie → Bool) : ∀ (ts : List Tie) (k i : Nat), i ∈ ixF p k ts → ∃ t, ts[i - k]? = some t ∧ k ≤ i ∧ p t = true
  | [], k, i, h => by simp [ixF] at h
  | u :: ts, k, i, h => by
    simp only [ixF, List.mem_append] at h
    rcases h with h | h
    · split at h
      · rename_i hp
        simp only [List.mem_singleton] at h; subst h
        exact ⟨u, by simp, Nat.le_refl _, hp⟩
      · cases h
    · obtain ⟨t, h1, h2, h3⟩ := ixF_mem p ts (k + 1) i h
      refine ⟨t, ?_, by omega, h3⟩
      rw [show i - k = (i - (k + 1)) + 1 by omega, List.getElem?_cons_succ]; exact h1
def wAt (ts : List Tie) (k : Nat) : Rat := ((ts[k]?).map (·.w)).getD 0
theorem ixF_wts (p : Tie → Bool) : ∀ (ts pre : List Tie), (ixF p pre.length ts).map (wAt (pre ++ ts)) = wts (ts.filter p)
  | [], pre => rfl
  | u :: ts, pre => by
    have ih := ixF_wts p ts (pre ++ [u])
    simp only [List.length_append, List.length_cons, List.length_nil, List.append_assoc, List.cons_append, List.nil_append] at ih
    simp only [ixF, List.map_append, List.filter_cons]
    rw [ih]
    have e : wAt (pre ++ u :: ts) pre.length = u.w := by unfold wAt; simp
    split
    · simp only [List.map_cons, List.map_nil, e, wts]; rfl
    · rfl
theorem ixF_wts0 (p : Tie → Bool) (ts : List Tie) : (ixF p 0 ts).map (wAt ts) = wts (ts.filter p) := ixF_wts p ts []
def vN (l : List Nat) : List Val := l.map fun (j : Nat) => .int (j : Int)
def spCut (f : Tie → Bool → Val) : Spec
  | [v, s, .int k], S, Q, _ => ∃ (W : Web) (bits : List Int) (t : Tie) (j : Nat), v = vW W ∧ s = .tup (vI bits) ∧ W.Ok ∧ bits.length = W.n ∧ k = (j : Int) ∧ W.ts[j]? = some t ∧ Q (f t (crossB bits t)) S
  | _, _, _, _ => False
theorem getD_of {α : Type} {xs : List α} {i : Nat} {d : α} (h : i < xs.length) : xs[i]? = some (xs.getD i d) := by
  rw [List.getD_eq_getElem?_getD, List.getElem?_eq_getElem h]; rfl
theorem at_bits {bits : List Int} {i : Nat} (h : i < bits.length) : atI (vI bits) (i : Int) = some (.int (bits.getD i 0)) := at_map (getD_of h)
def N_is_cut : List Str := ["web", "side", "tie", "one", "other", "weight"]
def P_is_cut : List Str := ["web", "side", "tie"]
def B_is_cut : List C := [
  .asg (.tup [.nm 3, .nm 4, .nm 5]) (.ix (.ix (.v 0) (.int 1)) (.v 2)),
  .ret (.cmp .NotEq (.ix (.v 1) (.v 3)) (.ix (.v 1) (.v 4)))]
theorem body_is_cut {G : Gam} : Body G N_is_cut P_is_cut B_is_cut (spCut fun _ b => .bl b) := by
  intro vs S Q X h
  unfold spCut at h
  split at h
  · obtain ⟨W, bits, t, j, rfl, rfl, ok, hb, rfl, ht, h⟩ := h
    obtain ⟨e1, e2⟩ := ok.ends t (mem_of_get ht)
    refine ⟨rfl, ?_⟩
    simp only [B_is_cut, N_is_cut]
    simp_wf
    refine ⟨_, at_map ht, ?_⟩
    simp_wf
    refine ⟨_, at_bits (by omega), _, at_bits (by omega), ?_⟩
    simp_wf
    exact ⟨S, .refl, h⟩
  · exact h.elim
def spSide (f : Web → List Int → Val) : Spec
  | [v, s], S, Q, _ => ∃ (W : Web) (bits : List Int), v = vW W ∧ s = .tup (vI bits) ∧ W.Ok ∧ bits.length = W.n ∧ Q (f W bits) S
  | _, _, _, _ => False
def N_cut_ties : List Str := ["web", "side", "tie"]
def P_cut_ties : List Str := ["web", "side"]
def B_cut_ties : List C := [
  .ret (.blt .tuple1 [.lc [("tie", 2)] (.nm 2) (.rng1 (.blt .len [.ix (.v 0) (.int 1)])) [.val (.call "is_cut" [.v 0, .v 1, .v 2])] (.v 2)])]
theorem cut_core {G : Gam} {D : En} {W : Web} {bits : List Int} {S : Sto} {b : B} (p : Tie → Bool) (ok : W.Ok) (hb : bits.length = W.n) (h : D.rt (.tup (vN (ixF p 0 W.ts))) S)
    (ht : ∀ (j : Nat) (t : Tie) (T : Sto) (R : Bool → Sto → Prop), W.ts[j]? = some t → R (p t) T → wB G noX b [some (vW W), some (.tup (vI bits)), some (.int j)] T R) (hD : ∀ v S S', S.le S' → D.rt v S → D.rt v S') :
    wCs G [.ret (.blt .tuple1 [.lc [("tie", 2)] (.nm 2) (.rng1 (.blt .len [.ix (.v 0) (.int 1)])) [b] (.v 2)])] D [some (vW W), some (.tup (vI bits)), none] S := by
  simp only [wCs, w_ret, e_blt, wEs]
  have hlen := ok.len
  refine lc_rng1_ix (n := W.ts.length) (S1 := S) (fun j acc T => T = S ∧ acc = vN (ixF p 0 (W.ts.take j)) ∧ acc.length ≤ j) (fun Q q => by simp_wf; simpa using q) (by omega) (fun j acc T h => h.2.2) ⟨rfl, by simp [vN, ixF], Nat.le_refl _⟩ ?_ ?_
  · rintro acc T ⟨rfl, rfl, _⟩ q hq
    simp_wf
    rw [List.take_length]
    exact ⟨_, rd_upd, hD _ _ _ (Sto.le.new .refl hq) h⟩
  · rintro j acc T hj ⟨rfl, rfl, hl⟩ R r0 r1
    have hg : W.ts[j]? = some W.ts[j] := List.getElem?_eq_getElem hj
    simp_wf
    refine ht j _ T _ hg ?_
    have e := ixF_snoc p W.ts[j] (W.ts.take j) 0
    rw [← take_snoc hg] at e
    have hlj : (W.ts.take j).length = j := by rw [List.length_take]; omega
    cases hp : p W.ts[j]
    · simp_wf
      rw [hp] at e
      refine r0 _ ⟨rfl, ?_, by omega⟩
      simp at e; rw [e]
    · simp_wf
      rw [hp, hlj] at e
      refine r1 _ _ ⟨rfl, ?_, by simp; omega⟩
      simp at e; rw [e]; unfold vN; simp
theorem body_cut_ties {G : Gam} (g : G.fn "is_cut" = some (spCut fun _ b => .bl b)) : Body G N_cut_ties P_cut_ties B_cut_ties (spSide fun W bits => .tup (vN (ixF (crossB bits) 0 W.ts))) := by
  intro vs S Q X h
  unfold spSide at h
  split at h
  · obtain ⟨W, bits, rfl, rfl, ok, hb, h⟩ := h
    refine ⟨rfl, ?_⟩
    refine cut_core (crossB bits) ok hb ⟨S, .refl, h⟩ (fun j t T R ht hr => ?_) fun v S1 S2 l ⟨S3, l3, q⟩ => ⟨S3, l3.trans l, q⟩
    simp_wf
    simp only [g, Option.some.injEq, exists_eq_left']
    refine .of ⟨W, bits, t, j, rfl, rfl, ok, hb, rfl, ht, ?_⟩
    simp_wf
    exact hr
  · exact h.elim
def N_weight_of : List Str := ["web", "side", "found", "tie"]
def P_weight_of : List Str := ["web", "side"]
def B_weight_of : List C := [
  .asg (.nm 2) (.tup [.int 0, .int 1]),
  .loop (.nm 3) (.val (.call "cut_ties" [.v 0, .v 1])) [.asg (.nm 2) (.call "plus" [.v 2, .ix (.ix (.ix (.v 0) (.int 1)) (.v 3)) (.int 2)])],
  .ret (.v 2)]
def cutS (bits : List Int) (ts : List Tie) : Rat := qs (wts (ts.filter (crossB bits)))
theorem body_weight_of {G : Gam} (g : G.fn "cut_ties" = some (spSide fun W bits => .tup (vN (ixF (crossB bits) 0 W.ts)))) (g2 : G.fn "plus" = some (spQ2 fun a b => vQ (a + b))) : Body G N_weight_of P_weight_of B_weight_of (spSide fun W bits => vQ (cutS bits W.ts)) := by
  intro vs S Q X h
  unfold spSide at h
  split at h
  · obtain ⟨W, bits, rfl, rfl, ok, hb, h⟩ := h
    refine ⟨rfl, ?_⟩
    simp only [B_weight_of, N_weight_of]
    refine wCs_step fun nx hn => ?_
    simp_wf
    subst hn
    refine wCs_step fun nx hn => ?_
    have hL : (ixF (crossB bits) 0 W.ts).length ≤ 170 := Nat.le_trans (ixF_len _ _ _) ok.len
    have hmem : ∀ k ∈ ixF (crossB bits) 0 W.ts, ∃ t, W.ts[k]? = some t := fun k hk => by
      obtain ⟨t, h1, _⟩ := ixF_mem _ _ _ _ hk
      exact ⟨t, h1⟩
    have hw := ixF_wts0 (crossB bits) W.ts
    generalize hLe : ixF (crossB bits) 0 W.ts = L at *
    refine loop_tup_ix (xs := L) (f := fun (j : Nat) => .int (j : Int)) (S1 := S) (fun j ρ T => T = S ∧ ∃ o : Option Val, ρ = [some (vW W), some (.tup (vI bits)), some (vQ (qs ((L.take j).map (wAt W.ts)))), o]) (fun Q q => ?_) ⟨rfl, none, rfl⟩ ?_ ?_
    · simp_wf
      simp only [g, Option.some.injEq, exists_eq_left']
      refine .of ⟨W, bits, rfl, rfl, ok, hb, ?_⟩
      dsimp only
      rw [hLe]
      exact q
    · rintro ρ T ⟨rfl, o, rfl⟩
      subst hn
      simp_wf
      rw [List.take_length, hw]
      exact ⟨T, .refl, h⟩
    · rintro j k hk ρ T ⟨rfl, o, rfl⟩ D' hnx hct hrt hbk hxc
      obtain ⟨t, ht⟩ := hmem k (mem_of_get hk)
      have hwk : wAt W.ts k = t.w := by unfold wAt; rw [ht]; rfl
      simp_wf
      simp only [g2, Option.some.injEq, exists_eq_left']
      refine ⟨_, at_map ht, ?_⟩
      simp_wf
      refine .of ⟨_, _, rfl, rfl, ?_, ((ok.wt _ (mem_of_get ht)).sz).mono (by decide) (by decide), ?_⟩
      · refine (qs_sz (k := 170) (fun r hr => ?_) ?_).mono (by decide) (by decide)
        · obtain ⟨i, hi, rfl⟩ := List.mem_map.mp hr
          obtain ⟨u, hu⟩ := hmem i (List.mem_of_mem_take hi)
          have : wAt W.ts i = u.w := by unfold wAt; rw [hu]; rfl
          rw [this]
          exact (ok.wt _ (mem_of_get hu)).sz
        · rw [List.length_map, List.length_take]; omega
      · dsimp only
        refine hnx _ _ ⟨rfl, some (.int k), ?_⟩
        rw [take_snoc hk, List.map_append, List.map_cons, List.map_nil, qs_snoc, hwk]
  · exact h.elim
theorem dat_vQ (r : Rat) : datB 1 (vQ r) = true := by simp [vQ, datB, datBs]
theorem noB_vQ (r : Rat) : noB (vQ r) = true := by simp [vQ, noB, noBs]
theorem eq_vQ {r s : Rat} {n : Bool} {S : Sto} {Q : Post} : cEq n (vQ r) (vQ s) S Q = Q (.bl (n ^^ decide (r = s))) S := by
  haveI : Decidable (vQ r = vQ s) := Classical.propDecidable _
  rw [cEq_no (dat_vQ r) (dat_vQ s) (noB_vQ r) (noB_vQ s) (by decide) (by decide)]
  have : decide (vQ r = vQ s) = decide (r = s) := decide_eq_decide.mpr vQ_inj
  rw [this]
theorem dat_vI (l : List Int) : datB 1 (.tup (vI l)) = true := by
  simp only [datB]
  refine datBs_all fun v hv => ?_
  unfold vI at hv
  obtain ⟨j, _, rfl⟩ := List.mem_map.mp hv
  simp only [datB]
theorem noB_vI (l : List Int) : noB (.tup (vI l)) = true := by
  simp only [noB]
  refine noBs_all fun v hv => ?_
  unfold vI at hv
  obtain ⟨j, _, rfl⟩ := List.mem_map.mp hv
  simp only [noB]
theorem vI_inj {l m : List Int} : vI l = vI m ↔ l = m := ⟨fun h => (List.map_inj_right (fun a b z => by simpa using z)).mp h, fun h => by rw [h]⟩
theorem eq_vI {l m : List Int} {n : Bool} {S : Sto} {Q : Post} : cEq n (.tup (vI l)) (.tup (vI m)) S Q = Q (.bl (n ^^ decide (l = m))) S := by
  haveI : Decidable (Val.tup (vI l) = Val.tup (vI m)) := Classical.propDecidable _
  rw [cEq_no (dat_vI l) (dat_vI m) (noB_vI l) (noB_vI m) (by decide) (by decide)]
  have : decide (Val.tup (vI l) = Val.tup (vI m)) = decide (l = m) := decide_eq_decide.mpr ⟨fun h => by simp only [Val.tup.injEq] at h; exact vI_inj.mp h, fun h => by rw [h]⟩
  rw [this]
end M

set_option maxHeartbeats 1000000
namespace M
open PySem PySem.Spec L2
local macro_rules | `(tactic| simp_wf) => `(tactic| simp only [wCs, w_asg, w_par, w_aug, w_ex, w_ret, w_retN, w_ite, w_brk, w_cnt, w_pass, w_rais, e_v, e_int, e_bl, e_non, e_str, e_g, e_bin, e_neg, e_cmp, e_chain, e_and, e_or, e_not, e_ife, e_tup, e_lst, e_ix, e_sl, e_rev, e_fld, e_call, e_new, e_meth, e_blt, e_mth, e_isi, e_isiT, e_dK0, e_dT0, e_repr, e_ktup, e_lrng1, e_lrng2, e_lrev, e_trev, e_dix, e_dg1, e_dg2, e_dsd, e_dpop, e_din, wEs, wAndV, wOrV, wB, wAnd, wOr, wBs, wP, r_nm, r_tgT, r_tgQ, r_tgW, r_tgt, r_tgr, r_tgp, r_tgd, r_tgi, r_tgs, r_tgs0, wBin, wCmp,
  r_add_ii, r_add_ib, r_add_ss, r_add_tt, r_add_rr, r_sub_ii, r_mul_ii, r_mul_ri, r_mul_ti, r_div_ii, r_mod_ii, r_pow_ii, r_shl_ii, r_shr_ii, r_and_ii, r_xor_ii, r_int, r_is_n, r_is_b, r_tru_b, r_tru_i, r_tru_n, r_tru_t, r_tru_r, r_ix_t, r_ix_r, r_sl_t, r_sl_r, r_len_t, r_len_s, r_abs, r_min2, r_max2, r_int1, r_int1b, r_str1, r_list1, r_tuple1, r_tuple1t, r_tuple1p, r_len_p, r_sorted1t, r_ix_p, r_valD_p, r_ty_p, r_tindex, r_tyM_tindex, r_reverse, r_tyM_reverse, r_remove, r_tyM_remove, r_append, r_pop0, r_pop1, r_insert, r_extend, r_count, r_index, r_sum1, r_sorted1, r_tyM_pop1, r_tyM_insert, r_tyM_extend, r_tyM_count, r_tyM_index, r_fld, r_tgf, r_tyM_append, r_tyM_pop0, r_valD_t, r_valD_r, r_ty_n, r_ty_b, r_ty_i, r_ty_s, r_ty_t, r_is_non_int, r_is_non_bool, r_is_non_str, r_is_non_tuple, r_is_non_list, r_is_non_dict, r_is_bl_int, r_is_bl_bool, r_is_bl_str, r_is_bl_tuple, r_is_bl_list, r_is_bl_dict, r_is_int_int, r_is_int_bool, r_is_int_str, r_is_int_tuple, r_is_int_list, r_is_int_dict, r_is_str_int, r_is_str_bool, r_is_str_str, r_is_str_tuple, r_is_str_list, r_is_str_dict, r_is_ptup_int, r_is_ptup_bool, r_is_ptup_str, r_is_ptup_tuple, r_is_ptup_list, r_is_ptup_dict, r_is_tup_int, r_is_tup_bool, r_is_tup_str, r_is_tup_tuple, r_is_tup_list, r_is_tup_dict, isNon, r_W0, r_W1, r_T0, r_T1, r_T2, r_Q0, r_Q1, r_at0, r_at1, r_at2, r_at3, r_at4, r_at5, r_eq_ii, r_eq_bb,
  List.getElem?_cons_zero, List.getElem?_cons_succ, List.set_cons_zero, List.set_cons_succ, setAll, Option.some.injEq, Val.int.injEq, Val.bl.injEq, Val.tup.injEq, Val.ref.injEq, exists_eq_left', exists_eq_left, exists_eq_right, Bool.false_eq_true, if_true, if_false, List.isEmpty_nil, List.isEmpty_cons, true_and, and_true, ↓reduceIte, List.length_cons, List.length_nil, startL, List.map_cons, List.map_nil, Bool.not_true, Bool.not_false, Nat.reduceAdd, Nat.reduceSub, List.replicate, List.cons_append, List.nil_append, reduceCtorEq, false_and, exists_false, List.cons.injEq, Bool.false_xor, Bool.true_xor, wipeL, Int.reduceNeg, Int.cast_ofNat_Int, decide_true, decide_false, Int.reduceEq, decide_eq_true_eq, r_nd, r_sl0, r_sl1, r_sl2, r_sl3, r_sl4, r_sl5, r_sl6, r_sl7, r_sl8, r_sl9, r_sl10, r_sl11, r_sl12, r_sl13, r_sl14, r_sl15, r_sl16, r_sl17, r_sl18, r_sl19, r_sl20, r_sl21, r_sl22, r_sl23, r_sl24, decide_eq_false_iff_not, not_true_eq_false, not_false_eq_true, Int.not_lt, Int.not_le])
def N_Lfraction : List Str := ["_law_top", "_law_bottom", "_law_by"]
def P_Lfraction : List Str := ["_law_top", "_law_bottom"]
def B_Lfraction : List C := [
  .asg (.nm 2) (.call "_law_divisor" [.v 0, .v 1]),
  .ite (.cmp .Lt (.v 1) (.int 0)) [.asg (.nm 2) (.bin .Sub (.int 0) (.v 2))] [],
  .ret (.tup [.bin .FloorDiv (.v 0) (.v 2), .bin .FloorDiv (.v 1) (.v 2)])]
def spFr : Spec
  | [.int a, .int b], S, Q, _ => b ≠ 0 ∧ Sz 9000 b ∧ Q (vQ (Rat.divInt a b)) S
  | _, _, _, _ => False
theorem fdiv_neg_dvd {g a : Int} (h : 0 < g) (d : g ∣ a) : idiv a (0 - g) = (0 - a) / g := by
  obtain ⟨x, rfl⟩ := d
  unfold idiv
  rw [if_neg (by omega)]
  have e : g * x = (0 - g) * (-x) := by grind
  rw [e, Int.mul_fdiv_cancel_left _ (by omega)]
  have e2 : 0 - (0 - g) * (-x) = g * (-x) := by grind
  rw [e2, Int.mul_ediv_cancel_left _ (by omega)]
theorem cd_neg (a b : Int) : cd (0 - a) (0 - b) = cd a b := by unfold cd; simp
theorem body_Lfraction {G : Gam} (g : G.fn "_law_divisor" = some spCd) : Body G N_Lfraction P_Lfraction B_Lfraction spFr := by
  intro vs S Q X h
  unfold spFr at h
  split at h
  · rename_i a b
    obtain ⟨hb, sb, h⟩ := h
    rw [← fr_rat hb] at h
    have hp := cd_pos (a := a) hb
    have hs := Sz.cd (a := a) hb sb
    refine ⟨rfl, ?_⟩
    simp only [B_Lfraction, N_Lfraction]
    refine wCs_step fun nx hn => ?_
    simp_wf
    simp only [g, Option.some.injEq, exists_eq_left']
    refine .of ?_
    simp only [spCd]
    subst hn
    unfold fr vF at h
    rw [cd_neg] at h
    refine wCs_step fun nx hn => ?_
    simp_wf
    split
    · rename_i hl
      rw [if_pos hl] at h
      subst hn
      simp_wf
      have d : ∀ x, DivOk x (0 - cd a b) := fun x => divOk_of (by omega) (by unfold Sz at hs ⊢; omega)
      refine ⟨d _, d _, ?_⟩
      rw [fdiv_neg_dvd hp (cd_dvd_l a b), fdiv_neg_dvd hp (cd_dvd_r a b)]
      exact ⟨S, .refl, h⟩
    · rename_i hl
      rw [if_neg hl] at h
      subst hn
      simp_wf
      have d : ∀ x, DivOk x (cd a b) := fun x => divOk_of (by omega) hs
      refine ⟨d _, d _, ?_⟩
      rw [idiv_pos hp, idiv_pos hp]
      exact ⟨S, .refl, h⟩
  · exact h.elim
def spWeight : Spec
  | [.ref p, .int _], S, Q, _ => (∃ ns, S p = some (.lst (vI ns))) ∧ ∀ r ns, WtOk r → Q (vQ r) (S.upd p (.lst (vI ns)))
  | _, _, _, _ => False
def N_Lweight : List Str := ["_law_xs", "_law_manner", "_law_number", "_law_bottom"]
def P_Lweight : List Str := ["_law_xs", "_law_manner"]
def B_Lweight : List C := [
  .asg (.nm 2) (.bin .Sub (.call "_law_next" [.v 0, .int 9]) (.int 4)),
  .ite (.cmp .Eq (.v 1) (.int 0)) [.asg (.nm 2) (.bin .Add (.blt .abs [.v 2]) (.int 1))] [],
  .ite (.cmp .Eq (.v 1) (.int 1)) [.asg (.nm 2) (.bin .Sub (.int 0) (.blt .abs [.v 2]))] [],
  .ite (.cmp .Eq (.v 1) (.int 2)) [.asg (.nm 2) (.int 2)] [],
  .asg (.nm 3) (.ix (.lst [.int 1, .int 1, .int 1, .int 2, .int 3, .int 7, .int 1000]) (.call "_law_next" [.v 0, .int 7])),
  .ite (.and [.cmp .Eq (.call "_law_next" [.v 0, .int 11]) (.int 0), .cmp .Gt (.v 1) (.int 2)]) [.ret (.call "_law_fraction" [.bin .Add (.bin .Mult (.v 2) (.int 249999999)) (.int 1), .v 3])] [],
  .ret (.call "_law_fraction" [.v 2, .v 3])]
theorem wt_of {a b : Int} (hb : 0 < b) (h1 : a.natAbs ≤ 1000000000) (h2 : b ≤ 1000) : WtOk (Rat.divInt a b) := by
  have f := fr_ok (a := a) (show b ≠ 0 by omega)
  rw [frok_rat (by omega) f] at f
  have l1 := f.l1
  have l2 := f.l2
  dsimp only at l1 l2
  exact ⟨by omega, by omega⟩
theorem sz_of_le {b : Int} (h0 : 0 < b) (h : b ≤ 1000) : Sz 9000 b := (Sz.mono (m := 10) (show b.natAbs < 2 ^ 10 by omega) (by decide))
theorem bottoms {r : Int} (h0 : 0 ≤ r) (h1 : r < 7) : ∃ b : Int, atI [Val.int 1, .int 1, .int 1, .int 2, .int 3, .int 7, .int 1000] r = some (.int b) ∧ 0 < b ∧ b ≤ 1000 := by
  have : r = 0 ∨ r = 1 ∨ r = 2 ∨ r = 3 ∨ r = 4 ∨ r = 5 ∨ r = 6 := by omega
  rcases this with rfl | rfl | rfl | rfl | rfl | rfl | rfl
  · exact ⟨1, rfl, by decide, by decide⟩
  · exact ⟨1, rfl, by decide, by decide⟩
  · exact ⟨1, rfl, by decide, by decide⟩
  · exact ⟨2, rfl, by decide, by decide⟩
  · exact ⟨3, rfl, by decide, by decide⟩
  · exact ⟨7, rfl, by decide, by decide⟩
  · exact ⟨1000, rfl, by decide, by decide⟩
theorem weight_tail {G : Gam} (g : G.fn "_law_next" = some spNext) (g2 : G.fn "_law_fraction" = some spFr) {D : En} {T : Sto} {p : Addr} {m n : Int} {ns : List Int} (hp : T p = some (.lst (vI ns))) (h5 : n.natAbs ≤ 5) (h4 : 2 < m → n.natAbs ≤ 4)
    (h : ∀ r ns q o, T q = none → WtOk r → D.rt (vQ r) ((T.upd q o).upd p (.lst (vI ns)))) :
    wCs G [.asg (.nm 3) (.ix (.lst [.int 1, .int 1, .int 1, .int 2, .int 3, .int 7, .int 1000]) (.call "_law_next" [.v 0, .int 7])),
  .ite (.and [.cmp .Eq (.call "_law_next" [.v 0, .int 11]) (.int 0), .cmp .Gt (.v 1) (.int 2)]) [.ret (.call "_law_fraction" [.bin .Add (.bin .Mult (.v 2) (.int 249999999)) (.int 1), .v 3])] [],
  .ret (.call "_law_fraction" [.v 2, .v 3])] D [some (.ref p), some (.int m), some (.int n), none] T := by
  refine wCs_step fun nx hn => ?_
  simp_wf
  intro q hq
  have npq : p ≠ q := Sto.ne_of hp hq
  simp only [g, Option.some.injEq, exists_eq_left']
  refine .of ⟨by decide, ⟨ns, Sto.old hp hq⟩, fun r ns1 r0 r1 => ?_⟩
  obtain ⟨b, hb, b0, b1⟩ := bottoms r0 r1
  simp_wf
  refine ⟨_, _, .lst (Sto.ne_upd Sto.upd_same (Ne.symm npq)), hb, ?_⟩
  subst hn
  refine wCs_step fun nx hn => ?_
  simp_wf
  simp only [g, g2, Option.some.injEq, exists_eq_left']
  refine .of ⟨by decide, ⟨ns1, Sto.upd_same⟩, fun r2 ns2 a0 a1 => ?_⟩
  rw [Sto.upd_upd]
  simp_wf
  have nb : b ≠ 0 := by omega
  split
  · split
    · rename_i hm
      have := h4 hm
      have mo : MulOk n 249999999 := Sz.mulOk (m := 4) (n := 30) (by unfold Sz; omega) (by unfold Sz; decide) (by decide)
      refine ⟨mo, .of ⟨nb, sz_of_le b0 b1, h _ _ _ _ hq (wt_of b0 ?_ b1)⟩⟩
      omega
    · subst hn
      simp_wf
      simp only [g2, Option.some.injEq, exists_eq_left']
      exact .of ⟨nb, sz_of_le b0 b1, h _ _ _ _ hq (wt_of b0 (by omega) b1)⟩
  · subst hn
    simp_wf
    simp only [g2, Option.some.injEq, exists_eq_left']
    exact .of ⟨nb, sz_of_le b0 b1, h _ _ _ _ hq (wt_of b0 (by omega) b1)⟩
theorem body_Lweight {G : Gam} (g : G.fn "_law_next" = some spNext) (g2 : G.fn "_law_fraction" = some spFr) : Body G N_Lweight P_Lweight B_Lweight spWeight := by
  intro vs S Q X h
  unfold spWeight at h
  split at h
  · rename_i p m
    obtain ⟨⟨ns, hp⟩, h⟩ := h
    refine ⟨rfl, ?_⟩
    simp only [B_Lweight, N_Lweight]
    refine wCs_step fun nx hn => ?_
    simp_wf
    simp only [g, Option.some.injEq, exists_eq_left']
    refine .of ⟨by decide, ⟨ns, hp⟩, fun r ns1 r0 r1 => ?_⟩
    simp_wf
    subst hn
    have tail := fun (n : Int) (h5 : n.natAbs ≤ 5) (h4 : 2 < m → n.natAbs ≤ 4) => weight_tail g g2 (D := { nx := fun _ S' => ∃ S'', S''.le S' ∧ Q .non S'', rt := fun v S' => ∃ S'', S''.le S' ∧ Q v S'', xc := fun c _ S' => ∃ S'', S''.le S' ∧ X c S'' }) (T := S.upd p (.lst (vI ns1))) (p := p) (m := m) (n := n) (ns := ns1) Sto.upd_same h5 h4 fun r2 ns2 q o hq hr => by
      have hS : S q = none ∧ q ≠ p := by
        have : q ≠ p := fun e => by subst e; rw [Sto.upd_same] at hq; cases hq
        rw [Sto.upd_ne this] at hq
        exact ⟨hq, this⟩
      refine ⟨S.upd p (.lst (vI ns2)), ?_, h r2 ns2 hr⟩
      rw [Sto.upd_comm (Ne.symm hS.2), Sto.upd_upd]
      exact Sto.le.upd (Sto.le.new .refl hS.1)
    refine wCs_step fun nx hn => ?_
    simp_wf
    rw [abs_if]
    have two : ∀ n : Int, n.natAbs ≤ 5 → (2 < m → n.natAbs ≤ 4) → wCs G [
  .ite (.cmp .Eq (.v 1) (.int 1)) [.asg (.nm 2) (.bin .Sub (.int 0) (.blt .abs [.v 2]))] [],
  .ite (.cmp .Eq (.v 1) (.int 2)) [.asg (.nm 2) (.int 2)] [],
  .asg (.nm 3) (.ix (.lst [.int 1, .int 1, .int 1, .int 2, .int 3, .int 7, .int 1000]) (.call "_law_next" [.v 0, .int 7])),
  .ite (.and [.cmp .Eq (.call "_law_next" [.v 0, .int 11]) (.int 0), .cmp .Gt (.v 1) (.int 2)]) [.ret (.call "_law_fraction" [.bin .Add (.bin .Mult (.v 2) (.int 249999999)) (.int 1), .v 3])] [],
  .ret (.call "_law_fraction" [.v 2, .v 3])] { nx := fun _ S' => ∃ S'', S''.le S' ∧ Q .non S'', rt := fun v S' => ∃ S'', S''.le S' ∧ Q v S'', xc := fun c _ S' => ∃ S'', S''.le S' ∧ X c S'' } [some (.ref p), some (.int m), some (.int n), none] (S.upd p (.lst (vI ns1))) := by
      intro n h5 h4
      have three : ∀ n : Int, n.natAbs ≤ 5 → (2 < m → n.natAbs ≤ 4) → wCs G [
  .ite (.cmp .Eq (.v 1) (.int 2)) [.asg (.nm 2) (.int 2)] [],
  .asg (.nm 3) (.ix (.lst [.int 1, .int 1, .int 1, .int 2, .int 3, .int 7, .int 1000]) (.call "_law_next" [.v 0, .int 7])),
  .ite (.and [.cmp .Eq (.call "_law_next" [.v 0, .int 11]) (.int 0), .cmp .Gt (.v 1) (.int 2)]) [.ret (.call "_law_fraction" [.bin .Add (.bin .Mult (.v 2) (.int 249999999)) (.int 1), .v 3])] [],
  .ret (.call "_law_fraction" [.v 2, .v 3])] { nx := fun _ S' => ∃ S'', S''.le S' ∧ Q .non S'', rt := fun v S' => ∃ S'', S''.le S' ∧ Q v S'', xc := fun c _ S' => ∃ S'', S''.le S' ∧ X c S'' } [some (.ref p), some (.int m), some (.int n), none] (S.upd p (.lst (vI ns1))) := by
        intro n h5 h4
        refine wCs_step fun nx hn => ?_
        simp_wf
        split
        · subst hn; exact tail 2 (by decide) (fun _ => by decide)
        · subst hn; exact tail n h5 h4
      refine wCs_step fun nx hn => ?_
      simp_wf
      rw [abs_if]
      split
      · subst hn; exact three _ (by omega) (fun _ => by omega)
      · subst hn; exact three n h5 h4
    split
    · subst hn; exact two _ (by omega) (fun _ => by omega)
    · subst hn; exact two _ (by omega) (fun _ => by omega)
  · exact h.elim
/-- rising pairs -/
def ltP (t u : Tie) : Prop := t.a < u.a ∨ (t.a = u.a ∧ t.b < u.b)
def Srt (ts : List Tie) : Prop := ts.Pairwise ltP
theorem Srt.snoc {ts : List Tie} {t : Tie} (h : Srt ts) (l : ∀ u ∈ ts, ltP u t) : Srt (ts ++ [t]) := by
  unfold Srt
  rw [List.pairwise_append]
  exact ⟨h, List.pairwise_singleton _ _, fun a ha b hb => by simp only [List.mem_singleton] at hb; subst hb; exact l a ha⟩
def N_Lweb : List Str := ["_law_xs", "_law_least", "_law_most", "_law_many", "_law_manner", "_law_thin", "_law_ties", "_law_one", "_law_other"]
def P_Lweb : List Str := ["_law_xs", "_law_least", "_law_most"]
def B_Lweb : List C := [
  .asg (.nm 3) (.bin .Add (.v 1) (.call "_law_next" [.v 0, .bin .Add (.bin .Sub (.v 2) (.v 1)) (.int 1)])),
  .asg (.nm 4) (.call "_law_next" [.v 0, .int 7]),
  .asg (.nm 5) (.call "_law_next" [.v 0, .int 4]),
  .asg (.nm 6) (.lst []),
  .loop (.nm 7) (.rng1 (.v 3)) [.loop (.nm 8) (.rng2 (.bin .Add (.v 7) (.int 1)) (.v 3)) [.ite (.cmp .GtE (.call "_law_next" [.v 0, .int 4]) (.v 5)) [.ex (.mth .append (.v 6) [.tup [.v 7, .v 8, .call "_law_weight" [.v 0, .v 4]]])] []]],
  .ret (.tup [.v 3, .blt .tuple1 [.v 6]])]
def spDrawn : Spec
  | [.ref p, .int lo, .int hi], S, Q, _ => (∃ ns, S p = some (.lst (vI ns))) ∧ 1 ≤ lo ∧ lo ≤ hi ∧ hi ≤ 13 ∧ ∀ W ns, W.Ok → Srt W.ts → lo ≤ W.n → W.n ≤ hi → Q (vW W) (S.upd p (.lst (vI ns)))
  | _, _, _, _ => False
/-- what stands while a web is drawn -/
def Drawing (S : Sto) (p q : Addr) (n a b : Nat) (T : Sto) : Prop := ∃ ns ts, T = (S.upd p (.lst (vI ns))).upd q (.lst (ts.map vT)) ∧ Srt ts ∧ ts.length ≤ a * n + b ∧ (∀ t ∈ ts, t.a < t.b ∧ t.b < n ∧ WtOk t.w ∧ (t.a < a ∨ (t.a = a ∧ t.b < a + 1 + b)))
theorem body_Lweb {G : Gam} (g : G.fn "_law_next" = some spNext) (g2 : G.fn "_law_weight" = some spWeight) : Body G N_Lweb P_Lweb B_Lweb spDrawn := by
  intro vs S Q X h
  unfold spDrawn at h
  split at h
  · rename_i p lo hi
    obtain ⟨⟨ns, hp⟩, l1, l2, l3, h⟩ := h
    refine ⟨rfl, ?_⟩
    simp only [B_Lweb, N_Lweb]
    refine wCs_step fun nx hn => ?_
    simp_wf
    simp only [g, Option.some.injEq, exists_eq_left']
    refine .of ⟨by omega, ⟨ns, hp⟩, fun r ns1 r0 r1 => ?_⟩
    simp_wf
    obtain ⟨n, hn'⟩ := Int.eq_ofNat_of_zero_le (show 0 ≤ lo + r by omega)
    rw [hn']
    have n1 : 1 ≤ n := by omega
    have n2 : n ≤ 13 := by omega
    have n3 : lo ≤ (n : Int) := by omega
    have n4 : (n : Int) ≤ hi := by omega
    subst hn
    refine wCs_step fun nx hn => ?_
    simp_wf
    simp only [g, Option.some.injEq, exists_eq_left']
    refine .of ⟨by decide, ⟨ns1, Sto.upd_same⟩, fun m ns2 m0 m1 => ?_⟩
    rw [Sto.upd_upd]
    subst hn
    refine wCs_step fun nx hn => ?_
    simp_wf
    simp only [g, Option.some.injEq, exists_eq_left']
    refine .of ⟨by decide, ⟨ns2, Sto.upd_same⟩, fun th ns3 t0 t1 => ?_⟩
    rw [Sto.upd_upd]
    subst hn
    refine wCs_step fun nx hn => ?_
    simp_wf
    intro q hq
    have nqp : q ≠ p := fun e => by subst e; rw [Sto.upd_same] at hq; cases hq
    have hqS : S q = none := by rw [Sto.upd_ne nqp] at hq; exact hq
    subst hn
    refine wCs_step fun nx hn => ?_
    refine loop_rng1_ix (n := n) (S1 := (S.upd p (.lst (vI ns3))).upd q (.lst [])) (fun a ρ T => Drawing S p q n a 0 T ∧ ∃ o1 o2 : Option Val, ρ = [some (.ref p), some (.int lo), some (.int hi), some (.int n), some (.int m), some (.int th), some (.ref q), o1, o2]) (fun Q q => by simp_wf; exact q) (by omega) ⟨⟨ns3, [], rfl, .nil, by simp, by simp⟩, none, none, rfl⟩ ?_ ?_
    · rintro ρ T ⟨⟨ns, ts, rfl, hs, hl, ht⟩, o1, o2, rfl⟩
      subst hn
      simp_wf
      refine ⟨_, rd_upd, S.upd p (.lst (vI ns)), ?_, ?_⟩
      · exact Sto.le.new .refl (by rw [Sto.upd_ne nqp]; exact hqS)
      · have n169 : n * n ≤ 13 * 13 := Nat.mul_le_mul n2 n2
        exact h ⟨n, ts⟩ ns ⟨n1, by show n ≤ 60; omega, by show ts.length ≤ 170; omega, fun t h => ⟨(ht t h).1, (ht t h).2.1⟩, fun t h => (ht t h).2.2.1⟩ hs n3 n4
    · rintro a ρ T ha ⟨dr, o1, o2, rfl⟩ D' hnx hct hrt hbk hxc
      simp only [r_nm]
      simp only [List.set_cons_zero, List.set_cons_succ]
      refine wCs_step fun nx2 hn2 => ?_
      refine loop_rng2_ix (lo := (a : Int) + 1) (hi := n) (S1 := T) (S2 := T) (fun j ρ T => Drawing S p q n a j T ∧ ∃ o2 : Option Val, ρ = [some (.ref p), some (.int lo), some (.int hi), some (.int n), some (.int m), some (.int th), some (.ref q), some (.int a), o2]) (fun Q q => by simp_wf; exact q) (fun Q q => by simp_wf; exact q) (by unfold small62; omega) (by unfold small62; omega) ⟨dr, o2, rfl⟩ ?_ ?_
      · rintro ρ T ⟨⟨ns, ts, rfl, hs, hl, ht⟩, o2, rfl⟩
        subst hn2
        simp only [wCs]
        refine hnx _ _ ⟨⟨ns, ts, rfl, hs, ?_, fun t h => ?_⟩, some (.int a), o2, rfl⟩
        · have : (a + 1) * n = a * n + n := by rw [Nat.add_mul, Nat.one_mul]
          omega
        · obtain ⟨h1, h2, h3, h4⟩ := ht t h
          exact ⟨h1, h2, h3, .inl (by omega)⟩
      · rintro j ρ T hj ⟨⟨ns, ts, rfl, hs, hl, ht⟩, o2, rfl⟩ D2 hnx2 hct2 hrt2 hbk2 hxc2
        have hjn : a + 1 + j < n := by omega
        simp_wf
        simp only [g, g2, Option.some.injEq, exists_eq_left']
        refine .of ⟨by decide, ⟨ns, Sto.ne_upd Sto.upd_same (Ne.symm nqp)⟩, fun r ns' r0 r1 => ?_⟩
        rw [Sto.upd_comm nqp, Sto.upd_upd]
        simp_wf
        split
        · refine ⟨⟨_, rd_upd⟩, .of ⟨⟨ns', Sto.ne_upd Sto.upd_same (Ne.symm nqp)⟩, fun w ns2 hw => ?_⟩⟩
          rw [Sto.upd_comm nqp, Sto.upd_upd]
          simp_wf
          have n169 : a * n ≤ 13 * 13 := Nat.mul_le_mul (by omega) n2
          refine ⟨_, Sto.upd_same, ?_, hnx2 _ _ ⟨⟨ns2, ts ++ [⟨a, a + 1 + j, w⟩], ?_, hs.snoc fun u hu => ?_, ?_, fun t h => ?_⟩, _, rfl⟩⟩
          · rw [List.length_map]
            exact Nat.lt_of_le_of_lt (show ts.length ≤ 1000 by omega) (by decide)
          · rw [Sto.upd_upd, List.map_append]
            simp only [List.map_cons, List.map_nil, vT]
            rw [show ((a + 1 + j : Nat) : Int) = (a : Int) + 1 + (j : Int) by omega]
          · obtain ⟨h1, h2, h3, h4⟩ := ht u hu
            rcases h4 with h4 | h4
            · exact .inl h4
            · exact .inr h4
          · simp; omega
          · simp only [List.mem_append, List.mem_singleton] at h
            rcases h with h | rfl
            · obtain ⟨h1, h2, h3, h4⟩ := ht t h
              exact ⟨h1, h2, h3, by omega⟩
            · exact ⟨by show a < a + 1 + j; omega, hjn, hw, .inr ⟨rfl, by show a + 1 + j < a + 1 + (j + 1); omega⟩⟩
        · refine hnx2 _ _ ⟨⟨ns', ts, rfl, hs, by omega, fun t h => ?_⟩, _, rfl⟩
          obtain ⟨h1, h2, h3, h4⟩ := ht t h
          exact ⟨h1, h2, h3, by omega⟩
  · exact h.elim
/-- sums of a list of fractions -/
def SumOk (rs : List Rat) : Prop := (∀ r ∈ rs, SzQ 4000 4000 r) ∧ ∀ j, SzQ 4000 4000 (qs (rs.take j))
def spSum : Spec
  | [.ref p], S, Q, _ => ∃ rs, rdL S p (rs.map vQ) ∧ SumOk rs ∧ Q (vQ (qs rs)) S
  | _, _, _, _ => False
def N_Lsum : List Str := ["_law_fractions", "_law_top", "_law_bottom", "_law_one", "_law_other"]
def P_Lsum : List Str := ["_law_fractions"]
def B_Lsum : List C := [
  .asg (.tup [.nm 1, .nm 2]) (.tup [.int 0, .int 1]),
  .loop (.tup [.nm 3, .nm 4]) (.val (.v 0)) [.asg (.tup [.nm 1, .nm 2]) (.call "_law_fraction" [.bin .Add (.bin .Mult (.v 1) (.v 4)) (.bin .Mult (.v 3) (.v 2)), .bin .Mult (.v 2) (.v 4)])],
  .ret (.tup [.v 1, .v 2])]
theorem SzQ.mulN {r s : Rat} (h : SzQ 4000 4000 r) (h' : SzQ 4000 4000 s) : MulOk r.num s.den ∧ MulOk r.den s.den ∧ MulOk s.num r.den ∧ MulOk r.num s.num := ⟨h.num.mulOk h'.dsz (by decide), h.dsz.mulOk h'.dsz (by decide), h'.num.mulOk h.dsz (by decide), h.num.mulOk h'.num (by decide)⟩
theorem dd_ne (r s : Rat) : (r.den : Int) * s.den ≠ 0 := Int.mul_ne_zero (den_ne r) (den_ne s)
theorem SzQ.dd {r s : Rat} (h : SzQ 4000 4000 r) (h' : SzQ 4000 4000 s) : Sz 9000 ((r.den : Int) * s.den) := (h.dsz.mul h'.dsz).mono (by decide)
theorem body_Lsum {G : Gam} (g : G.fn "_law_fraction" = some spFr) : Body G N_Lsum P_Lsum B_Lsum spSum := by
  intro vs S Q X h
  unfold spSum at h
  split at h
  · rename_i p
    obtain ⟨rs, hp, ⟨ok1, ok2⟩, h⟩ := h
    refine ⟨rfl, ?_⟩
    simp only [B_Lsum, N_Lsum]
    refine wCs_step fun nx hn => ?_
    simp_wf
    subst hn
    refine wCs_step fun nx hn => ?_
    refine loop_list_ix (xs := rs) (f := vQ) (q := p) (S1 := S) (fun j ρ T => T = S ∧ ∃ o1 o2 : Option Val, ρ = [some (.ref p), some (.int (qs (rs.take j)).num), some (.int ((qs (rs.take j)).den : Int)), o1, o2]) (fun Q q => by simp_wf; exact q) hp (fun j ρ T h => by rw [h.1]; exact hp) ⟨rfl, none, none, rfl⟩ ?_ ?_
    · rintro ρ T ⟨rfl, o1, o2, rfl⟩
      subst hn
      simp_wf
      rw [List.take_length]
      exact ⟨T, .refl, h⟩
    · rintro j r hr ρ T ⟨rfl, o1, o2, rfl⟩ D' hnx hct hrt hbk hxc
      have s1 := ok2 j
      have s2 := ok1 r (mem_of_get hr)
      obtain ⟨m1, m2, m3, _⟩ := s1.mulN s2
      simp_wf
      simp only [g, Option.some.injEq, exists_eq_left']
      refine ⟨m1, m3, m2, .of ⟨dd_ne _ _, s1.dd s2, ?_⟩⟩
      rw [← add_divInt]
      simp_wf
      refine hnx _ _ ⟨rfl, some (.int r.num), some (.int r.den), ?_⟩
      rw [take_snoc hr, qs_snoc]
  · exact h.elim
theorem SumOk.of {rs : List Rat} {k : Nat} (h : ∀ r ∈ rs, SzQ 30 10 r) (hl : rs.length ≤ k) (hk : k ≤ 350) : SumOk rs := by
  refine ⟨fun r hr => (h r hr).mono (by decide) (by decide), fun j => ?_⟩
  refine (qs_sz (k := k) (fun r hr => h r (List.mem_of_mem_take hr)) (by rw [List.length_take]; omega)).mono (by omega) (by omega)
def N_Lweight_of : List Str := ["_law_web_here", "_law_side", "_law_one", "_law_other", "_law_weight_here"]
def P_Lweight_of : List Str := ["_law_web_here", "_law_side"]
def B_Lweight_of : List C := [
  .ret (.call "_law_sum" [.lc [("_law_one", 2), ("_law_other", 3), ("_law_weight_here", 4)] (.tup [.nm 2, .nm 3, .nm 4]) (.val (.ix (.v 0) (.int 1))) [.cmp .NotEq (.ix (.v 1) (.v 2)) (.ix (.v 1) (.v 3))] (.v 4)])]
def N_LstreamA : List Str := ["_law_cell", "_law_many", "_law_found", "_law_k", "_law_number", "_law_other"]
def P_LstreamA : List Str := ["_law_cell", "_law_many"]
def B_LstreamA : List C := B_Lstream
theorem body_LstreamA {G : Gam} : Body G N_LstreamA P_LstreamA B_LstreamA spStream := Body.names body_Lstream rfl rfl
def N_Ldivisor : List Str := ["_law_one", "_law_other"]
def P_Ldivisor : List Str := ["_law_one", "_law_other"]
def B_Ldivisor : List C := B_common_divisor
theorem body_Ldivisor {G : Gam} : Body G N_Ldivisor P_Ldivisor B_Ldivisor spCd := body_common_divisor
end M

set_option maxHeartbeats 1000000
namespace M
open PySem PySem.Spec L2
local macro_rules | `(tactic| simp_wf) => `(tactic| simp only [wCs, w_asg, w_par, w_aug, w_ex, w_ret, w_retN, w_ite, w_brk, w_cnt, w_pass, w_rais, e_v, e_int, e_bl, e_non, e_str, e_g, e_bin, e_neg, e_cmp, e_chain, e_and, e_or, e_not, e_ife, e_tup, e_lst, e_ix, e_sl, e_rev, e_fld, e_call, e_new, e_meth, e_blt, e_mth, e_isi, e_isiT, e_dK0, e_dT0, e_repr, e_ktup, e_lrng1, e_lrng2, e_lrev, e_trev, e_dix, e_dg1, e_dg2, e_dsd, e_dpop, e_din, wEs, wAndV, wOrV, wB, wAnd, wOr, wBs, wP, r_nm, r_tgT, r_tgQ, r_tgW, r_tgt, r_tgr, r_tgp, r_tgd, r_tgi, r_tgs, r_tgs0, wBin, wCmp,
  r_add_ii, r_add_ib, r_add_ss, r_add_tt, r_add_rr, r_sub_ii, r_mul_ii, r_mul_ri, r_mul_ti, r_div_ii, r_mod_ii, r_pow_ii, r_shl_ii, r_shr_ii, r_and_ii, r_xor_ii, r_int, r_is_n, r_is_b, r_tru_b, r_tru_i, r_tru_n, r_tru_t, r_tru_r, r_ix_t, r_ix_r, r_sl_t, r_sl_r, r_len_t, r_len_s, r_abs, r_min2, r_max2, r_int1, r_int1b, r_str1, r_list1, r_tuple1, r_tuple1t, r_tuple1p, r_len_p, r_sorted1t, r_ix_p, r_valD_p, r_ty_p, r_tindex, r_tyM_tindex, r_reverse, r_tyM_reverse, r_remove, r_tyM_remove, r_append, r_pop0, r_pop1, r_insert, r_extend, r_count, r_index, r_sum1, r_sorted1, r_tyM_pop1, r_tyM_insert, r_tyM_extend, r_tyM_count, r_tyM_index, r_fld, r_tgf, r_tyM_append, r_tyM_pop0, r_valD_t, r_valD_r, r_ty_n, r_ty_b, r_ty_i, r_ty_s, r_ty_t, r_is_non_int, r_is_non_bool, r_is_non_str, r_is_non_tuple, r_is_non_list, r_is_non_dict, r_is_bl_int, r_is_bl_bool, r_is_bl_str, r_is_bl_tuple, r_is_bl_list, r_is_bl_dict, r_is_int_int, r_is_int_bool, r_is_int_str, r_is_int_tuple, r_is_int_list, r_is_int_dict, r_is_str_int, r_is_str_bool, r_is_str_str, r_is_str_tuple, r_is_str_list, r_is_str_dict, r_is_ptup_int, r_is_ptup_bool, r_is_ptup_str, r_is_ptup_tuple, r_is_ptup_list, r_is_ptup_dict, r_is_tup_int, r_is_tup_bool, r_is_tup_str, r_is_tup_tuple, r_is_tup_list, r_is_tup_dict, isNon, r_W0, r_W1, r_T0, r_T1, r_T2, r_Q0, r_Q1, r_at0, r_at1, r_at2, r_at3, r_at4, r_at5, r_eq_ii, r_eq_bb,
  List.getElem?_cons_zero, List.getElem?_cons_succ, List.set_cons_zero, List.set_cons_succ, setAll, Option.some.injEq, Val.int.injEq, Val.bl.injEq, Val.tup.injEq, Val.ref.injEq, exists_eq_left', exists_eq_left, exists_eq_right, Bool.false_eq_true, if_true, if_false, List.isEmpty_nil, List.isEmpty_cons, true_and, and_true, ↓reduceIte, List.length_cons, List.length_nil, startL, List.map_cons, List.map_nil, Bool.not_true, Bool.not_false, Nat.reduceAdd, Nat.reduceSub, List.replicate, List.cons_append, List.nil_append, reduceCtorEq, false_and, exists_false, List.cons.injEq, Bool.false_xor, Bool.true_xor, wipeL, Int.reduceNeg, Int.cast_ofNat_Int, decide_true, decide_false, Int.reduceEq, decide_eq_true_eq, r_nd, r_sl0, r_sl1, r_sl2, r_sl3, r_sl4, r_sl5, r_sl6, r_sl7, r_sl8, r_sl9, r_sl10, r_sl11, r_sl12, r_sl13, r_sl14, r_sl15, r_sl16, r_sl17, r_sl18, r_sl19, r_sl20, r_sl21, r_sl22, r_sl23, r_sl24, decide_eq_false_iff_not, not_true_eq_false, not_false_eq_true, Int.not_lt, Int.not_le])
def isIn (ps : List Int) (i : Int) : Bool := ps.any fun z => decide (z = i)
/-- points: a tuple or a list -/
def PtsV (S : Sto) (v : Val) (ps : List Int) : Prop := v = .tup (vI ps) ∨ ∃ a, v = .ref a ∧ S a = some (.lst (vI ps))
theorem PtsV.upd {S : Sto} {v : Val} {ps : List Int} {q : Addr} {o : MO} (h : PtsV S v ps) (hq : S q = none) : PtsV (S.upd q o) v ps := by
  rcases h with h | ⟨a, h, h2⟩
  · exact .inl h
  · exact .inr ⟨a, h, Sto.old h2 hq⟩
theorem PtsV.le {S T : Sto} {v : Val} {ps : List Int} (h : PtsV S v ps) (l : S.le T) : PtsV T v ps := by
  rcases h with h | ⟨a, h, h2⟩
  · exact .inl h
  · exact .inr ⟨a, h, l _ _ h2⟩
section
variable {G : Gam} {X : XPost} {ρ : Loc} {S : Sto} {a b : E} {t : T} {own : List (Str × Nat)} {ifs : List B} {e : E} {Q : Post} {α : Type}
/-- a turn that keeps g x if p x -/
def TurnF (G : Gam) (own : List (Str × Nat)) (t : T) (ifs : List B) (e : E) (ρ : Loc) (S : Sto) (v : Val) (p : Bool) (w : Val) : Prop := ∀ R : Option Val → Sto → Prop, (p = true → R (some w) S) → (p = false → R none S) →
  wTg G noX t v (wipeL ρ (own.map (·.2))) S fun ρ' S3 => wBs G noX ifs ρ' S3 fun k S4 => if k = true then wE G noX e ρ' S4 fun v S5 => R (some v) S5 else R none S4
theorem fm_snoc {xs : List α} {p : α → Bool} {g : α → Val} {j : Nat} {x : α} (h : xs[j]? = some x) : (((xs.take (j + 1)).filter p).map g) = ((xs.take j).filter p).map g ++ if p x = true then [g x] else [] := by
  rw [take_snoc h, List.filter_append, List.map_append]
  cases hp : p x <;> simp [List.filter_cons, hp]
theorem turn_fm {xs : List α} {p : α → Bool} {g : α → Val} {j : Nat} {x : α} {v : Val} {acc : List Val} {T : Sto} (hx : xs[j]? = some x) (ht : TurnF G own t ifs e ρ S v (p x) (g x)) (hT : T = S ∧ acc = ((xs.take j).filter p).map g) :
    CTurnAt G (own.map (·.2)) t ifs e ρ v j acc T (fun j acc T => T = S ∧ acc = ((xs.take j).filter p).map g) := by
  obtain ⟨rfl, rfl⟩ := hT
  intro R r0 r1
  refine ht R (fun h => r1 _ _ ⟨rfl, ?_⟩) (fun h => r0 _ ⟨rfl, ?_⟩)
  · rw [fm_snoc hx, h, if_pos rfl]
  · rw [fm_snoc hx, h]; simp
theorem fml_len {xs : List α} {p : α → Bool} {g : α → Val} {j : Nat} : (((xs.take j).filter p).map g).length ≤ j := by
  rw [List.length_map]
  exact Nat.le_trans (List.length_filter_le _ _) (by rw [List.length_take]; omega)
theorem lc_tup_fm {xs : List α} {f : α → Val} (p : α → Bool) (g : α → Val) (ha : ∀ Q : Post, Q (.tup (xs.map f)) S → wE G X a ρ S Q) (hn : xs.length ≤ 2 ^ 20)
    (hst : ∀ x ∈ xs, TurnF G own t ifs e ρ S (f x) (p x) (g x)) (hq : ∀ q, S q = none → Q (.ref q) (S.upd q (.lst ((xs.filter p).map g)))) : wE G X (.lc own t (.val a) ifs e) ρ S Q := by
  refine lc_tup_ix (S1 := S) (fun j acc T => T = S ∧ acc = ((xs.take j).filter p).map g) ha hn (fun j acc T z => by rw [z.2]; exact fml_len) ⟨rfl, rfl⟩ ?_ fun j x acc T hx z => turn_fm hx (hst x (mem_of_get hx)) z
  rintro acc T ⟨rfl, rfl⟩ q hq'
  rw [List.take_length]; exact hq q hq'
theorem lc_list_fm {xs : List α} {f : α → Val} {l : Addr} (p : α → Bool) (g : α → Val) (ha : ∀ Q : Post, Q (.ref l) S → wE G X a ρ S Q) (hr : rdL S l (xs.map f)) (hn : xs.length ≤ 2 ^ 20)
    (hst : ∀ x ∈ xs, TurnF G own t ifs e ρ S (f x) (p x) (g x)) (hq : ∀ q, S q = none → Q (.ref q) (S.upd q (.lst ((xs.filter p).map g)))) : wE G X (.lc own t (.val a) ifs e) ρ S Q := by
  refine lc_list_ix (S1 := S) (q := l) (fun j acc T => T = S ∧ acc = ((xs.take j).filter p).map g) ha hr (fun j acc T z => by rw [z.1]; exact hr) hn (fun j acc T z => by rw [z.2]; exact fml_len) ⟨rfl, rfl⟩ ?_ fun j x acc T hx z => turn_fm hx (hst x (mem_of_get hx)) z
  rintro acc T ⟨rfl, rfl⟩ q hq'
  rw [List.take_length]; exact hq q hq'
end
theorem eqvAll_ints : ∀ ns ms : List Int, PyData.eqvAll (ns.map PyData.int) (ms.map PyData.int) = decide (ns = ms)
  | [], [] => by simp [PyData.eqvAll]
  | [], m :: ms => by simp [PyData.eqvAll]
  | n :: ns, [] => by simp [PyData.eqvAll]
  | n :: ns, m :: ms => by
    simp only [List.map_cons, PyData.eqvAll, eqvAll_ints ns ms]
    rw [Bool.eq_iff_iff]
    simp [PyData.eqv]
theorem eqv_lst (ds es : List PyData) : PyData.eqv (.list ds) (.list es) = PyData.eqvAll ds es := by simp only [PyData.eqv]
theorem cEq_ints {S : Sto} {Q : Post} {n : Bool} {p q : Addr} {ns ms : List Int} (h : rdL S p (ns.map Val.int)) (h' : rdL S q (ms.map Val.int)) (hq : Q (.bl (n ^^ decide (ns = ms))) S) : cEq n (.ref p) (.ref q) S Q := by
  unfold cEq
  rw [if_neg (by simp [okD, isPure])]
  refine .inr ⟨_, _, .lst h (Dv_ints ns), .lst h' (Dv_ints ms), shaped_ints ns, shaped_ints ms, ?_⟩
  rw [eqv_lst, eqvAll_ints]; exact hq
theorem isIn_iff {ps : List Int} {i : Int} : isIn ps i = true ↔ i ∈ ps := by unfold isIn; simp
/-- what the list p shows, as long as nothing else is changed -/
theorem Sto.upd_at {S : Sto} {p q : Addr} {o u : MO} (h : S p = some o) (e : p ≠ q) : (S.upd q u) p = some o := by rw [Sto.upd_ne e]; exact h
theorem cut_vI {ns : List Int} {lo hi : Option Int} : M.cut (vI ns) lo hi = vI ((ns.drop (HT.sIx ns.length 0 lo)).take (HT.sIx ns.length ns.length hi - HT.sIx ns.length 0 lo)) := by
  unfold M.cut vI
  rw [List.length_map, List.map_take, List.map_drop]
theorem cut_any (ns : List Int) (lo hi : Option Int) : ∃ ms, M.cut (vI ns) lo hi = vI ms ∧ ms.length ≤ ns.length := ⟨_, cut_vI, by rw [List.length_take, List.length_drop]; omega⟩
/-- from S0 on, e gives a list of at most m ints and leaves all that stands -/
def GL (G : Gam) (X : XPost) (ρ : Loc) (S0 : Sto) (m : Nat) (e : E) : Prop := ∀ (S : Sto) (Q : Post), S0.le S → (∀ (T : Sto) (p : Addr) (ns : List Int), S.le T → T p = some (.lst (vI ns)) → ns.length ≤ m → Q (.ref p) T) → wE G X e ρ S Q
/-- the same for some int -/
def GI (G : Gam) (X : XPost) (ρ : Loc) (S0 : Sto) (e : E) : Prop := ∀ (S : Sto) (Q : Post), S0.le S → (∀ i : Int, Q (.int i) S) → wE G X e ρ S Q
section
variable {G : Gam} {X : XPost} {ρ : Loc} {S0 : Sto} {m k : Nat} {a b : E}
theorem GL.v {i : Nat} {p : Addr} {ns : List Int} (h : ρ[i]? = some (some (.ref p))) (hp : S0 p = some (.lst (vI ns))) (hn : ns.length ≤ m) : GL G X ρ S0 m (.v i) := fun S Q l q => by
  rw [e_v]
  exact ⟨_, h, q S p ns .refl (l p _ hp) hn⟩
theorem GL.mono (h : GL G X ρ S0 m a) (hk : m ≤ k) : GL G X ρ S0 k a := fun S Q l q => h S Q l fun T p ns lT hT hn => q T p ns lT hT (Nat.le_trans hn hk)
theorem GL.sl {lo hi : P} (h : GL G X ρ S0 m a) (hl : ∀ (S : Sto) (R : Option Int → Sto → Prop), (∀ o, R o S) → wP G X lo ρ S R) (hh : ∀ (S : Sto) (R : Option Int → Sto → Prop), (∀ o, R o S) → wP G X hi ρ S R) : GL G X ρ S0 m (.sl a lo hi) := fun S Q l q => by
  rw [e_sl]
  refine h S _ l fun T p ns lT hT hn => ?_
  refine hl T _ fun o1 => hh T _ fun o2 => ?_
  rw [r_sl_r]
  refine ⟨_, .lst hT, fun u hu => ?_⟩
  obtain ⟨ms, e, hm⟩ := cut_any ns o1 o2
  rw [e]
  exact q _ u ms (Sto.le.new lT hu) Sto.upd_same (Nat.le_trans hm hn)
theorem GL.rev (h : GL G X ρ S0 m a) : GL G X ρ S0 m (.rev a) := fun S Q l q => by
  rw [e_rev]
  refine h S _ l fun T p ns lT hT hn => ⟨_, _, rfl, .lst hT, fun u hu => q _ u ns.reverse (Sto.le.new lT hu) ?_ (by simpa using hn)⟩
  rw [Sto.upd_same]; unfold vI; rw [List.map_reverse]
theorem GL.add (h : GL G X ρ S0 m a) (h' : GL G X ρ S0 k b) (hmk : m + k ≤ 1000) : GL G X ρ S0 (m + k) (.bin .Add a b) := fun S Q l q => by
  rw [e_bin]
  refine h S _ l fun T p ns lT hT hn => ?_
  refine h' T _ (l.trans lT) fun T' p' ns' lT' hT' hn' => ?_
  simp only [wBin]
  rw [r_add_rr]
  refine ⟨_, _, lT' p _ hT, hT', ?_, fun u hu => q _ u (ns ++ ns') (Sto.le.new (lT.trans lT') hu) ?_ (by rw [List.length_append]; omega)⟩
  · rw [vI_len, vI_len]
    exact Nat.le_trans (show _ ≤ 1000 by omega) (by decide)
  · rw [Sto.upd_same]; unfold vI; rw [List.map_append]
theorem GL.one (h : GI G X ρ S0 a) : GL G X ρ S0 1 (.lst [a]) := fun S Q l q => by
  rw [e_lst]
  simp only [wEs]
  refine h S _ l fun i => ⟨(show 1 ≤ sizeLine by decide), fun u hu => q _ u [i] (Sto.le.new .refl hu) Sto.upd_same (Nat.le_refl _)⟩
theorem GL.srt (h : GL G X ρ S0 m a) : GL G X ρ S0 m (.blt .sorted1 [a]) := fun S Q l q => by
  rw [e_blt]
  simp only [wEs]
  refine h S _ l fun T p ns lT hT hn => ?_
  rw [r_sorted1]
  exact ⟨ns, .lst hT, fun ns' pm _ u hu => q _ u ns' (Sto.le.new lT hu) Sto.upd_same (by rw [pm.length_eq]; exact hn)⟩
/-- several at once -/
theorem GL.all : ∀ {es : List E}, (∀ e ∈ es, GL G X ρ S0 m e) → ∀ (S : Sto) (Q : List Val → Sto → Prop), S0.le S → (∀ (T : Sto) (vs : List Val), S.le T → vs.length = es.length → (∀ v ∈ vs, ∃ p ns, v = .ref p ∧ T p = some (.lst (vI ns)) ∧ ns.length ≤ m) → Q vs T) → wEs G X es ρ S Q
  | [], _, S, Q, l, q => q S [] .refl rfl fun _ h => by cases h
  | e :: es, h, S, Q, l, q => by
    simp only [wEs]
    refine h e List.mem_cons_self S _ l fun T p ns lT hT hn => ?_
    refine GL.all (fun e' he => h e' (List.mem_cons_of_mem _ he)) T _ (l.trans lT) fun T' vs lT' hl hv => q T' _ (lT.trans lT') (by simp [hl]) fun v hv' => ?_
    rcases List.mem_cons.mp hv' with rfl | hv'
    · exact ⟨p, ns, rfl, lT' p _ hT, hn⟩
    · exact hv v hv'
end
end M

set_option maxHeartbeats 1000000
namespace M
open PySem PySem.Spec L2
local macro_rules | `(tactic| simp_wf) => `(tactic| simp only [wCs, w_asg, w_par, w_aug, w_ex, w_ret, w_retN, w_ite, w_brk, w_cnt, w_pass, w_rais, e_v, e_int, e_bl, e_non, e_str, e_g, e_bin, e_neg, e_cmp, e_chain, e_and, e_or, e_not, e_ife, e_tup, e_lst, e_ix, e_sl, e_rev, e_fld, e_call, e_new, e_meth, e_blt, e_mth, e_isi, e_isiT, e_dK0, e_dT0, e_repr, e_ktup, e_lrng1, e_lrng2, e_lrev, e_trev, e_dix, e_dg1, e_dg2, e_dsd, e_dpop, e_din, wEs, wAndV, wOrV, wB, wAnd, wOr, wBs, wP, r_nm, r_tgT, r_tgQ, r_tgW, r_tgt, r_tgr, r_tgp, r_tgd, r_tgi, r_tgs, r_tgs0, wBin, wCmp,
  r_add_ii, r_add_ib, r_add_ss, r_add_tt, r_add_rr, r_sub_ii, r_mul_ii, r_mul_ri, r_mul_ti, r_div_ii, r_mod_ii, r_pow_ii, r_shl_ii, r_shr_ii, r_and_ii, r_xor_ii, r_int, r_is_n, r_is_b, r_tru_b, r_tru_i, r_tru_n, r_tru_t, r_tru_r, r_ix_t, r_ix_r, r_sl_t, r_sl_r, r_len_t, r_len_s, r_abs, r_min2, r_max2, r_int1, r_int1b, r_str1, r_list1, r_tuple1, r_tuple1t, r_tuple1p, r_len_p, r_sorted1t, r_ix_p, r_valD_p, r_ty_p, r_tindex, r_tyM_tindex, r_reverse, r_tyM_reverse, r_remove, r_tyM_remove, r_append, r_pop0, r_pop1, r_insert, r_extend, r_count, r_index, r_sum1, r_sorted1, r_tyM_pop1, r_tyM_insert, r_tyM_extend, r_tyM_count, r_tyM_index, r_fld, r_tgf, r_tyM_append, r_tyM_pop0, r_valD_t, r_valD_r, r_ty_n, r_ty_b, r_ty_i, r_ty_s, r_ty_t, r_is_non_int, r_is_non_bool, r_is_non_str, r_is_non_tuple, r_is_non_list, r_is_non_dict, r_is_bl_int, r_is_bl_bool, r_is_bl_str, r_is_bl_tuple, r_is_bl_list, r_is_bl_dict, r_is_int_int, r_is_int_bool, r_is_int_str, r_is_int_tuple, r_is_int_list, r_is_int_dict, r_is_str_int, r_is_str_bool, r_is_str_str, r_is_str_tuple, r_is_str_list, r_is_str_dict, r_is_ptup_int, r_is_ptup_bool, r_is_ptup_str, r_is_ptup_tuple, r_is_ptup_list, r_is_ptup_dict, r_is_tup_int, r_is_tup_bool, r_is_tup_str, r_is_tup_tuple, r_is_tup_list, r_is_tup_dict, isNon, r_W0, r_W1, r_T0, r_T1, r_T2, r_Q0, r_Q1, r_at0, r_at1, r_at2, r_at3, r_at4, r_at5, r_eq_ii, r_eq_bb,
  List.getElem?_cons_zero, List.getElem?_cons_succ, List.set_cons_zero, List.set_cons_succ, setAll, Option.some.injEq, Val.int.injEq, Val.bl.injEq, Val.tup.injEq, Val.ref.injEq, exists_eq_left', exists_eq_left, exists_eq_right, Bool.false_eq_true, if_true, if_false, List.isEmpty_nil, List.isEmpty_cons, true_and, and_true, ↓reduceIte, List.length_cons, List.length_nil, startL, List.map_cons, List.map_nil, Bool.not_true, Bool.not_false, Nat.reduceAdd, Nat.reduceSub, List.replicate, List.cons_append, List.nil_append, reduceCtorEq, false_and, exists_false, List.cons.injEq, Bool.false_xor, Bool.true_xor, wipeL, Int.reduceNeg, Int.cast_ofNat_Int, decide_true, decide_false, Int.reduceEq, decide_eq_true_eq, r_nd, r_sl0, r_sl1, r_sl2, r_sl3, r_sl4, r_sl5, r_sl6, r_sl7, r_sl8, r_sl9, r_sl10, r_sl11, r_sl12, r_sl13, r_sl14, r_sl15, r_sl16, r_sl17, r_sl18, r_sl19, r_sl20, r_sl21, r_sl22, r_sl23, r_sl24, decide_eq_false_iff_not, not_true_eq_false, not_false_eq_true, Int.not_lt, Int.not_le])
/-- a thing: of a built-in type, the items of a tuple too -/
def Thg (S : Sto) (v : Val) : Prop := okTy v S ∧ ∀ xs, v = .tup xs → xs.length ≤ 1000 ∧ ∀ x ∈ xs, okTy x S
def ints? : List Val → Option (List Int)
  | [] => some []
  | .int i :: r => (ints? r).map (i :: ·)
  | _ :: _ => none
theorem ints?_vI : ∀ ns : List Int, ints? (vI ns) = some ns
  | [] => rfl
  | n :: ns => by
    show (ints? (vI ns)).map (n :: ·) = _
    rw [ints?_vI ns]; rfl
theorem ints?_eq : ∀ {xs : List Val} {ns : List Int}, ints? xs = some ns → xs = vI ns
  | [], _, h => by cases h; rfl
  | .int i :: r, ns, h => by
    simp only [ints?] at h
    cases q : ints? r with
    | none => rw [q] at h; cases h
    | some ms => rw [q] at h; cases h; rw [ints?_eq q]; rfl
  | .non :: _, _, h => by cases h
  | .bl _ :: _, _, h => by cases h
  | .str _ :: _, _, h => by cases h
  | .tup _ :: _, _, h => by cases h
  | .ref _ :: _, _, h => by cases h
  | .ptup _ :: _, _, h => by cases h
/-- the numbers of a thing that is some -/
def isNums (m : Int) (v : Val) : Option (List Int) := match v with
  | .tup xs => match ints? xs with
    | some ns => if ns ≠ [] ∧ (∀ n ∈ ns, 0 ≤ n ∧ n < m) ∧ ns.Pairwise (· < ·) then some ns else none
    | none => none
  | _ => none
theorem isNums_of {m : Int} {v : Val} {ns : List Int} (h : isNums m v = some ns) : v = .tup (vI ns) ∧ ns ≠ [] ∧ (∀ n ∈ ns, 0 ≤ n ∧ n < m) ∧ ns.Pairwise (· < ·) := by
  unfold isNums at h
  split at h
  · split at h
    · rename_i h1
      split at h
      · rename_i h2; cases h; exact ⟨by rw [ints?_eq h1], h2⟩
      · cases h
    · cases h
  · cases h
theorem isNums_vI {m : Int} {ns : List Int} : isNums m (.tup (vI ns)) = if ns ≠ [] ∧ (∀ n ∈ ns, 0 ≤ n ∧ n < m) ∧ ns.Pairwise (· < ·) then some ns else none := by
  unfold isNums
  simp only [ints?_vI]
/-- each an even number of times -/
def evB (ns : List Int) : Bool := ns.all fun e => decide (ns.count e % 2 = 0)
/-- a table of counts -/
structure Cnt (ns : List Int) (kvs : List (Key × Val)) : Prop where
  key : ∀ p ∈ kvs, ∃ i, p.1 = .inl i ∧ i ∈ ns
  val : ∀ i : Int, vlK kvs (.inl i) = if ns.count i = 0 then none else some (.int (ns.count i : Nat))
  len : kvs.length ≤ ns.length
theorem vlK_map {κ : Type} [DecidableEq κ] (kvs : List (κ × Val)) (k j : κ) (y : Val) : vlK (kvs.map fun kv => if kv.1 = k then (kv.1, y) else kv) j = (vlK kvs j).map fun x => if j = k then y else x := by
  induction kvs with
  | nil => rfl
  | cons p r ih =>
    unfold vlK at ih ⊢
    rw [List.map_cons, List.find?_cons, List.find?_cons]
    by_cases e : p.1 = k
    · rw [if_pos e]
      by_cases f : p.1 = j
      · simp [f, ← e]
      · simp only [f, decide_false]; exact ih
    · rw [if_neg e]
      by_cases f : p.1 = j
      · have : ¬ j = k := fun z => e (f.trans z)
        simp [f, this]
      · simp only [f, decide_false]; exact ih
theorem vlK_snoc {κ : Type} [DecidableEq κ] (kvs : List (κ × Val)) (k j : κ) (y : Val) (h : vlK kvs k = none) : vlK (kvs ++ [(k, y)]) j = if j = k then some y else vlK kvs j := by
  induction kvs with
  | nil =>
    unfold vlK
    by_cases e : j = k
    · subst e; simp
    · have : ¬ k = j := fun z => e z.symm
      simp [this, e]
  | cons p r ih =>
    unfold vlK at ih h ⊢
    rw [List.cons_append, List.find?_cons]
    rw [List.find?_cons] at h ⊢
    by_cases e : p.1 = k
    · simp [e] at h
    · simp only [e, decide_false] at h
      by_cases f : p.1 = j
      · have : ¬ j = k := fun z => e (f.trans z)
        simp [f, this]
      · simp only [f, decide_false]; exact ih h
theorem vlK_any {κ : Type} [DecidableEq κ] (kvs : List (κ × Val)) (k : κ) : (kvs.any fun kv => decide (kv.1 = k)) = (vlK kvs k).isSome := by
  induction kvs with
  | nil => rfl
  | cons p r ih =>
    unfold vlK at ih ⊢
    rw [List.any_cons, List.find?_cons]
    by_cases e : p.1 = k
    · simp [e]
    · simp only [e, decide_false, Bool.false_or]; exact ih
theorem vlK_put {κ : Type} [DecidableEq κ] (kvs : List (κ × Val)) (k j : κ) (y : Val) : vlK (ptK kvs k y) j = if j = k then some y else vlK kvs j := by
  unfold ptK
  rw [vlK_any]
  split
  · rename_i a
    rw [vlK_map]
    by_cases e : j = k
    · subst e
      obtain ⟨x, hx⟩ := Option.isSome_iff_exists.mp a
      simp [hx]
    · rw [if_neg e]
      cases vlK kvs j <;> simp [e]
  · rename_i a
    exact vlK_snoc kvs k j y (by simpa using a)
theorem ptK_len {κ : Type} [DecidableEq κ] (kvs : List (κ × Val)) (k : κ) (y : Val) : (ptK kvs k y).length ≤ kvs.length + 1 := by
  unfold ptK
  split
  · rw [List.length_map]; omega
  · simp
theorem ptK_mem {κ : Type} [DecidableEq κ] {kvs : List (κ × Val)} {k : κ} {y : Val} {p : κ × Val} (h : p ∈ ptK kvs k y) : p.1 = k ∨ ∃ q ∈ kvs, q.1 = p.1 := by
  unfold ptK at h
  split at h
  · obtain ⟨q, hq, rfl⟩ := List.mem_map.mp h
    split
    · rename_i e; exact .inl e
    · exact .inr ⟨q, hq, rfl⟩
  · rcases List.mem_append.mp h with h | h
    · exact .inr ⟨p, h, rfl⟩
    · rw [List.mem_singleton.mp h]; exact .inl rfl
theorem Cnt.nil : Cnt [] [] := ⟨(fun _ h => by cases h), fun i => rfl, Nat.le_refl _⟩
theorem Cnt.snoc {ns : List Int} {kvs : List (Key × Val)} {i : Int} (h : Cnt ns kvs) : Cnt (ns ++ [i]) (ptK kvs (.inl i) (.int (ns.count i + 1 : Nat))) := by
  refine ⟨fun p hp => ?_, fun j => ?_, ?_⟩
  · rcases ptK_mem hp with e | ⟨q, hq, e⟩
    · exact ⟨i, e, by simp⟩
    · obtain ⟨k, e2, hk⟩ := h.key q hq
      exact ⟨k, by rw [← e, e2], by simp [hk]⟩
  · rw [vlK_put]
    by_cases e : j = i
    · subst e
      rw [if_pos rfl, if_neg (by simp)]
      simp
    · rw [if_neg (by intro z; cases z; exact e rfl), h.val j]
      have : (ns ++ [i]).count j = ns.count j := by
        rw [List.count_append, List.count_singleton]
        have : (i == j) = false := by simp; exact fun z => e z.symm
        simp [this]
      rw [this]
  · refine Nat.le_trans (ptK_len _ _ _) ?_
    have := h.len
    simp; omega
theorem Cnt.get {ns : List Int} {kvs : List (Key × Val)} (h : Cnt ns kvs) (i : Int) : ((vlK kvs (.inl i)).getD (.int 0)) = .int (ns.count i : Nat) := by
  rw [h.val i]
  split
  · rename_i e; rw [e]; rfl
  · rfl
end M

set_option maxHeartbeats 1000000
namespace M
open PySem PySem.Spec L2
local macro_rules | `(tactic| simp_wf) => `(tactic| simp only [wCs, w_asg, w_par, w_aug, w_ex, w_ret, w_retN, w_ite, w_brk, w_cnt, w_pass, w_rais, e_v, e_int, e_bl, e_non, e_str, e_g, e_bin, e_neg, e_cmp, e_chain, e_and, e_or, e_not, e_ife, e_tup, e_lst, e_ix, e_sl, e_rev, e_fld, e_call, e_new, e_meth, e_blt, e_mth, e_isi, e_isiT, e_dK0, e_dT0, e_repr, e_ktup, e_lrng1, e_lrng2, e_lrev, e_trev, e_dix, e_dg1, e_dg2, e_dsd, e_dpop, e_din, wEs, wAndV, wOrV, wB, wAnd, wOr, wBs, wP, r_nm, r_tgT, r_tgQ, r_tgW, r_tgt, r_tgr, r_tgp, r_tgd, r_tgi, r_tgs, r_tgs0, wBin, wCmp,
  r_add_ii, r_add_ib, r_add_ss, r_add_tt, r_add_rr, r_sub_ii, r_mul_ii, r_mul_ri, r_mul_ti, r_div_ii, r_mod_ii, r_pow_ii, r_shl_ii, r_shr_ii, r_and_ii, r_xor_ii, r_int, r_is_n, r_is_b, r_tru_b, r_tru_i, r_tru_n, r_tru_t, r_tru_r, r_ix_t, r_ix_r, r_sl_t, r_sl_r, r_len_t, r_len_s, r_abs, r_min2, r_max2, r_int1, r_int1b, r_str1, r_list1, r_tuple1, r_tuple1t, r_tuple1p, r_len_p, r_sorted1t, r_ix_p, r_valD_p, r_ty_p, r_tindex, r_tyM_tindex, r_reverse, r_tyM_reverse, r_remove, r_tyM_remove, r_append, r_pop0, r_pop1, r_insert, r_extend, r_count, r_index, r_sum1, r_sorted1, r_tyM_pop1, r_tyM_insert, r_tyM_extend, r_tyM_count, r_tyM_index, r_fld, r_tgf, r_tyM_append, r_tyM_pop0, r_valD_t, r_valD_r, r_ty_n, r_ty_b, r_ty_i, r_ty_s, r_ty_t, r_is_non_int, r_is_non_bool, r_is_non_str, r_is_non_tuple, r_is_non_list, r_is_non_dict, r_is_bl_int, r_is_bl_bool, r_is_bl_str, r_is_bl_tuple, r_is_bl_list, r_is_bl_dict, r_is_int_int, r_is_int_bool, r_is_int_str, r_is_int_tuple, r_is_int_list, r_is_int_dict, r_is_str_int, r_is_str_bool, r_is_str_str, r_is_str_tuple, r_is_str_list, r_is_str_dict, r_is_ptup_int, r_is_ptup_bool, r_is_ptup_str, r_is_ptup_tuple, r_is_ptup_list, r_is_ptup_dict, r_is_tup_int, r_is_tup_bool, r_is_tup_str, r_is_tup_tuple, r_is_tup_list, r_is_tup_dict, isNon, r_W0, r_W1, r_T0, r_T1, r_T2, r_Q0, r_Q1, r_at0, r_at1, r_at2, r_at3, r_at4, r_at5, r_eq_ii, r_eq_bb,
  List.getElem?_cons_zero, List.getElem?_cons_succ, List.set_cons_zero, List.set_cons_succ, setAll, Option.some.injEq, Val.int.injEq, Val.bl.injEq, Val.tup.injEq, Val.ref.injEq, exists_eq_left', exists_eq_left, exists_eq_right, Bool.false_eq_true, if_true, if_false, List.isEmpty_nil, List.isEmpty_cons, true_and, and_true, ↓reduceIte, List.length_cons, List.length_nil, startL, List.map_cons, List.map_nil, Bool.not_true, Bool.not_false, Nat.reduceAdd, Nat.reduceSub, List.replicate, List.cons_append, List.nil_append, reduceCtorEq, false_and, exists_false, List.cons.injEq, Bool.false_xor, Bool.true_xor, wipeL, Int.reduceNeg, Int.cast_ofNat_Int, decide_true, decide_false, Int.reduceEq, decide_eq_true_eq, r_nd, r_sl0, r_sl1, r_sl2, r_sl3, r_sl4, r_sl5, r_sl6, r_sl7, r_sl8, r_sl9, r_sl10, r_sl11, r_sl12, r_sl13, r_sl14, r_sl15, r_sl16, r_sl17, r_sl18, r_sl19, r_sl20, r_sl21, r_sl22, r_sl23, r_sl24, decide_eq_false_iff_not, not_true_eq_false, not_false_eq_true, Int.not_lt, Int.not_le])
end M

set_option maxHeartbeats 1000000
namespace M
open PySem PySem.Spec L2
local macro_rules | `(tactic| simp_wf) => `(tactic| simp only [wCs, w_asg, w_par, w_aug, w_ex, w_ret, w_retN, w_ite, w_brk, w_cnt, w_pass, w_rais, e_v, e_int, e_bl, e_non, e_str, e_g, e_bin, e_neg, e_cmp, e_chain, e_and, e_or, e_not, e_ife, e_tup, e_lst, e_ix, e_sl, e_rev, e_fld, e_call, e_new, e_meth, e_blt, e_mth, e_isi, e_isiT, e_dK0, e_dT0, e_repr, e_ktup, e_lrng1, e_lrng2, e_lrev, e_trev, e_dix, e_dg1, e_dg2, e_dsd, e_dpop, e_din, wEs, wAndV, wOrV, wB, wAnd, wOr, wBs, wP, r_nm, r_tgT, r_tgQ, r_tgW, r_tgt, r_tgr, r_tgp, r_tgd, r_tgi, r_tgs, r_tgs0, wBin, wCmp,
  r_add_ii, r_add_ib, r_add_ss, r_add_tt, r_add_rr, r_sub_ii, r_mul_ii, r_mul_ri, r_mul_ti, r_div_ii, r_mod_ii, r_pow_ii, r_shl_ii, r_shr_ii, r_and_ii, r_xor_ii, r_int, r_is_n, r_is_b, r_tru_b, r_tru_i, r_tru_n, r_tru_t, r_tru_r, r_ix_t, r_ix_r, r_sl_t, r_sl_r, r_len_t, r_len_s, r_abs, r_min2, r_max2, r_int1, r_int1b, r_str1, r_list1, r_tuple1, r_tuple1t, r_tuple1p, r_len_p, r_sorted1t, r_ix_p, r_valD_p, r_ty_p, r_tindex, r_tyM_tindex, r_reverse, r_tyM_reverse, r_remove, r_tyM_remove, r_append, r_pop0, r_pop1, r_insert, r_extend, r_count, r_index, r_sum1, r_sorted1, r_tyM_pop1, r_tyM_insert, r_tyM_extend, r_tyM_count, r_tyM_index, r_fld, r_tgf, r_tyM_append, r_tyM_pop0, r_valD_t, r_valD_r, r_ty_n, r_ty_b, r_ty_i, r_ty_s, r_ty_t, r_is_non_int, r_is_non_bool, r_is_non_str, r_is_non_tuple, r_is_non_list, r_is_non_dict, r_is_bl_int, r_is_bl_bool, r_is_bl_str, r_is_bl_tuple, r_is_bl_list, r_is_bl_dict, r_is_int_int, r_is_int_bool, r_is_int_str, r_is_int_tuple, r_is_int_list, r_is_int_dict, r_is_str_int, r_is_str_bool, r_is_str_str, r_is_str_tuple, r_is_str_list, r_is_str_dict, r_is_ptup_int, r_is_ptup_bool, r_is_ptup_str, r_is_ptup_tuple, r_is_ptup_list, r_is_ptup_dict, r_is_tup_int, r_is_tup_bool, r_is_tup_str, r_is_tup_tuple, r_is_tup_list, r_is_tup_dict, isNon, r_W0, r_W1, r_T0, r_T1, r_T2, r_Q0, r_Q1, r_at0, r_at1, r_at2, r_at3, r_at4, r_at5, r_eq_ii, r_eq_bb,
  List.getElem?_cons_zero, List.getElem?_cons_succ, List.set_cons_zero, List.set_cons_succ, setAll, Option.some.injEq, Val.int.injEq, Val.bl.injEq, Val.tup.injEq, Val.ref.injEq, exists_eq_left', exists_eq_left, exists_eq_right, Bool.false_eq_true, if_true, if_false, List.isEmpty_nil, List.isEmpty_cons, true_and, and_true, ↓reduceIte, List.length_cons, List.length_nil, startL, List.map_cons, List.map_nil, Bool.not_true, Bool.not_false, Nat.reduceAdd, Nat.reduceSub, List.replicate, List.cons_append, List.nil_append, reduceCtorEq, false_and, exists_false, List.cons.injEq, Bool.false_xor, Bool.true_xor, wipeL, Int.reduceNeg, Int.cast_ofNat_Int, decide_true, decide_false, Int.reduceEq, decide_eq_true_eq, r_nd, r_sl0, r_sl1, r_sl2, r_sl3, r_sl4, r_sl5, r_sl6, r_sl7, r_sl8, r_sl9, r_sl10, r_sl11, r_sl12, r_sl13, r_sl14, r_sl15, r_sl16, r_sl17, r_sl18, r_sl19, r_sl20, r_sl21, r_sl22, r_sl23, r_sl24, decide_eq_false_iff_not, not_true_eq_false, not_false_eq_true, Int.not_lt, Int.not_le])
end M

set_option maxHeartbeats 1000000
namespace M
open PySem PySem.Spec L2
local macro_rules | `(tactic| simp_wf) => `(tactic| simp only [wCs, w_asg, w_par, w_aug, w_ex, w_ret, w_retN, w_ite, w_brk, w_cnt, w_pass, w_rais, e_v, e_int, e_bl, e_non, e_str, e_g, e_bin, e_neg, e_cmp, e_chain, e_and, e_or, e_not, e_ife, e_tup, e_lst, e_ix, e_sl, e_rev, e_fld, e_call, e_new, e_meth, e_blt, e_mth, e_isi, e_isiT, e_dK0, e_dT0, e_repr, e_ktup, e_lrng1, e_lrng2, e_lrev, e_trev, e_dix, e_dg1, e_dg2, e_dsd, e_dpop, e_din, wEs, wAndV, wOrV, wB, wAnd, wOr, wBs, wP, r_nm, r_tgT, r_tgQ, r_tgW, r_tgt, r_tgr, r_tgp, r_tgd, r_tgi, r_tgs, r_tgs0, wBin, wCmp,
  r_add_ii, r_add_ib, r_add_ss, r_add_tt, r_add_rr, r_sub_ii, r_mul_ii, r_mul_ri, r_mul_ti, r_div_ii, r_mod_ii, r_pow_ii, r_shl_ii, r_shr_ii, r_and_ii, r_xor_ii, r_int, r_is_n, r_is_b, r_tru_b, r_tru_i, r_tru_n, r_tru_t, r_tru_r, r_ix_t, r_ix_r, r_sl_t, r_sl_r, r_len_t, r_len_s, r_abs, r_min2, r_max2, r_int1, r_int1b, r_str1, r_list1, r_tuple1, r_tuple1t, r_tuple1p, r_len_p, r_sorted1t, r_ix_p, r_valD_p, r_ty_p, r_tindex, r_tyM_tindex, r_reverse, r_tyM_reverse, r_remove, r_tyM_remove, r_append, r_pop0, r_pop1, r_insert, r_extend, r_count, r_index, r_sum1, r_sorted1, r_tyM_pop1, r_tyM_insert, r_tyM_extend, r_tyM_count, r_tyM_index, r_fld, r_tgf, r_tyM_append, r_tyM_pop0, r_valD_t, r_valD_r, r_ty_n, r_ty_b, r_ty_i, r_ty_s, r_ty_t, r_is_non_int, r_is_non_bool, r_is_non_str, r_is_non_tuple, r_is_non_list, r_is_non_dict, r_is_bl_int, r_is_bl_bool, r_is_bl_str, r_is_bl_tuple, r_is_bl_list, r_is_bl_dict, r_is_int_int, r_is_int_bool, r_is_int_str, r_is_int_tuple, r_is_int_list, r_is_int_dict, r_is_str_int, r_is_str_bool, r_is_str_str, r_is_str_tuple, r_is_str_list, r_is_str_dict, r_is_ptup_int, r_is_ptup_bool, r_is_ptup_str, r_is_ptup_tuple, r_is_ptup_list, r_is_ptup_dict, r_is_tup_int, r_is_tup_bool, r_is_tup_str, r_is_tup_tuple, r_is_tup_list, r_is_tup_dict, isNon, r_W0, r_W1, r_T0, r_T1, r_T2, r_Q0, r_Q1, r_at0, r_at1, r_at2, r_at3, r_at4, r_at5, r_eq_ii, r_eq_bb,
  List.getElem?_cons_zero, List.getElem?_cons_succ, List.set_cons_zero, List.set_cons_succ, setAll, Option.some.injEq, Val.int.injEq, Val.bl.injEq, Val.tup.injEq, Val.ref.injEq, exists_eq_left', exists_eq_left, exists_eq_right, Bool.false_eq_true, if_true, if_false, List.isEmpty_nil, List.isEmpty_cons, true_and, and_true, ↓reduceIte, List.length_cons, List.length_nil, startL, List.map_cons, List.map_nil, Bool.not_true, Bool.not_false, Nat.reduceAdd, Nat.reduceSub, List.replicate, List.cons_append, List.nil_append, reduceCtorEq, false_and, exists_false, List.cons.injEq, Bool.false_xor, Bool.true_xor, wipeL, Int.reduceNeg, Int.cast_ofNat_Int, decide_true, decide_false, Int.reduceEq, decide_eq_true_eq, r_nd, r_sl0, r_sl1, r_sl2, r_sl3, r_sl4, r_sl5, r_sl6, r_sl7, r_sl8, r_sl9, r_sl10, r_sl11, r_sl12, r_sl13, r_sl14, r_sl15, r_sl16, r_sl17, r_sl18, r_sl19, r_sl20, r_sl21, r_sl22, r_sl23, r_sl24, decide_eq_false_iff_not, not_true_eq_false, not_false_eq_true, Int.not_lt, Int.not_le])
/-- numbers drawn -/
def Bd (ns : List Int) : Prop := ∀ n ∈ ns, 0 ≤ n ∧ n < 2 ^ 32
theorem Bd.nil : Bd [] := fun _ h => by cases h
theorem Bd.snoc {ns : List Int} {i : Int} (h : Bd ns) (h0 : 0 ≤ i) (h1 : i < 2 ^ 32) : Bd (ns ++ [i]) := fun n hn => by
  rcases List.mem_append.mp hn with q | q
  · exact h n q
  · simp only [List.mem_singleton] at q; subst q; exact ⟨h0, h1⟩
theorem e5 : (10:Int) ^ Int.toNat 5 = 100000 := by decide
end M

set_option maxHeartbeats 1000000
namespace M
open PySem PySem.Spec L2
local macro_rules | `(tactic| simp_wf) => `(tactic| simp only [wCs, w_asg, w_par, w_aug, w_ex, w_ret, w_retN, w_ite, w_brk, w_cnt, w_pass, w_rais, e_v, e_int, e_bl, e_non, e_str, e_g, e_bin, e_neg, e_cmp, e_chain, e_and, e_or, e_not, e_ife, e_tup, e_lst, e_ix, e_sl, e_rev, e_fld, e_call, e_new, e_meth, e_blt, e_mth, e_isi, e_isiT, e_dK0, e_dT0, e_repr, e_ktup, e_lrng1, e_lrng2, e_lrev, e_trev, e_dix, e_dg1, e_dg2, e_dsd, e_dpop, e_din, wEs, wAndV, wOrV, wB, wAnd, wOr, wBs, wP, r_nm, r_tgT, r_tgQ, r_tgW, r_tgt, r_tgr, r_tgp, r_tgd, r_tgi, r_tgs, r_tgs0, wBin, wCmp,
  r_add_ii, r_add_ib, r_add_ss, r_add_tt, r_add_rr, r_sub_ii, r_mul_ii, r_mul_ri, r_mul_ti, r_div_ii, r_mod_ii, r_pow_ii, r_shl_ii, r_shr_ii, r_and_ii, r_xor_ii, r_int, r_is_n, r_is_b, r_tru_b, r_tru_i, r_tru_n, r_tru_t, r_tru_r, r_ix_t, r_ix_r, r_sl_t, r_sl_r, r_len_t, r_len_s, r_abs, r_min2, r_max2, r_int1, r_int1b, r_str1, r_list1, r_tuple1, r_tuple1t, r_tuple1p, r_len_p, r_sorted1t, r_ix_p, r_valD_p, r_ty_p, r_tindex, r_tyM_tindex, r_reverse, r_tyM_reverse, r_remove, r_tyM_remove, r_append, r_pop0, r_pop1, r_insert, r_extend, r_count, r_index, r_sum1, r_sorted1, r_tyM_pop1, r_tyM_insert, r_tyM_extend, r_tyM_count, r_tyM_index, r_fld, r_tgf, r_tyM_append, r_tyM_pop0, r_valD_t, r_valD_r, r_ty_n, r_ty_b, r_ty_i, r_ty_s, r_ty_t, r_is_non_int, r_is_non_bool, r_is_non_str, r_is_non_tuple, r_is_non_list, r_is_non_dict, r_is_bl_int, r_is_bl_bool, r_is_bl_str, r_is_bl_tuple, r_is_bl_list, r_is_bl_dict, r_is_int_int, r_is_int_bool, r_is_int_str, r_is_int_tuple, r_is_int_list, r_is_int_dict, r_is_str_int, r_is_str_bool, r_is_str_str, r_is_str_tuple, r_is_str_list, r_is_str_dict, r_is_ptup_int, r_is_ptup_bool, r_is_ptup_str, r_is_ptup_tuple, r_is_ptup_list, r_is_ptup_dict, r_is_tup_int, r_is_tup_bool, r_is_tup_str, r_is_tup_tuple, r_is_tup_list, r_is_tup_dict, isNon, r_W0, r_W1, r_T0, r_T1, r_T2, r_Q0, r_Q1, r_at0, r_at1, r_at2, r_at3, r_at4, r_at5, r_eq_ii, r_eq_bb,
  List.getElem?_cons_zero, List.getElem?_cons_succ, List.set_cons_zero, List.set_cons_succ, setAll, Option.some.injEq, Val.int.injEq, Val.bl.injEq, Val.tup.injEq, Val.ref.injEq, exists_eq_left', exists_eq_left, exists_eq_right, Bool.false_eq_true, if_true, if_false, List.isEmpty_nil, List.isEmpty_cons, true_and, and_true, ↓reduceIte, List.length_cons, List.length_nil, startL, List.map_cons, List.map_nil, Bool.not_true, Bool.not_false, Nat.reduceAdd, Nat.reduceSub, List.replicate, List.cons_append, List.nil_append, reduceCtorEq, false_and, exists_false, List.cons.injEq, Bool.false_xor, Bool.true_xor, wipeL, Int.reduceNeg, Int.cast_ofNat_Int, decide_true, decide_false, Int.reduceEq, decide_eq_true_eq, r_nd, r_sl0, r_sl1, r_sl2, r_sl3, r_sl4, r_sl5, r_sl6, r_sl7, r_sl8, r_sl9, r_sl10, r_sl11, r_sl12, r_sl13, r_sl14, r_sl15, r_sl16, r_sl17, r_sl18, r_sl19, r_sl20, r_sl21, r_sl22, r_sl23, r_sl24, decide_eq_false_iff_not, not_true_eq_false, not_false_eq_true, Int.not_lt, Int.not_le])
def Bits (n : Nat) (b : List Int) : Prop := b.length = n ∧ b.head? = some 0 ∧ ∀ x ∈ b, x = 0 ∨ x = 1
/-- rows of sides -/
def Rows (k : Nat) (as : List Addr) (T : Sto) : Prop := ∀ a ∈ as, ∃ b, Bits k b ∧ T a = some (.lst (vI b))
theorem Rows.le {k : Nat} {as : List Addr} {T U : Sto} (h : Rows k as T) (l : T.le U) : Rows k as U := fun a ha => let ⟨b, h1, h2⟩ := h a ha; ⟨b, h1, l _ _ h2⟩
theorem Bits.snoc {k : Nat} {b : List Int} {x : Int} (h : Bits k b) (hx : x = 0 ∨ x = 1) : Bits (k + 1) (b ++ [x]) := by
  refine ⟨by simp [h.1], ?_, fun y hy => ?_⟩
  · cases b with
    | nil => have := h.2.1; simp at this
    | cons c b => simpa using h.2.1
  · rcases List.mem_append.mp hy with q | q
    · exact h.2.2 y q
    · simp only [List.mem_singleton] at q; subst q; exact hx
end M

set_option maxHeartbeats 1000000
namespace M
open PySem PySem.Spec L2
local macro_rules | `(tactic| simp_wf) => `(tactic| simp only [wCs, w_asg, w_par, w_aug, w_ex, w_ret, w_retN, w_ite, w_brk, w_cnt, w_pass, w_rais, e_v, e_int, e_bl, e_non, e_str, e_g, e_bin, e_neg, e_cmp, e_chain, e_and, e_or, e_not, e_ife, e_tup, e_lst, e_ix, e_sl, e_rev, e_fld, e_call, e_new, e_meth, e_blt, e_mth, e_isi, e_isiT, e_dK0, e_dT0, e_repr, e_ktup, e_lrng1, e_lrng2, e_lrev, e_trev, e_dix, e_dg1, e_dg2, e_dsd, e_dpop, e_din, wEs, wAndV, wOrV, wB, wAnd, wOr, wBs, wP, r_nm, r_tgT, r_tgQ, r_tgW, r_tgt, r_tgr, r_tgp, r_tgd, r_tgi, r_tgs, r_tgs0, wBin, wCmp,
  r_add_ii, r_add_ib, r_add_ss, r_add_tt, r_add_rr, r_sub_ii, r_mul_ii, r_mul_ri, r_mul_ti, r_div_ii, r_mod_ii, r_pow_ii, r_shl_ii, r_shr_ii, r_and_ii, r_xor_ii, r_int, r_is_n, r_is_b, r_tru_b, r_tru_i, r_tru_n, r_tru_t, r_tru_r, r_ix_t, r_ix_r, r_sl_t, r_sl_r, r_len_t, r_len_s, r_abs, r_min2, r_max2, r_int1, r_int1b, r_str1, r_list1, r_tuple1, r_tuple1t, r_tuple1p, r_len_p, r_sorted1t, r_ix_p, r_valD_p, r_ty_p, r_tindex, r_tyM_tindex, r_reverse, r_tyM_reverse, r_remove, r_tyM_remove, r_append, r_pop0, r_pop1, r_insert, r_extend, r_count, r_index, r_sum1, r_sorted1, r_tyM_pop1, r_tyM_insert, r_tyM_extend, r_tyM_count, r_tyM_index, r_fld, r_tgf, r_tyM_append, r_tyM_pop0, r_valD_t, r_valD_r, r_ty_n, r_ty_b, r_ty_i, r_ty_s, r_ty_t, r_is_non_int, r_is_non_bool, r_is_non_str, r_is_non_tuple, r_is_non_list, r_is_non_dict, r_is_bl_int, r_is_bl_bool, r_is_bl_str, r_is_bl_tuple, r_is_bl_list, r_is_bl_dict, r_is_int_int, r_is_int_bool, r_is_int_str, r_is_int_tuple, r_is_int_list, r_is_int_dict, r_is_str_int, r_is_str_bool, r_is_str_str, r_is_str_tuple, r_is_str_list, r_is_str_dict, r_is_ptup_int, r_is_ptup_bool, r_is_ptup_str, r_is_ptup_tuple, r_is_ptup_list, r_is_ptup_dict, r_is_tup_int, r_is_tup_bool, r_is_tup_str, r_is_tup_tuple, r_is_tup_list, r_is_tup_dict, isNon, r_W0, r_W1, r_T0, r_T1, r_T2, r_Q0, r_Q1, r_at0, r_at1, r_at2, r_at3, r_at4, r_at5, r_eq_ii, r_eq_bb,
  List.getElem?_cons_zero, List.getElem?_cons_succ, List.set_cons_zero, List.set_cons_succ, setAll, Option.some.injEq, Val.int.injEq, Val.bl.injEq, Val.tup.injEq, Val.ref.injEq, exists_eq_left', exists_eq_left, exists_eq_right, Bool.false_eq_true, if_true, if_false, List.isEmpty_nil, List.isEmpty_cons, true_and, and_true, ↓reduceIte, List.length_cons, List.length_nil, startL, List.map_cons, List.map_nil, Bool.not_true, Bool.not_false, Nat.reduceAdd, Nat.reduceSub, List.replicate, List.cons_append, List.nil_append, reduceCtorEq, false_and, exists_false, List.cons.injEq, Bool.false_xor, Bool.true_xor, wipeL, Int.reduceNeg, Int.cast_ofNat_Int, decide_true, decide_false, Int.reduceEq, decide_eq_true_eq, r_nd, r_sl0, r_sl1, r_sl2, r_sl3, r_sl4, r_sl5, r_sl6, r_sl7, r_sl8, r_sl9, r_sl10, r_sl11, r_sl12, r_sl13, r_sl14, r_sl15, r_sl16, r_sl17, r_sl18, r_sl19, r_sl20, r_sl21, r_sl22, r_sl23, r_sl24, decide_eq_false_iff_not, not_true_eq_false, not_false_eq_true, Int.not_lt, Int.not_le])
/-- all but p stands -/
def Fr (p : Addr) (S T : Sto) : Prop := ∀ a o, a ≠ p → S a = some o → T a = some o
theorem Fr.refl {p : Addr} {S : Sto} : Fr p S S := fun _ _ _ h => h
theorem Fr.trans {p : Addr} {S T U : Sto} (h : Fr p S T) (h' : Fr p T U) : Fr p S U := fun a o n e => h' a o n (h a o n e)
theorem Fr.le {p : Addr} {S T : Sto} (h : S.le T) : Fr p S T := fun a o _ e => h a o e
theorem Fr.new {p q : Addr} {S T : Sto} {o : MO} (h : Fr p S T) (hq : T q = none) : Fr p S (T.upd q o) := fun a u n e => by
  have := h a u n e
  rw [Sto.upd_ne (fun z => by subst z; rw [hq] at this; cases this)]; exact this
theorem Fr.own {p q : Addr} {S T : Sto} {o : MO} (h : Fr p S T) (hq : S q = none) : Fr p S (T.upd q o) := fun a u n e => by
  rw [Sto.upd_ne (fun z => by subst z; rw [hq] at e; cases e)]; exact h a u n e
theorem Fr.deck {p : Addr} {S T : Sto} {o : MO} (h : Fr p S T) : Fr p S (T.upd p o) := fun a u n e => by
  rw [Sto.upd_ne n]; exact h a u n e
theorem Fr.fin {p : Addr} {S T : Sto} {o : MO} (h : Fr p S T) (hp : T p = some o) : (S.upd p o).le T := fun a u e => by
  by_cases n : a = p
  · subst n; rw [Sto.upd_same] at e; cases e; exact hp
  · rw [Sto.upd_ne n] at e; exact h a u n e
theorem Fr.non {p q : Addr} {S T : Sto} (h : Fr p S T) (hn : q ≠ p) (hq : T q = none) : S q = none := by
  cases e : S q with
  | none => rfl
  | some o => rw [h q o hn e] at hq; cases hq
theorem ne_nn {S : Sto} {p q : Addr} {o : MO} (h : S p = some o) (hq : S q = none) : q ≠ p := fun z => by subst z; rw [h] at hq; cases hq
/-- numbers to draw stand at p -/
def Dk (S : Sto) (p : Addr) : Prop := ∃ ns, Bd ns ∧ S p = some (.lst (vI ns))
theorem Dk.new {S : Sto} {p q : Addr} {o : MO} (h : Dk S p) (hq : S q = none) : Dk (S.upd q o) p := let ⟨ns, b, e⟩ := h; ⟨ns, b, Sto.old e hq⟩
theorem Dk.oth {S : Sto} {p q : Addr} {o : MO} (h : Dk S p) (hq : p ≠ q) : Dk (S.upd q o) p := let ⟨ns, b, e⟩ := h; ⟨ns, b, Sto.upd_at e hq⟩
theorem Dk.get {S : Sto} {p : Addr} (h : Dk S p) : ∃ o, S p = some o := let ⟨_, _, e⟩ := h; ⟨_, e⟩
end M

set_option maxHeartbeats 1000000
namespace M
open PySem PySem.Spec L2
local macro_rules | `(tactic| simp_wf) => `(tactic| simp only [wCs, w_asg, w_par, w_aug, w_ex, w_ret, w_retN, w_ite, w_brk, w_cnt, w_pass, w_rais, e_v, e_int, e_bl, e_non, e_str, e_g, e_bin, e_neg, e_cmp, e_chain, e_and, e_or, e_not, e_ife, e_tup, e_lst, e_ix, e_sl, e_rev, e_fld, e_call, e_new, e_meth, e_blt, e_mth, e_isi, e_isiT, e_dK0, e_dT0, e_repr, e_ktup, e_lrng1, e_lrng2, e_lrev, e_trev, e_dix, e_dg1, e_dg2, e_dsd, e_dpop, e_din, wEs, wAndV, wOrV, wB, wAnd, wOr, wBs, wP, r_nm, r_tgT, r_tgQ, r_tgW, r_tgt, r_tgr, r_tgp, r_tgd, r_tgi, r_tgs, r_tgs0, wBin, wCmp,
  r_add_ii, r_add_ib, r_add_ss, r_add_tt, r_add_rr, r_sub_ii, r_mul_ii, r_mul_ri, r_mul_ti, r_div_ii, r_mod_ii, r_pow_ii, r_shl_ii, r_shr_ii, r_and_ii, r_xor_ii, r_int, r_is_n, r_is_b, r_tru_b, r_tru_i, r_tru_n, r_tru_t, r_tru_r, r_ix_t, r_ix_r, r_sl_t, r_sl_r, r_len_t, r_len_s, r_abs, r_min2, r_max2, r_int1, r_int1b, r_str1, r_list1, r_tuple1, r_tuple1t, r_tuple1p, r_len_p, r_sorted1t, r_ix_p, r_valD_p, r_ty_p, r_tindex, r_tyM_tindex, r_reverse, r_tyM_reverse, r_remove, r_tyM_remove, r_append, r_pop0, r_pop1, r_insert, r_extend, r_count, r_index, r_sum1, r_sorted1, r_tyM_pop1, r_tyM_insert, r_tyM_extend, r_tyM_count, r_tyM_index, r_fld, r_tgf, r_tyM_append, r_tyM_pop0, r_valD_t, r_valD_r, r_ty_n, r_ty_b, r_ty_i, r_ty_s, r_ty_t, r_is_non_int, r_is_non_bool, r_is_non_str, r_is_non_tuple, r_is_non_list, r_is_non_dict, r_is_bl_int, r_is_bl_bool, r_is_bl_str, r_is_bl_tuple, r_is_bl_list, r_is_bl_dict, r_is_int_int, r_is_int_bool, r_is_int_str, r_is_int_tuple, r_is_int_list, r_is_int_dict, r_is_str_int, r_is_str_bool, r_is_str_str, r_is_str_tuple, r_is_str_list, r_is_str_dict, r_is_ptup_int, r_is_ptup_bool, r_is_ptup_str, r_is_ptup_tuple, r_is_ptup_list, r_is_ptup_dict, r_is_tup_int, r_is_tup_bool, r_is_tup_str, r_is_tup_tuple, r_is_tup_list, r_is_tup_dict, isNon, r_W0, r_W1, r_T0, r_T1, r_T2, r_Q0, r_Q1, r_at0, r_at1, r_at2, r_at3, r_at4, r_at5, r_eq_ii, r_eq_bb,
  List.getElem?_cons_zero, List.getElem?_cons_succ, List.set_cons_zero, List.set_cons_succ, setAll, Option.some.injEq, Val.int.injEq, Val.bl.injEq, Val.tup.injEq, Val.ref.injEq, exists_eq_left', exists_eq_left, exists_eq_right, Bool.false_eq_true, if_true, if_false, List.isEmpty_nil, List.isEmpty_cons, true_and, and_true, ↓reduceIte, List.length_cons, List.length_nil, startL, List.map_cons, List.map_nil, Bool.not_true, Bool.not_false, Nat.reduceAdd, Nat.reduceSub, List.replicate, List.cons_append, List.nil_append, reduceCtorEq, false_and, exists_false, List.cons.injEq, Bool.false_xor, Bool.true_xor, wipeL, Int.reduceNeg, Int.cast_ofNat_Int, decide_true, decide_false, Int.reduceEq, decide_eq_true_eq, r_nd, r_sl0, r_sl1, r_sl2, r_sl3, r_sl4, r_sl5, r_sl6, r_sl7, r_sl8, r_sl9, r_sl10, r_sl11, r_sl12, r_sl13, r_sl14, r_sl15, r_sl16, r_sl17, r_sl18, r_sl19, r_sl20, r_sl21, r_sl22, r_sl23, r_sl24, decide_eq_false_iff_not, not_true_eq_false, not_false_eq_true, Int.not_lt, Int.not_le])
section
variable {G : Gam} {X : XPost} {ρ : Loc} {T : Sto} {p : Addr} {i : Nat} {Q : Post} {b : E}
end
theorem Fr.at {p a : Addr} {S T : Sto} {o : MO} (h : Fr p S T) (e : S a = some o) (n : a ≠ p) : T a = some o := h a o n e
theorem sl_non {n d : Nat} : HT.sIx n d none = d := by unfold HT.sIx; simp
end M

/- The plain law of the walk through links (no program in sight). -/
namespace M
structure Lk where
  a : Nat
  b : Nat
  x : Nat
deriving Inhabited

def oe (l : Lk) (p : Nat) : Nat := if l.a = p then l.b else l.a
def lkAt (L : List Lk) (k : Nat) : Lk := L.getD k ⟨0, 0, 0⟩
def cx (L : List Lk) (k p : Nat) : Nat :=
  (if (lkAt L k).a = p then 1 else 0) + (if (lkAt L k).b = p then 1 else 0)
def xx (L : List Lk) (k : Nat) : Nat := (lkAt L k).x
def Sm (f : Nat → Nat) (r : List Nat) : Nat := (r.map f).sum

structure LOk (n : Nat) (L : List Lk) : Prop where
  a : ∀ k, k < L.length → (lkAt L k).a < n
  b : ∀ k, k < L.length → (lkAt L k).b < n
  x : ∀ k, k < L.length → (lkAt L k).x < 2

structure OddRing (L : List Lk) (r : List Nat) : Prop where
  lt : ∀ k, k ∈ r → k < L.length
  up : r.Pairwise (· < ·)
  ev : ∀ p, Sm (fun k => cx L k p) r % 2 = 0
  od : Sm (xx L) r % 2 = 1

structure WS where
  g : Nat → Option Nat
  b : Nat → Nat
  c : Nat → Option Nat
  r : Option (List Nat)

def isEnd (L : List Lk) (k p : Nat) : Prop := (lkAt L k).a = p ∨ (lkAt L k).b = p

theorem oe_end {L : List Lk} {k p : Nat} (h : isEnd L k p) : isEnd L k (oe (lkAt L k) p) := by
  unfold isEnd oe at *
  split
  · exact .inr rfl
  · exact .inl rfl

theorem oe_oe {L : List Lk} {k p : Nat} (h : isEnd L k p) : oe (lkAt L k) (oe (lkAt L k) p) = p := by
  unfold isEnd oe at *
  rcases h with h | h <;> (repeat' split) <;> simp_all

/-- the invariant of the walk; `m`: all points below it are grouped, no beginning is above it -/
structure Tree (n m : Nat) (L : List Lk) (s : WS) (d : Nat → Nat) : Prop where
  non : ∀ p, s.g p = none → s.c p = none
  zb : ∀ p, s.g p = none → s.b p = 0
  out : ∀ p, n ≤ p → s.g p = none
  bit : ∀ p, s.b p < 2
  par : ∀ p k, s.c p = some k → k < L.length ∧ isEnd L k p ∧ s.g (oe (lkAt L k) p) = s.g p ∧
      s.b p = (s.b (oe (lkAt L k) p) + xx L k) % 2 ∧ d (oe (lkAt L k) p) < d p
  root : ∀ p, s.g p ≠ none → s.c p = none → s.b p = 0 ∧ p ≤ m ∧ ∀ q, s.g q = s.g p → p ≤ q
  low : ∀ q, q < m → q < n → s.g q ≠ none
  ring : ∀ r, s.r = some r → OddRing L r

/-- what is in just one of two lists -/
def sd (xs ys : List Nat) : List Nat :=
  xs.filter (fun k => !ys.contains k) ++ ys.filter (fun k => !xs.contains k)

end M

/- The steps of the walk, plainly: go, begin, parted. -/
namespace M

def upd1 {α} (f : Nat → α) (p : Nat) (v : α) : Nat → α := fun q => if q = p then v else f q
@[simp] theorem upd1_same {α} (f : Nat → α) (p : Nat) (v : α) : upd1 f p v p = v := by simp [upd1]
/-- the links at a point -/
def AT (L : List Lk) (i p : Nat) : List Nat := (List.range i).flatMap (fun k => List.replicate (cx L k p) k)

/-- link k is settled at p -/
def Proc (L : List Lk) (s : WS) (p k : Nat) : Prop :=
  s.g (oe (lkAt L k) p) = s.g p ∧ (s.r = none → s.b (oe (lkAt L k) p) = (s.b p + xx L k) % 2)

/-- what is grouped stays -/
structure Ext (s t : WS) : Prop where
  g : ∀ q, s.g q ≠ none → t.g q = s.g q ∧ t.b q = s.b q
  r : t.r = none → s.r = none

theorem Ext.trans {s t u : WS} (h : Ext s t) (h2 : Ext t u) : Ext s u := by
  refine ⟨fun q hq => ?_, fun h3 => h.r (h2.r h3)⟩
  have a := h.g q hq
  have b := h2.g q (by rw [a.1]; exact hq)
  exact ⟨b.1.trans a.1, b.2.trans a.2⟩

theorem Proc.mono {L : List Lk} {s t : WS} {p k : Nat} (h : Proc L s p k) (hp : s.g p ≠ none) (he : Ext s t) :
    Proc L t p k := by
  have a := he.g p hp
  have b := he.g (oe (lkAt L k) p) (by rw [h.1]; exact hp)
  refine ⟨by rw [a.1, b.1, h.1], fun hr => ?_⟩
  rw [a.2, b.2]; exact h.2 (he.r hr)

/-- the invariant of begin's walk, at point m with group G, from state s0 -/
structure BI (n m G : Nat) (L : List Lk) (s0 s : WS) (W : List Nat) : Prop where
  tree : ∃ d, Tree n m L s d
  ext : Ext s0 s
  val : ∀ q, s.g q ≠ none → s0.g q ≠ none ∨ s.g q = some G
  wt : ∀ q, q ∈ W → s.g q = some G ∧ s0.g q = none ∧ q < n
  bg : ∀ q, q < n → s0.g q = none → m ≤ q

/-- joined by links -/
inductive Con (L : List Lk) : Nat → Nat → Prop
  | refl (p) : Con L p p
  | step {p q k} : Con L p q → k < L.length → isEnd L k q → Con L p (oe (lkAt L k) q)

theorem Con.trans {L : List Lk} {p q r : Nat} (h : Con L p q) (h2 : Con L q r) : Con L p r := by
  induction h2 with
  | refl => exact h
  | step _ hk he ih => exact .step ih hk he

theorem Con.symm {L : List Lk} {p q : Nat} (h : Con L p q) : Con L q p := by
  induction h with
  | refl => exact .refl _
  | step _ hk he ih =>
    have := Con.step (.refl _) hk (oe_end he)
    rw [oe_oe he] at this
    exact this.trans ih

/-- what parted tells -/
structure Good (n : Nat) (L : List Lk) (g b : Nat → Nat) (r : Option (List Nat)) : Prop where
  bit : ∀ p, b p < 2
  grp : ∀ k, k < L.length → g (lkAt L k).a = g (lkAt L k).b
  apart : r = none → ∀ k, k < L.length → b (lkAt L k).b = (b (lkAt L k).a + xx L k) % 2
  ring : ∀ r', r = some r' → OddRing L r'
  con : ∀ p q, p < n → q < n → g p = g q → Con L p q
  num : ∀ p v, p < n → v < g p → ∃ q, q < p ∧ g q = v
  first : ∀ p, p < n → (∀ q, q < p → g q ≠ g p) → b p = 0

end M


set_option maxHeartbeats 1000000
namespace M
open PySem PySem.Spec L2
local macro_rules | `(tactic| simp_wf) => `(tactic| simp only [wCs, w_asg, w_par, w_aug, w_ex, w_ret, w_retN, w_ite, w_brk, w_cnt, w_pass, w_rais, e_v, e_int, e_bl, e_non, e_str, e_g, e_bin, e_neg, e_cmp, e_chain, e_and, e_or, e_not, e_ife, e_tup, e_lst, e_ix, e_sl, e_rev, e_fld, e_call, e_new, e_meth, e_blt, e_mth, e_isi, e_isiT, e_dK0, e_dT0, e_repr, e_ktup, e_lrng1, e_lrng2, e_lrev, e_trev, e_dix, e_dg1, e_dg2, e_dsd, e_dpop, e_din, wEs, wAndV, wOrV, wB, wAnd, wOr, wBs, wP, r_nm, r_tgT, r_tgQ, r_tgW, r_tgt, r_tgr, r_tgp, r_tgd, r_tgi, r_tgs, r_tgs0, wBin, wCmp,
  r_add_ii, r_add_ib, r_add_ss, r_add_tt, r_add_rr, r_sub_ii, r_mul_ii, r_mul_ri, r_mul_ti, r_div_ii, r_mod_ii, r_pow_ii, r_shl_ii, r_shr_ii, r_and_ii, r_xor_ii, r_int, r_is_n, r_is_b, r_tru_b, r_tru_i, r_tru_n, r_tru_t, r_tru_r, r_ix_t, r_ix_r, r_sl_t, r_sl_r, r_len_t, r_len_s, r_abs, r_min2, r_max2, r_int1, r_int1b, r_str1, r_list1, r_tuple1, r_tuple1t, r_tuple1p, r_len_p, r_sorted1t, r_ix_p, r_valD_p, r_ty_p, r_tindex, r_tyM_tindex, r_reverse, r_tyM_reverse, r_remove, r_tyM_remove, r_append, r_pop0, r_pop1, r_insert, r_extend, r_count, r_index, r_sum1, r_sorted1, r_tyM_pop1, r_tyM_insert, r_tyM_extend, r_tyM_count, r_tyM_index, r_fld, r_tgf, r_tyM_append, r_tyM_pop0, r_valD_t, r_valD_r, r_ty_n, r_ty_b, r_ty_i, r_ty_s, r_ty_t, r_is_non_int, r_is_non_bool, r_is_non_str, r_is_non_tuple, r_is_non_list, r_is_non_dict, r_is_bl_int, r_is_bl_bool, r_is_bl_str, r_is_bl_tuple, r_is_bl_list, r_is_bl_dict, r_is_int_int, r_is_int_bool, r_is_int_str, r_is_int_tuple, r_is_int_list, r_is_int_dict, r_is_str_int, r_is_str_bool, r_is_str_str, r_is_str_tuple, r_is_str_list, r_is_str_dict, r_is_ptup_int, r_is_ptup_bool, r_is_ptup_str, r_is_ptup_tuple, r_is_ptup_list, r_is_ptup_dict, r_is_tup_int, r_is_tup_bool, r_is_tup_str, r_is_tup_tuple, r_is_tup_list, r_is_tup_dict, isNon, r_W0, r_W1, r_T0, r_T1, r_T2, r_Q0, r_Q1, r_at0, r_at1, r_at2, r_at3, r_at4, r_at5, r_eq_ii, r_eq_bb,
  List.getElem?_cons_zero, List.getElem?_cons_succ, List.set_cons_zero, List.set_cons_succ, setAll, Option.some.injEq, Val.int.injEq, Val.bl.injEq, Val.tup.injEq, Val.ref.injEq, exists_eq_left', exists_eq_left, exists_eq_right, Bool.false_eq_true, if_true, if_false, List.isEmpty_nil, List.isEmpty_cons, true_and, and_true, ↓reduceIte, List.length_cons, List.length_nil, startL, List.map_cons, List.map_nil, Bool.not_true, Bool.not_false, Nat.reduceAdd, Nat.reduceSub, List.replicate, List.cons_append, List.nil_append, reduceCtorEq, false_and, exists_false, List.cons.injEq, Bool.false_xor, Bool.true_xor, wipeL, Int.reduceNeg, Int.cast_ofNat_Int, decide_true, decide_false, Int.reduceEq, decide_eq_true_eq, r_nd, r_sl0, r_sl1, r_sl2, r_sl3, r_sl4, r_sl5, r_sl6, r_sl7, r_sl8, r_sl9, r_sl10, r_sl11, r_sl12, r_sl13, r_sl14, r_sl15, r_sl16, r_sl17, r_sl18, r_sl19, r_sl20, r_sl21, r_sl22, r_sl23, r_sl24, decide_eq_false_iff_not, not_true_eq_false, not_false_eq_true, Int.not_lt, Int.not_le])
def rF (n : Nat) (f : Nat → Val) : List Val := (List.range n).map f
def vo : Option Nat → Val
  | none => .non
  | some i => .int (i : Int)
def iN (l : List Nat) : List Int := l.map fun (k : Nat) => (k : Int)
def vr : Option (List Nat) → Val
  | none => .non
  | some r => .tup (vI (iN r))
/-- the objects of a walk -/
structure WA where
  w : Addr
  f : Addr
  g : Addr
  b : Addr
  c : Addr
  ap : Addr
  lr : Addr
  la : Nat → Addr
  aa : Nat → Addr
structure WSt (A : WA) (n : Nat) (L : List Lk) (s : WS) (S : Sto) : Prop where
  w : S A.w = some (.ins "Walk" [("links", .ref A.lr), ("found", .ref A.f), ("came_by", .ref A.c), ("at_point", .ref A.ap)])
  f : S A.f = some (.ins "Parting" [("groups", .ref A.g), ("bits", .ref A.b), ("ring", vr s.r)])
  g : S A.g = some (.lst (rF n fun p => vo (s.g p)))
  b : S A.b = some (.lst (rF n fun p => .int (s.b p : Int)))
  c : S A.c = some (.lst (rF n fun p => vo (s.c p)))
  ap : S A.ap = some (.lst (rF n fun p => .ref (A.aa p)))
  aa : ∀ p, p < n → S (A.aa p) = some (.lst (vI (iN (AT L L.length p))))
  lr : S A.lr = some (.lst (rF L.length fun k => .ref (A.la k)))
  la : ∀ k, k < L.length → S (A.la k) = some (.ins "Link" [("one", .int ((lkAt L k).a : Int)), ("other", .int ((lkAt L k).b : Int)), ("apart", .int ((lkAt L k).x : Int))])
  n16 : n ≤ 60
  l16 : L.length ≤ 2000
  wf : A.w ≠ A.f
  gb : A.g ≠ A.b
  gc : A.g ≠ A.c
  bc : A.b ≠ A.c
  gap : A.ap ≠ A.g
  bap : A.ap ≠ A.b
  cap : A.ap ≠ A.c
  gl : A.lr ≠ A.g
  bl : A.lr ≠ A.b
  cl : A.lr ≠ A.c
  ga : ∀ p, p < n → A.aa p ≠ A.g
  ba : ∀ p, p < n → A.aa p ≠ A.b
  ca : ∀ p, p < n → A.aa p ≠ A.c
  lf : ∀ k, k < L.length → A.la k ≠ A.f
theorem ne_il {S : Sto} {p q : Addr} {C : Str} {fs : List (Str × Val)} {xs : List Val} (h : S p = some (.ins C fs)) (h' : S q = some (.lst xs)) : p ≠ q := fun z => by subst z; rw [h] at h'; cases h'
theorem WSt.le {A : WA} {n : Nat} {L : List Lk} {s : WS} {S T : Sto} (h : WSt A n L s S) (l : S.le T) : WSt A n L s T :=
  { h with w := l _ _ h.w, f := l _ _ h.f, g := l _ _ h.g, b := l _ _ h.b, c := l _ _ h.c, ap := l _ _ h.ap, aa := fun p hp => l _ _ (h.aa p hp), lr := l _ _ h.lr, la := fun k hk => l _ _ (h.la k hk) }
theorem le_new {S : Sto} {q : Addr} {o : MO} (h : S q = none) : S.le (S.upd q o) := fun a u e => by rw [Sto.upd_ne (fun z => by subst z; rw [h] at e; cases e)]; exact e
theorem WSt.own {A : WA} {n : Nat} {L : List Lk} {s : WS} {S : Sto} {q : Addr} {o : MO} (h : WSt A n L s S) (hq : S q = none) : WSt A n L s (S.upd q o) := h.le (le_new hq)
theorem WSt.setB {A : WA} {n : Nat} {L : List Lk} {s : WS} {S : Sto} (h : WSt A n L s S) {xs : List Val} {b : Nat → Nat} (e : xs = rF n fun p => .int (b p : Int)) : WSt A n L { s with b := b } (S.upd A.b (.lst xs)) :=
  { h with w := Sto.upd_at h.w (ne_il h.w h.b), f := Sto.upd_at h.f (ne_il h.f h.b), b := by rw [Sto.upd_same, e], g := Sto.upd_at h.g h.gb, c := Sto.upd_at h.c h.bc.symm, ap := Sto.upd_at h.ap h.bap, aa := fun p hp => Sto.upd_at (h.aa p hp) (h.ba p hp), lr := Sto.upd_at h.lr h.bl, la := fun k hk => Sto.upd_at (h.la k hk) (ne_il (h.la k hk) h.b) }
/-- another list than the walk's own -/
structure Oth (A : WA) (n : Nat) (q : Addr) : Prop where
  g : q ≠ A.g
  b : q ≠ A.b
  c : q ≠ A.c
  ap : q ≠ A.ap
  lr : q ≠ A.lr
  aa : ∀ p, p < n → q ≠ A.aa p
theorem WSt.oth {A : WA} {n : Nat} {L : List Lk} {s : WS} {S : Sto} {q : Addr} (h : WSt A n L s S) (hq : S q = none) : Oth A n q :=
  ⟨ne_nn h.g hq, ne_nn h.b hq, ne_nn h.c hq, ne_nn h.ap hq, ne_nn h.lr hq, fun p hp => ne_nn (h.aa p hp) hq⟩
/-- all but the walk's own objects stands -/
def Ws (A : WA) (q : Addr) (S T : Sto) : Prop := ∀ a o, a ≠ A.f → a ≠ A.g → a ≠ A.b → a ≠ A.c → a ≠ q → S a = some o → T a = some o
theorem Ws.refl {A : WA} {q : Addr} {S : Sto} : Ws A q S S := fun _ _ _ _ _ _ _ h => h
theorem Ws.trans {A : WA} {q : Addr} {S T U : Sto} (h : Ws A q S T) (h' : Ws A q T U) : Ws A q S U := fun a o x1 x2 x3 x4 x5 e => h' a o x1 x2 x3 x4 x5 (h a o x1 x2 x3 x4 x5 e)
theorem Ws.le {A : WA} {q : Addr} {S T U : Sto} (h : Ws A q S T) (h' : T.le U) : Ws A q S U := fun a o x1 x2 x3 x4 x5 e => h' a o (h a o x1 x2 x3 x4 x5 e)
end M

set_option maxHeartbeats 1000000
namespace M
open PySem PySem.Spec L2
local macro_rules | `(tactic| simp_wf) => `(tactic| simp only [wCs, w_asg, w_par, w_aug, w_ex, w_ret, w_retN, w_ite, w_brk, w_cnt, w_pass, w_rais, e_v, e_int, e_bl, e_non, e_str, e_g, e_bin, e_neg, e_cmp, e_chain, e_and, e_or, e_not, e_ife, e_tup, e_lst, e_ix, e_sl, e_rev, e_fld, e_call, e_new, e_meth, e_blt, e_mth, e_isi, e_isiT, e_dK0, e_dT0, e_repr, e_ktup, e_lrng1, e_lrng2, e_lrev, e_trev, e_dix, e_dg1, e_dg2, e_dsd, e_dpop, e_din, wEs, wAndV, wOrV, wB, wAnd, wOr, wBs, wP, r_nm, r_tgT, r_tgQ, r_tgW, r_tgt, r_tgr, r_tgp, r_tgd, r_tgi, r_tgs, r_tgs0, wBin, wCmp,
  r_add_ii, r_add_ib, r_add_ss, r_add_tt, r_add_rr, r_sub_ii, r_mul_ii, r_mul_ri, r_mul_ti, r_div_ii, r_mod_ii, r_pow_ii, r_shl_ii, r_shr_ii, r_and_ii, r_xor_ii, r_int, r_is_n, r_is_b, r_tru_b, r_tru_i, r_tru_n, r_tru_t, r_tru_r, r_ix_t, r_ix_r, r_sl_t, r_sl_r, r_len_t, r_len_s, r_abs, r_min2, r_max2, r_int1, r_int1b, r_str1, r_list1, r_tuple1, r_tuple1t, r_tuple1p, r_len_p, r_sorted1t, r_ix_p, r_valD_p, r_ty_p, r_tindex, r_tyM_tindex, r_reverse, r_tyM_reverse, r_remove, r_tyM_remove, r_append, r_pop0, r_pop1, r_insert, r_extend, r_count, r_index, r_sum1, r_sorted1, r_tyM_pop1, r_tyM_insert, r_tyM_extend, r_tyM_count, r_tyM_index, r_fld, r_tgf, r_tyM_append, r_tyM_pop0, r_valD_t, r_valD_r, r_ty_n, r_ty_b, r_ty_i, r_ty_s, r_ty_t, r_is_non_int, r_is_non_bool, r_is_non_str, r_is_non_tuple, r_is_non_list, r_is_non_dict, r_is_bl_int, r_is_bl_bool, r_is_bl_str, r_is_bl_tuple, r_is_bl_list, r_is_bl_dict, r_is_int_int, r_is_int_bool, r_is_int_str, r_is_int_tuple, r_is_int_list, r_is_int_dict, r_is_str_int, r_is_str_bool, r_is_str_str, r_is_str_tuple, r_is_str_list, r_is_str_dict, r_is_ptup_int, r_is_ptup_bool, r_is_ptup_str, r_is_ptup_tuple, r_is_ptup_list, r_is_ptup_dict, r_is_tup_int, r_is_tup_bool, r_is_tup_str, r_is_tup_tuple, r_is_tup_list, r_is_tup_dict, isNon, r_W0, r_W1, r_T0, r_T1, r_T2, r_Q0, r_Q1, r_at0, r_at1, r_at2, r_at3, r_at4, r_at5, r_eq_ii, r_eq_bb,
  List.getElem?_cons_zero, List.getElem?_cons_succ, List.set_cons_zero, List.set_cons_succ, setAll, Option.some.injEq, Val.int.injEq, Val.bl.injEq, Val.tup.injEq, Val.ref.injEq, exists_eq_left', exists_eq_left, exists_eq_right, Bool.false_eq_true, if_true, if_false, List.isEmpty_nil, List.isEmpty_cons, true_and, and_true, ↓reduceIte, List.length_cons, List.length_nil, startL, List.map_cons, List.map_nil, Bool.not_true, Bool.not_false, Nat.reduceAdd, Nat.reduceSub, List.replicate, List.cons_append, List.nil_append, reduceCtorEq, false_and, exists_false, List.cons.injEq, Bool.false_xor, Bool.true_xor, wipeL, Int.reduceNeg, Int.cast_ofNat_Int, decide_true, decide_false, Int.reduceEq, decide_eq_true_eq, r_nd, r_sl0, r_sl1, r_sl2, r_sl3, r_sl4, r_sl5, r_sl6, r_sl7, r_sl8, r_sl9, r_sl10, r_sl11, r_sl12, r_sl13, r_sl14, r_sl15, r_sl16, r_sl17, r_sl18, r_sl19, r_sl20, r_sl21, r_sl22, r_sl23, r_sl24, decide_eq_false_iff_not, not_true_eq_false, not_false_eq_true, Int.not_lt, Int.not_le])
end M

set_option maxHeartbeats 1000000
namespace M
open PySem PySem.Spec L2
local macro_rules | `(tactic| simp_wf) => `(tactic| simp only [wCs, w_asg, w_par, w_aug, w_ex, w_ret, w_retN, w_ite, w_brk, w_cnt, w_pass, w_rais, e_v, e_int, e_bl, e_non, e_str, e_g, e_bin, e_neg, e_cmp, e_chain, e_and, e_or, e_not, e_ife, e_tup, e_lst, e_ix, e_sl, e_rev, e_fld, e_call, e_new, e_meth, e_blt, e_mth, e_isi, e_isiT, e_dK0, e_dT0, e_repr, e_ktup, e_lrng1, e_lrng2, e_lrev, e_trev, e_dix, e_dg1, e_dg2, e_dsd, e_dpop, e_din, wEs, wAndV, wOrV, wB, wAnd, wOr, wBs, wP, r_nm, r_tgT, r_tgQ, r_tgW, r_tgt, r_tgr, r_tgp, r_tgd, r_tgi, r_tgs, r_tgs0, wBin, wCmp,
  r_add_ii, r_add_ib, r_add_ss, r_add_tt, r_add_rr, r_sub_ii, r_mul_ii, r_mul_ri, r_mul_ti, r_div_ii, r_mod_ii, r_pow_ii, r_shl_ii, r_shr_ii, r_and_ii, r_xor_ii, r_int, r_is_n, r_is_b, r_tru_b, r_tru_i, r_tru_n, r_tru_t, r_tru_r, r_ix_t, r_ix_r, r_sl_t, r_sl_r, r_len_t, r_len_s, r_abs, r_min2, r_max2, r_int1, r_int1b, r_str1, r_list1, r_tuple1, r_tuple1t, r_tuple1p, r_len_p, r_sorted1t, r_ix_p, r_valD_p, r_ty_p, r_tindex, r_tyM_tindex, r_reverse, r_tyM_reverse, r_remove, r_tyM_remove, r_append, r_pop0, r_pop1, r_insert, r_extend, r_count, r_index, r_sum1, r_sorted1, r_tyM_pop1, r_tyM_insert, r_tyM_extend, r_tyM_count, r_tyM_index, r_fld, r_tgf, r_tyM_append, r_tyM_pop0, r_valD_t, r_valD_r, r_ty_n, r_ty_b, r_ty_i, r_ty_s, r_ty_t, r_is_non_int, r_is_non_bool, r_is_non_str, r_is_non_tuple, r_is_non_list, r_is_non_dict, r_is_bl_int, r_is_bl_bool, r_is_bl_str, r_is_bl_tuple, r_is_bl_list, r_is_bl_dict, r_is_int_int, r_is_int_bool, r_is_int_str, r_is_int_tuple, r_is_int_list, r_is_int_dict, r_is_str_int, r_is_str_bool, r_is_str_str, r_is_str_tuple, r_is_str_list, r_is_str_dict, r_is_ptup_int, r_is_ptup_bool, r_is_ptup_str, r_is_ptup_tuple, r_is_ptup_list, r_is_ptup_dict, r_is_tup_int, r_is_tup_bool, r_is_tup_str, r_is_tup_tuple, r_is_tup_list, r_is_tup_dict, isNon, r_W0, r_W1, r_T0, r_T1, r_T2, r_Q0, r_Q1, r_at0, r_at1, r_at2, r_at3, r_at4, r_at5, r_eq_ii, r_eq_bb,
  List.getElem?_cons_zero, List.getElem?_cons_succ, List.set_cons_zero, List.set_cons_succ, setAll, Option.some.injEq, Val.int.injEq, Val.bl.injEq, Val.tup.injEq, Val.ref.injEq, exists_eq_left', exists_eq_left, exists_eq_right, Bool.false_eq_true, if_true, if_false, List.isEmpty_nil, List.isEmpty_cons, true_and, and_true, ↓reduceIte, List.length_cons, List.length_nil, startL, List.map_cons, List.map_nil, Bool.not_true, Bool.not_false, Nat.reduceAdd, Nat.reduceSub, List.replicate, List.cons_append, List.nil_append, reduceCtorEq, false_and, exists_false, List.cons.injEq, Bool.false_xor, Bool.true_xor, wipeL, Int.reduceNeg, Int.cast_ofNat_Int, decide_true, decide_false, Int.reduceEq, decide_eq_true_eq, r_nd, r_sl0, r_sl1, r_sl2, r_sl3, r_sl4, r_sl5, r_sl6, r_sl7, r_sl8, r_sl9, r_sl10, r_sl11, r_sl12, r_sl13, r_sl14, r_sl15, r_sl16, r_sl17, r_sl18, r_sl19, r_sl20, r_sl21, r_sl22, r_sl23, r_sl24, decide_eq_false_iff_not, not_true_eq_false, not_false_eq_true, Int.not_lt, Int.not_le])
end M

set_option maxHeartbeats 1000000
namespace M
open PySem PySem.Spec L2
local macro_rules | `(tactic| simp_wf) => `(tactic| simp only [wCs, w_asg, w_par, w_aug, w_ex, w_ret, w_retN, w_ite, w_brk, w_cnt, w_pass, w_rais, e_v, e_int, e_bl, e_non, e_str, e_g, e_bin, e_neg, e_cmp, e_chain, e_and, e_or, e_not, e_ife, e_tup, e_lst, e_ix, e_sl, e_rev, e_fld, e_call, e_new, e_meth, e_blt, e_mth, e_isi, e_isiT, e_dK0, e_dT0, e_repr, e_ktup, e_lrng1, e_lrng2, e_lrev, e_trev, e_dix, e_dg1, e_dg2, e_dsd, e_dpop, e_din, wEs, wAndV, wOrV, wB, wAnd, wOr, wBs, wP, r_nm, r_tgT, r_tgQ, r_tgW, r_tgt, r_tgr, r_tgp, r_tgd, r_tgi, r_tgs, r_tgs0, wBin, wCmp,
  r_add_ii, r_add_ib, r_add_ss, r_add_tt, r_add_rr, r_sub_ii, r_mul_ii, r_mul_ri, r_mul_ti, r_div_ii, r_mod_ii, r_pow_ii, r_shl_ii, r_shr_ii, r_and_ii, r_xor_ii, r_int, r_is_n, r_is_b, r_tru_b, r_tru_i, r_tru_n, r_tru_t, r_tru_r, r_ix_t, r_ix_r, r_sl_t, r_sl_r, r_len_t, r_len_s, r_abs, r_min2, r_max2, r_int1, r_int1b, r_str1, r_list1, r_tuple1, r_tuple1t, r_tuple1p, r_len_p, r_sorted1t, r_ix_p, r_valD_p, r_ty_p, r_tindex, r_tyM_tindex, r_reverse, r_tyM_reverse, r_remove, r_tyM_remove, r_append, r_pop0, r_pop1, r_insert, r_extend, r_count, r_index, r_sum1, r_sorted1, r_tyM_pop1, r_tyM_insert, r_tyM_extend, r_tyM_count, r_tyM_index, r_fld, r_tgf, r_tyM_append, r_tyM_pop0, r_valD_t, r_valD_r, r_ty_n, r_ty_b, r_ty_i, r_ty_s, r_ty_t, r_is_non_int, r_is_non_bool, r_is_non_str, r_is_non_tuple, r_is_non_list, r_is_non_dict, r_is_bl_int, r_is_bl_bool, r_is_bl_str, r_is_bl_tuple, r_is_bl_list, r_is_bl_dict, r_is_int_int, r_is_int_bool, r_is_int_str, r_is_int_tuple, r_is_int_list, r_is_int_dict, r_is_str_int, r_is_str_bool, r_is_str_str, r_is_str_tuple, r_is_str_list, r_is_str_dict, r_is_ptup_int, r_is_ptup_bool, r_is_ptup_str, r_is_ptup_tuple, r_is_ptup_list, r_is_ptup_dict, r_is_tup_int, r_is_tup_bool, r_is_tup_str, r_is_tup_tuple, r_is_tup_list, r_is_tup_dict, isNon, r_W0, r_W1, r_T0, r_T1, r_T2, r_Q0, r_Q1, r_at0, r_at1, r_at2, r_at3, r_at4, r_at5, r_eq_ii, r_eq_bb,
  List.getElem?_cons_zero, List.getElem?_cons_succ, List.set_cons_zero, List.set_cons_succ, setAll, Option.some.injEq, Val.int.injEq, Val.bl.injEq, Val.tup.injEq, Val.ref.injEq, exists_eq_left', exists_eq_left, exists_eq_right, Bool.false_eq_true, if_true, if_false, List.isEmpty_nil, List.isEmpty_cons, true_and, and_true, ↓reduceIte, List.length_cons, List.length_nil, startL, List.map_cons, List.map_nil, Bool.not_true, Bool.not_false, Nat.reduceAdd, Nat.reduceSub, List.replicate, List.cons_append, List.nil_append, reduceCtorEq, false_and, exists_false, List.cons.injEq, Bool.false_xor, Bool.true_xor, wipeL, Int.reduceNeg, Int.cast_ofNat_Int, decide_true, decide_false, Int.reduceEq, decide_eq_true_eq, r_nd, r_sl0, r_sl1, r_sl2, r_sl3, r_sl4, r_sl5, r_sl6, r_sl7, r_sl8, r_sl9, r_sl10, r_sl11, r_sl12, r_sl13, r_sl14, r_sl15, r_sl16, r_sl17, r_sl18, r_sl19, r_sl20, r_sl21, r_sl22, r_sl23, r_sl24, decide_eq_false_iff_not, not_true_eq_false, not_false_eq_true, Int.not_lt, Int.not_le])
theorem Ws.out {A : WA} {q : Addr} {S T : Sto} (h : Ws A q S T) (hq : S q = none) : Ws A A.f S T := fun a o x1 x2 x3 x4 _ e => h a o x1 x2 x3 x4 (fun z => by subst z; rw [hq] at e; cases e) e
theorem BI.tail {n m G : Nat} {L : List Lk} {s0 s : WS} {x : Nat} {W : List Nat} (h : BI n m G L s0 s (x :: W)) : BI n m G L s0 s W :=
  ⟨h.tree, h.ext, h.val, fun q hq => h.wt q (List.mem_cons_of_mem _ hq), h.bg⟩
end M

set_option maxHeartbeats 1000000
namespace M
open PySem PySem.Spec L2
local macro_rules | `(tactic| simp_wf) => `(tactic| simp only [wCs, w_asg, w_par, w_aug, w_ex, w_ret, w_retN, w_ite, w_brk, w_cnt, w_pass, w_rais, e_v, e_int, e_bl, e_non, e_str, e_g, e_bin, e_neg, e_cmp, e_chain, e_and, e_or, e_not, e_ife, e_tup, e_lst, e_ix, e_sl, e_rev, e_fld, e_call, e_new, e_meth, e_blt, e_mth, e_isi, e_isiT, e_dK0, e_dT0, e_repr, e_ktup, e_lrng1, e_lrng2, e_lrev, e_trev, e_dix, e_dg1, e_dg2, e_dsd, e_dpop, e_din, wEs, wAndV, wOrV, wB, wAnd, wOr, wBs, wP, r_nm, r_tgT, r_tgQ, r_tgW, r_tgt, r_tgr, r_tgp, r_tgd, r_tgi, r_tgs, r_tgs0, wBin, wCmp,
  r_add_ii, r_add_ib, r_add_ss, r_add_tt, r_add_rr, r_sub_ii, r_mul_ii, r_mul_ri, r_mul_ti, r_div_ii, r_mod_ii, r_pow_ii, r_shl_ii, r_shr_ii, r_and_ii, r_xor_ii, r_int, r_is_n, r_is_b, r_tru_b, r_tru_i, r_tru_n, r_tru_t, r_tru_r, r_ix_t, r_ix_r, r_sl_t, r_sl_r, r_len_t, r_len_s, r_abs, r_min2, r_max2, r_int1, r_int1b, r_str1, r_list1, r_tuple1, r_tuple1t, r_tuple1p, r_len_p, r_sorted1t, r_ix_p, r_valD_p, r_ty_p, r_tindex, r_tyM_tindex, r_reverse, r_tyM_reverse, r_remove, r_tyM_remove, r_append, r_pop0, r_pop1, r_insert, r_extend, r_count, r_index, r_sum1, r_sorted1, r_tyM_pop1, r_tyM_insert, r_tyM_extend, r_tyM_count, r_tyM_index, r_fld, r_tgf, r_tyM_append, r_tyM_pop0, r_valD_t, r_valD_r, r_ty_n, r_ty_b, r_ty_i, r_ty_s, r_ty_t, r_is_non_int, r_is_non_bool, r_is_non_str, r_is_non_tuple, r_is_non_list, r_is_non_dict, r_is_bl_int, r_is_bl_bool, r_is_bl_str, r_is_bl_tuple, r_is_bl_list, r_is_bl_dict, r_is_int_int, r_is_int_bool, r_is_int_str, r_is_int_tuple, r_is_int_list, r_is_int_dict, r_is_str_int, r_is_str_bool, r_is_str_str, r_is_str_tuple, r_is_str_list, r_is_str_dict, r_is_ptup_int, r_is_ptup_bool, r_is_ptup_str, r_is_ptup_tuple, r_is_ptup_list, r_is_ptup_dict, r_is_tup_int, r_is_tup_bool, r_is_tup_str, r_is_tup_tuple, r_is_tup_list, r_is_tup_dict, isNon, r_W0, r_W1, r_T0, r_T1, r_T2, r_Q0, r_Q1, r_at0, r_at1, r_at2, r_at3, r_at4, r_at5, r_eq_ii, r_eq_bb,
  List.getElem?_cons_zero, List.getElem?_cons_succ, List.set_cons_zero, List.set_cons_succ, setAll, Option.some.injEq, Val.int.injEq, Val.bl.injEq, Val.tup.injEq, Val.ref.injEq, exists_eq_left', exists_eq_left, exists_eq_right, Bool.false_eq_true, if_true, if_false, List.isEmpty_nil, List.isEmpty_cons, true_and, and_true, ↓reduceIte, List.length_cons, List.length_nil, startL, List.map_cons, List.map_nil, Bool.not_true, Bool.not_false, Nat.reduceAdd, Nat.reduceSub, List.replicate, List.cons_append, List.nil_append, reduceCtorEq, false_and, exists_false, List.cons.injEq, Bool.false_xor, Bool.true_xor, wipeL, Int.reduceNeg, Int.cast_ofNat_Int, decide_true, decide_false, Int.reduceEq, decide_eq_true_eq, r_nd, r_sl0, r_sl1, r_sl2, r_sl3, r_sl4, r_sl5, r_sl6, r_sl7, r_sl8, r_sl9, r_sl10, r_sl11, r_sl12, r_sl13, r_sl14, r_sl15, r_sl16, r_sl17, r_sl18, r_sl19, r_sl20, r_sl21, r_sl22, r_sl23, r_sl24, decide_eq_false_iff_not, not_true_eq_false, not_false_eq_true, Int.not_lt, Int.not_le])
end M

set_option maxHeartbeats 1000000
namespace M
open PySem PySem.Spec L2
local macro_rules | `(tactic| simp_wf) => `(tactic| simp only [wCs, w_asg, w_par, w_aug, w_ex, w_ret, w_retN, w_ite, w_brk, w_cnt, w_pass, w_rais, e_v, e_int, e_bl, e_non, e_str, e_g, e_bin, e_neg, e_cmp, e_chain, e_and, e_or, e_not, e_ife, e_tup, e_lst, e_ix, e_sl, e_rev, e_fld, e_call, e_new, e_meth, e_blt, e_mth, e_isi, e_isiT, e_dK0, e_dT0, e_repr, e_ktup, e_lrng1, e_lrng2, e_lrev, e_trev, e_dix, e_dg1, e_dg2, e_dsd, e_dpop, e_din, wEs, wAndV, wOrV, wB, wAnd, wOr, wBs, wP, r_nm, r_tgT, r_tgQ, r_tgW, r_tgt, r_tgr, r_tgp, r_tgd, r_tgi, r_tgs, r_tgs0, wBin, wCmp,
  r_add_ii, r_add_ib, r_add_ss, r_add_tt, r_add_rr, r_sub_ii, r_mul_ii, r_mul_ri, r_mul_ti, r_div_ii, r_mod_ii, r_pow_ii, r_shl_ii, r_shr_ii, r_and_ii, r_xor_ii, r_int, r_is_n, r_is_b, r_tru_b, r_tru_i, r_tru_n, r_tru_t, r_tru_r, r_ix_t, r_ix_r, r_sl_t, r_sl_r, r_len_t, r_len_s, r_abs, r_min2, r_max2, r_int1, r_int1b, r_str1, r_list1, r_tuple1, r_tuple1t, r_tuple1p, r_len_p, r_sorted1t, r_ix_p, r_valD_p, r_ty_p, r_tindex, r_tyM_tindex, r_reverse, r_tyM_reverse, r_remove, r_tyM_remove, r_append, r_pop0, r_pop1, r_insert, r_extend, r_count, r_index, r_sum1, r_sorted1, r_tyM_pop1, r_tyM_insert, r_tyM_extend, r_tyM_count, r_tyM_index, r_fld, r_tgf, r_tyM_append, r_tyM_pop0, r_valD_t, r_valD_r, r_ty_n, r_ty_b, r_ty_i, r_ty_s, r_ty_t, r_is_non_int, r_is_non_bool, r_is_non_str, r_is_non_tuple, r_is_non_list, r_is_non_dict, r_is_bl_int, r_is_bl_bool, r_is_bl_str, r_is_bl_tuple, r_is_bl_list, r_is_bl_dict, r_is_int_int, r_is_int_bool, r_is_int_str, r_is_int_tuple, r_is_int_list, r_is_int_dict, r_is_str_int, r_is_str_bool, r_is_str_str, r_is_str_tuple, r_is_str_list, r_is_str_dict, r_is_ptup_int, r_is_ptup_bool, r_is_ptup_str, r_is_ptup_tuple, r_is_ptup_list, r_is_ptup_dict, r_is_tup_int, r_is_tup_bool, r_is_tup_str, r_is_tup_tuple, r_is_tup_list, r_is_tup_dict, isNon, r_W0, r_W1, r_T0, r_T1, r_T2, r_Q0, r_Q1, r_at0, r_at1, r_at2, r_at3, r_at4, r_at5, r_eq_ii, r_eq_bb,
  List.getElem?_cons_zero, List.getElem?_cons_succ, List.set_cons_zero, List.set_cons_succ, setAll, Option.some.injEq, Val.int.injEq, Val.bl.injEq, Val.tup.injEq, Val.ref.injEq, exists_eq_left', exists_eq_left, exists_eq_right, Bool.false_eq_true, if_true, if_false, List.isEmpty_nil, List.isEmpty_cons, true_and, and_true, ↓reduceIte, List.length_cons, List.length_nil, startL, List.map_cons, List.map_nil, Bool.not_true, Bool.not_false, Nat.reduceAdd, Nat.reduceSub, List.replicate, List.cons_append, List.nil_append, reduceCtorEq, false_and, exists_false, List.cons.injEq, Bool.false_xor, Bool.true_xor, wipeL, Int.reduceNeg, Int.cast_ofNat_Int, decide_true, decide_false, Int.reduceEq, decide_eq_true_eq, r_nd, r_sl0, r_sl1, r_sl2, r_sl3, r_sl4, r_sl5, r_sl6, r_sl7, r_sl8, r_sl9, r_sl10, r_sl11, r_sl12, r_sl13, r_sl14, r_sl15, r_sl16, r_sl17, r_sl18, r_sl19, r_sl20, r_sl21, r_sl22, r_sl23, r_sl24, decide_eq_false_iff_not, not_true_eq_false, not_false_eq_true, Int.not_lt, Int.not_le])
end M

set_option maxHeartbeats 1000000
namespace M
open PySem PySem.Spec L2
local macro_rules | `(tactic| simp_wf) => `(tactic| simp only [wCs, w_asg, w_par, w_aug, w_ex, w_ret, w_retN, w_ite, w_brk, w_cnt, w_pass, w_rais, e_v, e_int, e_bl, e_non, e_str, e_g, e_bin, e_neg, e_cmp, e_chain, e_and, e_or, e_not, e_ife, e_tup, e_lst, e_ix, e_sl, e_rev, e_fld, e_call, e_new, e_meth, e_blt, e_mth, e_isi, e_isiT, e_dK0, e_dT0, e_repr, e_ktup, e_lrng1, e_lrng2, e_lrev, e_trev, e_dix, e_dg1, e_dg2, e_dsd, e_dpop, e_din, wEs, wAndV, wOrV, wB, wAnd, wOr, wBs, wP, r_nm, r_tgT, r_tgQ, r_tgW, r_tgt, r_tgr, r_tgp, r_tgd, r_tgi, r_tgs, r_tgs0, wBin, wCmp,
  r_add_ii, r_add_ib, r_add_ss, r_add_tt, r_add_rr, r_sub_ii, r_mul_ii, r_mul_ri, r_mul_ti, r_div_ii, r_mod_ii, r_pow_ii, r_shl_ii, r_shr_ii, r_and_ii, r_xor_ii, r_int, r_is_n, r_is_b, r_tru_b, r_tru_i, r_tru_n, r_tru_t, r_tru_r, r_ix_t, r_ix_r, r_sl_t, r_sl_r, r_len_t, r_len_s, r_abs, r_min2, r_max2, r_int1, r_int1b, r_str1, r_list1, r_tuple1, r_tuple1t, r_tuple1p, r_len_p, r_sorted1t, r_ix_p, r_valD_p, r_ty_p, r_tindex, r_tyM_tindex, r_reverse, r_tyM_reverse, r_remove, r_tyM_remove, r_append, r_pop0, r_pop1, r_insert, r_extend, r_count, r_index, r_sum1, r_sorted1, r_tyM_pop1, r_tyM_insert, r_tyM_extend, r_tyM_count, r_tyM_index, r_fld, r_tgf, r_tyM_append, r_tyM_pop0, r_valD_t, r_valD_r, r_ty_n, r_ty_b, r_ty_i, r_ty_s, r_ty_t, r_is_non_int, r_is_non_bool, r_is_non_str, r_is_non_tuple, r_is_non_list, r_is_non_dict, r_is_bl_int, r_is_bl_bool, r_is_bl_str, r_is_bl_tuple, r_is_bl_list, r_is_bl_dict, r_is_int_int, r_is_int_bool, r_is_int_str, r_is_int_tuple, r_is_int_list, r_is_int_dict, r_is_str_int, r_is_str_bool, r_is_str_str, r_is_str_tuple, r_is_str_list, r_is_str_dict, r_is_ptup_int, r_is_ptup_bool, r_is_ptup_str, r_is_ptup_tuple, r_is_ptup_list, r_is_ptup_dict, r_is_tup_int, r_is_tup_bool, r_is_tup_str, r_is_tup_tuple, r_is_tup_list, r_is_tup_dict, isNon, r_W0, r_W1, r_T0, r_T1, r_T2, r_Q0, r_Q1, r_at0, r_at1, r_at2, r_at3, r_at4, r_at5, r_eq_ii, r_eq_bb,
  List.getElem?_cons_zero, List.getElem?_cons_succ, List.set_cons_zero, List.set_cons_succ, setAll, Option.some.injEq, Val.int.injEq, Val.bl.injEq, Val.tup.injEq, Val.ref.injEq, exists_eq_left', exists_eq_left, exists_eq_right, Bool.false_eq_true, if_true, if_false, List.isEmpty_nil, List.isEmpty_cons, true_and, and_true, ↓reduceIte, List.length_cons, List.length_nil, startL, List.map_cons, List.map_nil, Bool.not_true, Bool.not_false, Nat.reduceAdd, Nat.reduceSub, List.replicate, List.cons_append, List.nil_append, reduceCtorEq, false_and, exists_false, List.cons.injEq, Bool.false_xor, Bool.true_xor, wipeL, Int.reduceNeg, Int.cast_ofNat_Int, decide_true, decide_false, Int.reduceEq, decide_eq_true_eq, r_nd, r_sl0, r_sl1, r_sl2, r_sl3, r_sl4, r_sl5, r_sl6, r_sl7, r_sl8, r_sl9, r_sl10, r_sl11, r_sl12, r_sl13, r_sl14, r_sl15, r_sl16, r_sl17, r_sl18, r_sl19, r_sl20, r_sl21, r_sl22, r_sl23, r_sl24, decide_eq_false_iff_not, not_true_eq_false, not_false_eq_true, Int.not_lt, Int.not_le])
def v3 (l : Lk) : Val := .tup [.int (l.a : Int), .int (l.b : Int), .int (l.x : Int)]
/-- a value that writes a wish -/
def WiV (S : Sto) (v : Val) (l : Lk) : Prop := v = v3 l ∨ ∃ r, v = .ref r ∧ S r = some (.lst [.int (l.a : Int), .int (l.b : Int), .int (l.x : Int)])
/-- values that write wishes -/
def WiAll (S : Sto) : List Val → List Lk → Prop
  | [], [] => True
  | v :: vs, l :: ls => WiV S v l ∧ WiAll S vs ls
  | _, _ => False
/-- a value that writes a row of wishes -/
def WsV (S : Sto) (v : Val) (L : List Lk) : Prop := ∃ items, (v = .tup items ∨ ∃ r, v = .ref r ∧ S r = some (.lst items)) ∧ WiAll S items L
structure WkOk (n : Nat) (l : Lk) : Prop where
  a : l.a < n
  b : l.b < n
  ne : l.a ≠ l.b
  x : l.x < 2
def WssOk (n : Nat) (L : List Lk) : Prop := (∀ l ∈ L, WkOk n l) ∧ L.length ≤ 120
theorem WiV.le {S T : Sto} {v : Val} {l : Lk} (h : WiV S v l) (le : S.le T) : WiV T v l := by
  rcases h with h | ⟨r, h, e⟩
  · exact .inl h
  · exact .inr ⟨r, h, le _ _ e⟩
theorem WiAll.le {S T : Sto} (le : S.le T) : ∀ {vs : List Val} {ls : List Lk}, WiAll S vs ls → WiAll T vs ls
  | [], [], _ => trivial
  | _ :: _, _ :: _, h => ⟨h.1.le le, h.2.le le⟩
  | [], _ :: _, h => h.elim
  | _ :: _, [], h => h.elim
theorem WsV.le {S T : Sto} {v : Val} {L : List Lk} (h : WsV S v L) (le : S.le T) : WsV T v L := by
  obtain ⟨items, h1, h2⟩ := h
  refine ⟨items, ?_, h2.le le⟩
  rcases h1 with h | ⟨r, h, e⟩
  · exact .inl h
  · exact .inr ⟨r, h, le _ _ e⟩
theorem WiAll.len {S : Sto} : ∀ {vs : List Val} {ls : List Lk}, WiAll S vs ls → vs.length = ls.length
  | [], [], _ => rfl
  | _ :: _, _ :: _, h => congrArg (· + 1) h.2.len
  | [], _ :: _, h => h.elim
  | _ :: _, [], h => h.elim
theorem WiAll.get {S : Sto} : ∀ {vs : List Val} {ls : List Lk} {j : Nat} {v : Val}, WiAll S vs ls → vs[j]? = some v → ∃ l, ls[j]? = some l ∧ WiV S v l
  | [], [], _, _, _, e => by cases e
  | _ :: _, l :: _, 0, _, h, e => by cases e; exact ⟨l, rfl, h.1⟩
  | _ :: _, _ :: _, j + 1, _, h, e => h.2.get (j := j) (by simpa using e)
  | [], _ :: _, _, _, h, _ => h.elim
  | _ :: _, [], _, _, h, _ => h.elim
theorem WiAll.tups {S : Sto} : ∀ {L : List Lk}, WiAll S (L.map v3) L
  | [] => trivial
  | _ :: _ => ⟨.inl rfl, WiAll.tups⟩
theorem WiAll.snoc {S : Sto} {v : Val} {l : Lk} : ∀ {vs : List Val} {ls : List Lk}, WiAll S vs ls → WiV S v l → WiAll S (vs ++ [v]) (ls ++ [l])
  | [], [], _, h => ⟨h, trivial⟩
  | _ :: _, _ :: _, h, h2 => ⟨h.1, h.2.snoc h2⟩
  | [], _ :: _, h, _ => h.elim
  | _ :: _, [], h, _ => h.elim
theorem lkAt_get {L : List Lk} {k : Nat} {l : Lk} (h : L[k]? = some l) : lkAt L k = l := by unfold lkAt; rw [List.getD_eq_getElem?_getD, h]; rfl
theorem lkAt_mem {L : List Lk} {k : Nat} (h : k < L.length) : lkAt L k ∈ L := by rw [lkAt_get (List.getElem?_eq_getElem h)]; exact List.getElem_mem h
theorem WssOk.lok {n : Nat} {L : List Lk} (h : WssOk n L) : LOk n L := ⟨fun k hk => (h.1 _ (lkAt_mem hk)).a, fun k hk => (h.1 _ (lkAt_mem hk)).b, fun k hk => (h.1 _ (lkAt_mem hk)).x⟩
theorem okTy_i {S : Sto} (i : Int) : okTy (.int i) S := ⟨"int", rfl, by decide, rfl⟩
end M

set_option maxHeartbeats 1000000
namespace M
open PySem PySem.Spec L2
local macro_rules | `(tactic| simp_wf) => `(tactic| simp only [wCs, w_asg, w_par, w_aug, w_ex, w_ret, w_retN, w_ite, w_brk, w_cnt, w_pass, w_rais, e_v, e_int, e_bl, e_non, e_str, e_g, e_bin, e_neg, e_cmp, e_chain, e_and, e_or, e_not, e_ife, e_tup, e_lst, e_ix, e_sl, e_rev, e_fld, e_call, e_new, e_meth, e_blt, e_mth, e_isi, e_isiT, e_dK0, e_dT0, e_repr, e_ktup, e_lrng1, e_lrng2, e_lrev, e_trev, e_dix, e_dg1, e_dg2, e_dsd, e_dpop, e_din, wEs, wAndV, wOrV, wB, wAnd, wOr, wBs, wP, r_nm, r_tgT, r_tgQ, r_tgW, r_tgt, r_tgr, r_tgp, r_tgd, r_tgi, r_tgs, r_tgs0, wBin, wCmp,
  r_add_ii, r_add_ib, r_add_ss, r_add_tt, r_add_rr, r_sub_ii, r_mul_ii, r_mul_ri, r_mul_ti, r_div_ii, r_mod_ii, r_pow_ii, r_shl_ii, r_shr_ii, r_and_ii, r_xor_ii, r_int, r_is_n, r_is_b, r_tru_b, r_tru_i, r_tru_n, r_tru_t, r_tru_r, r_ix_t, r_ix_r, r_sl_t, r_sl_r, r_len_t, r_len_s, r_abs, r_min2, r_max2, r_int1, r_int1b, r_str1, r_list1, r_tuple1, r_tuple1t, r_tuple1p, r_len_p, r_sorted1t, r_ix_p, r_valD_p, r_ty_p, r_tindex, r_tyM_tindex, r_reverse, r_tyM_reverse, r_remove, r_tyM_remove, r_append, r_pop0, r_pop1, r_insert, r_extend, r_count, r_index, r_sum1, r_sorted1, r_tyM_pop1, r_tyM_insert, r_tyM_extend, r_tyM_count, r_tyM_index, r_fld, r_tgf, r_tyM_append, r_tyM_pop0, r_valD_t, r_valD_r, r_ty_n, r_ty_b, r_ty_i, r_ty_s, r_ty_t, r_is_non_int, r_is_non_bool, r_is_non_str, r_is_non_tuple, r_is_non_list, r_is_non_dict, r_is_bl_int, r_is_bl_bool, r_is_bl_str, r_is_bl_tuple, r_is_bl_list, r_is_bl_dict, r_is_int_int, r_is_int_bool, r_is_int_str, r_is_int_tuple, r_is_int_list, r_is_int_dict, r_is_str_int, r_is_str_bool, r_is_str_str, r_is_str_tuple, r_is_str_list, r_is_str_dict, r_is_ptup_int, r_is_ptup_bool, r_is_ptup_str, r_is_ptup_tuple, r_is_ptup_list, r_is_ptup_dict, r_is_tup_int, r_is_tup_bool, r_is_tup_str, r_is_tup_tuple, r_is_tup_list, r_is_tup_dict, isNon, r_W0, r_W1, r_T0, r_T1, r_T2, r_Q0, r_Q1, r_at0, r_at1, r_at2, r_at3, r_at4, r_at5, r_eq_ii, r_eq_bb,
  List.getElem?_cons_zero, List.getElem?_cons_succ, List.set_cons_zero, List.set_cons_succ, setAll, Option.some.injEq, Val.int.injEq, Val.bl.injEq, Val.tup.injEq, Val.ref.injEq, exists_eq_left', exists_eq_left, exists_eq_right, Bool.false_eq_true, if_true, if_false, List.isEmpty_nil, List.isEmpty_cons, true_and, and_true, ↓reduceIte, List.length_cons, List.length_nil, startL, List.map_cons, List.map_nil, Bool.not_true, Bool.not_false, Nat.reduceAdd, Nat.reduceSub, List.replicate, List.cons_append, List.nil_append, reduceCtorEq, false_and, exists_false, List.cons.injEq, Bool.false_xor, Bool.true_xor, wipeL, Int.reduceNeg, Int.cast_ofNat_Int, decide_true, decide_false, Int.reduceEq, decide_eq_true_eq, r_nd, r_sl0, r_sl1, r_sl2, r_sl3, r_sl4, r_sl5, r_sl6, r_sl7, r_sl8, r_sl9, r_sl10, r_sl11, r_sl12, r_sl13, r_sl14, r_sl15, r_sl16, r_sl17, r_sl18, r_sl19, r_sl20, r_sl21, r_sl22, r_sl23, r_sl24, decide_eq_false_iff_not, not_true_eq_false, not_false_eq_true, Int.not_lt, Int.not_le])
/-- a side keeps wishes -/
def keepB (bs : List Int) (l : Lk) : Bool := decide ((bs.getD l.a 0 + bs.getD l.b 0) % 2 = (l.x : Int))
def keepsB (L : List Lk) (bs : List Int) : Bool := L.all (keepB bs)
end M

/- Groups found by least points: the plain law. -/
namespace M
/-- least points told so far -/
structure Lst (n : Nat) (L : List Lk) (F : Nat → Nat) : Prop where
  con : ∀ p, p < n → Con L p (F p)
  le : ∀ p, p < n → F p ≤ p
theorem up_get {l : List Nat} (h : l.Pairwise (· < ·)) {i j : Nat} (hj : j < l.length) (hi : i < j) : l[i]'(by omega) < l[j] := List.pairwise_iff_getElem.mp h i j (by omega) hj hi
end M

set_option maxHeartbeats 1000000
namespace M
open PySem PySem.Spec L2
local macro_rules | `(tactic| simp_wf) => `(tactic| simp only [wCs, w_asg, w_par, w_aug, w_ex, w_ret, w_retN, w_ite, w_brk, w_cnt, w_pass, w_rais, e_v, e_int, e_bl, e_non, e_str, e_g, e_bin, e_neg, e_cmp, e_chain, e_and, e_or, e_not, e_ife, e_tup, e_lst, e_ix, e_sl, e_rev, e_fld, e_call, e_new, e_meth, e_blt, e_mth, e_isi, e_isiT, e_dK0, e_dT0, e_repr, e_ktup, e_lrng1, e_lrng2, e_lrev, e_trev, e_dix, e_dg1, e_dg2, e_dsd, e_dpop, e_din, wEs, wAndV, wOrV, wB, wAnd, wOr, wBs, wP, r_nm, r_tgT, r_tgQ, r_tgW, r_tgt, r_tgr, r_tgp, r_tgd, r_tgi, r_tgs, r_tgs0, wBin, wCmp,
  r_add_ii, r_add_ib, r_add_ss, r_add_tt, r_add_rr, r_sub_ii, r_mul_ii, r_mul_ri, r_mul_ti, r_div_ii, r_mod_ii, r_pow_ii, r_shl_ii, r_shr_ii, r_and_ii, r_xor_ii, r_int, r_is_n, r_is_b, r_tru_b, r_tru_i, r_tru_n, r_tru_t, r_tru_r, r_ix_t, r_ix_r, r_sl_t, r_sl_r, r_len_t, r_len_s, r_abs, r_min2, r_max2, r_int1, r_int1b, r_str1, r_list1, r_tuple1, r_tuple1t, r_tuple1p, r_len_p, r_sorted1t, r_ix_p, r_valD_p, r_ty_p, r_tindex, r_tyM_tindex, r_reverse, r_tyM_reverse, r_remove, r_tyM_remove, r_append, r_pop0, r_pop1, r_insert, r_extend, r_count, r_index, r_sum1, r_sorted1, r_tyM_pop1, r_tyM_insert, r_tyM_extend, r_tyM_count, r_tyM_index, r_fld, r_tgf, r_tyM_append, r_tyM_pop0, r_valD_t, r_valD_r, r_ty_n, r_ty_b, r_ty_i, r_ty_s, r_ty_t, r_is_non_int, r_is_non_bool, r_is_non_str, r_is_non_tuple, r_is_non_list, r_is_non_dict, r_is_bl_int, r_is_bl_bool, r_is_bl_str, r_is_bl_tuple, r_is_bl_list, r_is_bl_dict, r_is_int_int, r_is_int_bool, r_is_int_str, r_is_int_tuple, r_is_int_list, r_is_int_dict, r_is_str_int, r_is_str_bool, r_is_str_str, r_is_str_tuple, r_is_str_list, r_is_str_dict, r_is_ptup_int, r_is_ptup_bool, r_is_ptup_str, r_is_ptup_tuple, r_is_ptup_list, r_is_ptup_dict, r_is_tup_int, r_is_tup_bool, r_is_tup_str, r_is_tup_tuple, r_is_tup_list, r_is_tup_dict, isNon, r_W0, r_W1, r_T0, r_T1, r_T2, r_Q0, r_Q1, r_at0, r_at1, r_at2, r_at3, r_at4, r_at5, r_eq_ii, r_eq_bb,
  List.getElem?_cons_zero, List.getElem?_cons_succ, List.set_cons_zero, List.set_cons_succ, setAll, Option.some.injEq, Val.int.injEq, Val.bl.injEq, Val.tup.injEq, Val.ref.injEq, exists_eq_left', exists_eq_left, exists_eq_right, Bool.false_eq_true, if_true, if_false, List.isEmpty_nil, List.isEmpty_cons, true_and, and_true, ↓reduceIte, List.length_cons, List.length_nil, startL, List.map_cons, List.map_nil, Bool.not_true, Bool.not_false, Nat.reduceAdd, Nat.reduceSub, List.replicate, List.cons_append, List.nil_append, reduceCtorEq, false_and, exists_false, List.cons.injEq, Bool.false_xor, Bool.true_xor, wipeL, Int.reduceNeg, Int.cast_ofNat_Int, decide_true, decide_false, Int.reduceEq, decide_eq_true_eq, r_nd, r_sl0, r_sl1, r_sl2, r_sl3, r_sl4, r_sl5, r_sl6, r_sl7, r_sl8, r_sl9, r_sl10, r_sl11, r_sl12, r_sl13, r_sl14, r_sl15, r_sl16, r_sl17, r_sl18, r_sl19, r_sl20, r_sl21, r_sl22, r_sl23, r_sl24, decide_eq_false_iff_not, not_true_eq_false, not_false_eq_true, Int.not_lt, Int.not_le])
end M

set_option maxHeartbeats 1000000
namespace M
open PySem PySem.Spec L2
local macro_rules | `(tactic| simp_wf) => `(tactic| simp only [wCs, w_asg, w_par, w_aug, w_ex, w_ret, w_retN, w_ite, w_brk, w_cnt, w_pass, w_rais, e_v, e_int, e_bl, e_non, e_str, e_g, e_bin, e_neg, e_cmp, e_chain, e_and, e_or, e_not, e_ife, e_tup, e_lst, e_ix, e_sl, e_rev, e_fld, e_call, e_new, e_meth, e_blt, e_mth, e_isi, e_isiT, e_dK0, e_dT0, e_repr, e_ktup, e_lrng1, e_lrng2, e_lrev, e_trev, e_dix, e_dg1, e_dg2, e_dsd, e_dpop, e_din, wEs, wAndV, wOrV, wB, wAnd, wOr, wBs, wP, r_nm, r_tgT, r_tgQ, r_tgW, r_tgt, r_tgr, r_tgp, r_tgd, r_tgi, r_tgs, r_tgs0, wBin, wCmp,
  r_add_ii, r_add_ib, r_add_ss, r_add_tt, r_add_rr, r_sub_ii, r_mul_ii, r_mul_ri, r_mul_ti, r_div_ii, r_mod_ii, r_pow_ii, r_shl_ii, r_shr_ii, r_and_ii, r_xor_ii, r_int, r_is_n, r_is_b, r_tru_b, r_tru_i, r_tru_n, r_tru_t, r_tru_r, r_ix_t, r_ix_r, r_sl_t, r_sl_r, r_len_t, r_len_s, r_abs, r_min2, r_max2, r_int1, r_int1b, r_str1, r_list1, r_tuple1, r_tuple1t, r_tuple1p, r_len_p, r_sorted1t, r_ix_p, r_valD_p, r_ty_p, r_tindex, r_tyM_tindex, r_reverse, r_tyM_reverse, r_remove, r_tyM_remove, r_append, r_pop0, r_pop1, r_insert, r_extend, r_count, r_index, r_sum1, r_sorted1, r_tyM_pop1, r_tyM_insert, r_tyM_extend, r_tyM_count, r_tyM_index, r_fld, r_tgf, r_tyM_append, r_tyM_pop0, r_valD_t, r_valD_r, r_ty_n, r_ty_b, r_ty_i, r_ty_s, r_ty_t, r_is_non_int, r_is_non_bool, r_is_non_str, r_is_non_tuple, r_is_non_list, r_is_non_dict, r_is_bl_int, r_is_bl_bool, r_is_bl_str, r_is_bl_tuple, r_is_bl_list, r_is_bl_dict, r_is_int_int, r_is_int_bool, r_is_int_str, r_is_int_tuple, r_is_int_list, r_is_int_dict, r_is_str_int, r_is_str_bool, r_is_str_str, r_is_str_tuple, r_is_str_list, r_is_str_dict, r_is_ptup_int, r_is_ptup_bool, r_is_ptup_str, r_is_ptup_tuple, r_is_ptup_list, r_is_ptup_dict, r_is_tup_int, r_is_tup_bool, r_is_tup_str, r_is_tup_tuple, r_is_tup_list, r_is_tup_dict, isNon, r_W0, r_W1, r_T0, r_T1, r_T2, r_Q0, r_Q1, r_at0, r_at1, r_at2, r_at3, r_at4, r_at5, r_eq_ii, r_eq_bb,
  List.getElem?_cons_zero, List.getElem?_cons_succ, List.set_cons_zero, List.set_cons_succ, setAll, Option.some.injEq, Val.int.injEq, Val.bl.injEq, Val.tup.injEq, Val.ref.injEq, exists_eq_left', exists_eq_left, exists_eq_right, Bool.false_eq_true, if_true, if_false, List.isEmpty_nil, List.isEmpty_cons, true_and, and_true, ↓reduceIte, List.length_cons, List.length_nil, startL, List.map_cons, List.map_nil, Bool.not_true, Bool.not_false, Nat.reduceAdd, Nat.reduceSub, List.replicate, List.cons_append, List.nil_append, reduceCtorEq, false_and, exists_false, List.cons.injEq, Bool.false_xor, Bool.true_xor, wipeL, Int.reduceNeg, Int.cast_ofNat_Int, decide_true, decide_false, Int.reduceEq, decide_eq_true_eq, r_nd, r_sl0, r_sl1, r_sl2, r_sl3, r_sl4, r_sl5, r_sl6, r_sl7, r_sl8, r_sl9, r_sl10, r_sl11, r_sl12, r_sl13, r_sl14, r_sl15, r_sl16, r_sl17, r_sl18, r_sl19, r_sl20, r_sl21, r_sl22, r_sl23, r_sl24, decide_eq_false_iff_not, not_true_eq_false, not_false_eq_true, Int.not_lt, Int.not_le])
def rN (n : Nat) (F : Nat → Nat) : List Int := (List.range n).map fun p => ((F p : Nat) : Int)
/-- a pass -/
structure Pass (n : Nat) (L : List Lk) (F0 : Nat → Nat) (j : Nat) (F : Nat → Nat) : Prop where
  lst : Lst n L F
  le : ∀ p, p < n → F p ≤ F0 p
  st : (∀ p, p < n → F p = F0 p) → ∀ k, k < j → F0 (lkAt L k).a = F0 (lkAt L k).b
theorem Pass.step {n : Nat} {L : List Lk} {F0 F : Nat → Nat} {j : Nat} (h : Pass n L F0 j F) {l : Lk} (hj : L[j]? = some l) (ok : WkOk n l) : Pass n L F0 (j + 1) (upd1 (upd1 F l.a (if F l.b < F l.a then F l.b else F l.a)) l.b (if F l.b < F l.a then F l.b else F l.a)) := by
  have ha := ok.a
  have hb := ok.b
  have hne := ok.ne
  have hk : j < L.length := (List.getElem?_eq_some_iff.mp hj).1
  have el := lkAt_get hj
  have cab : Con L l.a l.b := by
    have := Con.step (.refl l.a) hk (show isEnd L j l.a from .inl (by rw [el]))
    rw [el] at this
    unfold oe at this
    rw [if_pos rfl] at this
    exact this
  have ca := h.lst.con l.a ha
  have cb := h.lst.con l.b hb
  have la := h.lst.le l.a ha
  have lb := h.lst.le l.b hb
  have l0a := h.le l.a ha
  have l0b := h.le l.b hb
  generalize hm : (if F l.b < F l.a then F l.b else F l.a) = m at *
  have hm1 : m ≤ F l.a ∧ m ≤ F l.b ∧ (m = F l.a ∨ m = F l.b) := by subst hm; split <;> omega
  have cam : Con L l.a m := by
    rcases hm1.2.2 with e | e
    · rw [e]; exact ca
    · rw [e]; exact cab.trans cb
  have val : ∀ p, upd1 (upd1 F l.a m) l.b m p = if p = l.b then m else if p = l.a then m else F p := fun p => rfl
  refine ⟨⟨fun p hp => ?_, fun p hp => ?_⟩, fun p hp => ?_, fun e k hkj => ?_⟩
  · rw [val]; split
    · rename_i e; subst e; exact cab.symm.trans cam
    · split
      · rename_i e; subst e; exact cam
      · exact h.lst.con p hp
  · rw [val]; split
    · rename_i e; subst e; omega
    · split
      · rename_i e; subst e; omega
      · exact h.lst.le p hp
  · rw [val]; split
    · rename_i e; subst e; omega
    · split
      · rename_i e; subst e; omega
      · exact h.le p hp
  · have eF : ∀ p, p < n → F p = F0 p := fun p hp => by
      have e1 := e p hp
      rw [val] at e1
      have e2 := h.le p hp
      split at e1
      · rename_i z; subst z; omega
      · split at e1
        · rename_i z; subst z; omega
        · exact e1
    by_cases c : k = j
    · subst c
      rw [el]
      have e1 := e l.a ha
      have e2 := e l.b hb
      rw [val] at e1 e2
      rw [if_neg hne, if_pos rfl] at e1
      rw [if_pos rfl] at e2
      rw [← e1, ← e2]
    · exact h.st eF k (by omega)
end M

/- A side that keeps all links leaves no odd ring. -/
namespace M
def keepsN (L : List Lk) (B : Nat → Nat) : Prop := ∀ k, k < L.length → (B (lkAt L k).a + B (lkAt L k).b) % 2 = xx L k
theorem Sm_zero {l : List Nat} : Sm (fun _ => 0) l = 0 := by
  induction l with
  | nil => rfl
  | cons p l ih => unfold Sm at *; simp only [List.map_cons, List.sum_cons, ih]
theorem Sm_add {f g : Nat → Nat} {l : List Nat} : Sm (fun p => f p + g p) l = Sm f l + Sm g l := by
  induction l with
  | nil => rfl
  | cons p l ih => unfold Sm at *; simp only [List.map_cons, List.sum_cons, ih]; omega
theorem Sm_one_at {B : Nat → Nat} {a : Nat} : ∀ {n : Nat}, a < n → Sm (fun p => B p * (if a = p then 1 else 0)) (List.range n) = B a
  | 0, h => by omega
  | n + 1, h => by
    have e : Sm (fun p => B p * (if a = p then 1 else 0)) (List.range (n + 1)) = Sm (fun p => B p * (if a = p then 1 else 0)) (List.range n) + B n * (if a = n then 1 else 0) := by
      unfold Sm; rw [List.range_succ, List.map_append, List.sum_append]; simp
    rw [e]
    by_cases c : a = n
    · subst c
      have : Sm (fun p => B p * (if a = p then 1 else 0)) (List.range a) = Sm (fun _ => 0) (List.range a) := by
        unfold Sm
        congr 1
        exact List.map_congr_left fun p hp => by have := List.mem_range.mp hp; rw [if_neg (by omega), Nat.mul_zero]
      rw [this, Sm_zero]; simp
    · rw [Sm_one_at (show a < n by omega), if_neg c]; simp
theorem Sm_swap {L : List Lk} {B : Nat → Nat} {n : Nat} (hL : LOk n L) : ∀ {r : List Nat}, (∀ k ∈ r, k < L.length) → Sm (fun k => B (lkAt L k).a + B (lkAt L k).b) r = Sm (fun p => B p * Sm (fun k => cx L k p) r) (List.range n)
  | [], _ => by
    have : (fun p => B p * Sm (fun k => cx L k p) []) = fun _ => 0 := by funext p; simp [Sm]
    rw [this, Sm_zero]; rfl
  | k :: r, h => by
    have ih := Sm_swap (B := B) hL (r := r) fun x hx => h x (List.mem_cons_of_mem _ hx)
    have hk := h k List.mem_cons_self
    have ha := hL.a k hk
    have hb := hL.b k hk
    have e1 : Sm (fun k => B (lkAt L k).a + B (lkAt L k).b) (k :: r) = (B (lkAt L k).a + B (lkAt L k).b) + Sm (fun k => B (lkAt L k).a + B (lkAt L k).b) r := by
      unfold Sm; simp only [List.map_cons, List.sum_cons]
    have e2 : (fun p => B p * Sm (fun k => cx L k p) (k :: r)) = fun p => (B p * (if (lkAt L k).a = p then 1 else 0) + B p * (if (lkAt L k).b = p then 1 else 0)) + B p * Sm (fun k => cx L k p) r := by
      funext p
      have : Sm (fun k => cx L k p) (k :: r) = cx L k p + Sm (fun k => cx L k p) r := by
        unfold Sm; simp only [List.map_cons, List.sum_cons]
      rw [this]
      unfold cx
      rw [Nat.mul_add, Nat.mul_add]
    have e3 := Sm_one_at (B := B) ha
    have e4 := Sm_one_at (B := B) hb
    rw [e1, e2, Sm_add (f := fun p => B p * (if (lkAt L k).a = p then 1 else 0) + B p * (if (lkAt L k).b = p then 1 else 0)), Sm_add (f := fun p => B p * (if (lkAt L k).a = p then 1 else 0)), e3, e4, ih]
theorem Sm_even {f : Nat → Nat} : ∀ {l : List Nat}, (∀ p ∈ l, f p % 2 = 0) → Sm f l % 2 = 0
  | [], _ => rfl
  | p :: l, h => by
    have ih := Sm_even (f := f) (l := l) fun q hq => h q (List.mem_cons_of_mem _ hq)
    have := h p List.mem_cons_self
    unfold Sm at *; simp only [List.map_cons, List.sum_cons]; omega
theorem Sm_mod {f g : Nat → Nat} : ∀ {l : List Nat}, (∀ p ∈ l, f p % 2 = g p % 2) → Sm f l % 2 = Sm g l % 2
  | [], _ => rfl
  | p :: l, h => by
    have ih := Sm_mod (f := f) (g := g) (l := l) fun q hq => h q (List.mem_cons_of_mem _ hq)
    have := h p List.mem_cons_self
    unfold Sm at *; simp only [List.map_cons, List.sum_cons]; omega
theorem no_ring {n : Nat} {L : List Lk} {B : Nat → Nat} (hL : LOk n L) (h : keepsN L B) {r : List Nat} (hr : OddRing L r) : False := by
  have h1 := hr.od
  have h2 : Sm (xx L) r % 2 = Sm (fun k => B (lkAt L k).a + B (lkAt L k).b) r % 2 := Sm_mod fun k hk => by
    have := h k (hr.lt k hk)
    have := hL.x k (hr.lt k hk)
    unfold xx at *
    omega
  have h3 := Sm_swap (B := B) hL (r := r) hr.lt
  have h4 : Sm (fun p => B p * Sm (fun k => cx L k p) r) (List.range n) % 2 = 0 := Sm_even fun p _ => by
    rw [Nat.mul_mod, hr.ev p]; simp
  omega
end M

set_option maxHeartbeats 1000000
namespace M
open PySem PySem.Spec L2
local macro_rules | `(tactic| simp_wf) => `(tactic| simp only [wCs, w_asg, w_par, w_aug, w_ex, w_ret, w_retN, w_ite, w_brk, w_cnt, w_pass, w_rais, e_v, e_int, e_bl, e_non, e_str, e_g, e_bin, e_neg, e_cmp, e_chain, e_and, e_or, e_not, e_ife, e_tup, e_lst, e_ix, e_sl, e_rev, e_fld, e_call, e_new, e_meth, e_blt, e_mth, e_isi, e_isiT, e_dK0, e_dT0, e_repr, e_ktup, e_lrng1, e_lrng2, e_lrev, e_trev, e_dix, e_dg1, e_dg2, e_dsd, e_dpop, e_din, wEs, wAndV, wOrV, wB, wAnd, wOr, wBs, wP, r_nm, r_tgT, r_tgQ, r_tgW, r_tgt, r_tgr, r_tgp, r_tgd, r_tgi, r_tgs, r_tgs0, wBin, wCmp,
  r_add_ii, r_add_ib, r_add_ss, r_add_tt, r_add_rr, r_sub_ii, r_mul_ii, r_mul_ri, r_mul_ti, r_div_ii, r_mod_ii, r_pow_ii, r_shl_ii, r_shr_ii, r_and_ii, r_xor_ii, r_int, r_is_n, r_is_b, r_tru_b, r_tru_i, r_tru_n, r_tru_t, r_tru_r, r_ix_t, r_ix_r, r_sl_t, r_sl_r, r_len_t, r_len_s, r_abs, r_min2, r_max2, r_int1, r_int1b, r_str1, r_list1, r_tuple1, r_tuple1t, r_tuple1p, r_len_p, r_sorted1t, r_ix_p, r_valD_p, r_ty_p, r_tindex, r_tyM_tindex, r_reverse, r_tyM_reverse, r_remove, r_tyM_remove, r_append, r_pop0, r_pop1, r_insert, r_extend, r_count, r_index, r_sum1, r_sorted1, r_tyM_pop1, r_tyM_insert, r_tyM_extend, r_tyM_count, r_tyM_index, r_fld, r_tgf, r_tyM_append, r_tyM_pop0, r_valD_t, r_valD_r, r_ty_n, r_ty_b, r_ty_i, r_ty_s, r_ty_t, r_is_non_int, r_is_non_bool, r_is_non_str, r_is_non_tuple, r_is_non_list, r_is_non_dict, r_is_bl_int, r_is_bl_bool, r_is_bl_str, r_is_bl_tuple, r_is_bl_list, r_is_bl_dict, r_is_int_int, r_is_int_bool, r_is_int_str, r_is_int_tuple, r_is_int_list, r_is_int_dict, r_is_str_int, r_is_str_bool, r_is_str_str, r_is_str_tuple, r_is_str_list, r_is_str_dict, r_is_ptup_int, r_is_ptup_bool, r_is_ptup_str, r_is_ptup_tuple, r_is_ptup_list, r_is_ptup_dict, r_is_tup_int, r_is_tup_bool, r_is_tup_str, r_is_tup_tuple, r_is_tup_list, r_is_tup_dict, isNon, r_W0, r_W1, r_T0, r_T1, r_T2, r_Q0, r_Q1, r_at0, r_at1, r_at2, r_at3, r_at4, r_at5, r_eq_ii, r_eq_bb,
  List.getElem?_cons_zero, List.getElem?_cons_succ, List.set_cons_zero, List.set_cons_succ, setAll, Option.some.injEq, Val.int.injEq, Val.bl.injEq, Val.tup.injEq, Val.ref.injEq, exists_eq_left', exists_eq_left, exists_eq_right, Bool.false_eq_true, if_true, if_false, List.isEmpty_nil, List.isEmpty_cons, true_and, and_true, ↓reduceIte, List.length_cons, List.length_nil, startL, List.map_cons, List.map_nil, Bool.not_true, Bool.not_false, Nat.reduceAdd, Nat.reduceSub, List.replicate, List.cons_append, List.nil_append, reduceCtorEq, false_and, exists_false, List.cons.injEq, Bool.false_xor, Bool.true_xor, wipeL, Int.reduceNeg, Int.cast_ofNat_Int, decide_true, decide_false, Int.reduceEq, decide_eq_true_eq, r_nd, r_sl0, r_sl1, r_sl2, r_sl3, r_sl4, r_sl5, r_sl6, r_sl7, r_sl8, r_sl9, r_sl10, r_sl11, r_sl12, r_sl13, r_sl14, r_sl15, r_sl16, r_sl17, r_sl18, r_sl19, r_sl20, r_sl21, r_sl22, r_sl23, r_sl24, decide_eq_false_iff_not, not_true_eq_false, not_false_eq_true, Int.not_lt, Int.not_le])
theorem keepsN_of {n : Nat} {L : List Lk} {bs : List Int} (ok : ∀ l ∈ L, WkOk n l) (hb : ∀ b ∈ bs, b = 0 ∨ b = 1) (h : keepsB L bs = true) : keepsN L fun p => (bs.getD p 0).toNat := fun k hk => by
  unfold keepsB at h
  rw [List.all_eq_true] at h
  have h1 := h _ (lkAt_mem hk)
  have hok := ok _ (lkAt_mem hk)
  unfold keepB at h1
  simp only [decide_eq_true_eq] at h1
  have key : ∀ p, bs.getD p 0 = 0 ∨ bs.getD p 0 = 1 := fun p => by
    rw [List.getD_eq_getElem?_getD]
    cases e : bs[p]? with
    | none => left; rfl
    | some b => simpa using hb b (mem_of_get e)
  have k1 := key (lkAt L k).a
  have k2 := key (lkAt L k).b
  have hx := hok.x
  unfold xx
  show ((bs.getD _ 0).toNat + (bs.getD _ 0).toNat) % 2 = _
  omega
end M

set_option maxHeartbeats 1000000
namespace M
open PySem PySem.Spec L2
local macro_rules | `(tactic| simp_wf) => `(tactic| simp only [wCs, w_asg, w_par, w_aug, w_ex, w_ret, w_retN, w_ite, w_brk, w_cnt, w_pass, w_rais, e_v, e_int, e_bl, e_non, e_str, e_g, e_bin, e_neg, e_cmp, e_chain, e_and, e_or, e_not, e_ife, e_tup, e_lst, e_ix, e_sl, e_rev, e_fld, e_call, e_new, e_meth, e_blt, e_mth, e_isi, e_isiT, e_dK0, e_dT0, e_repr, e_ktup, e_lrng1, e_lrng2, e_lrev, e_trev, e_dix, e_dg1, e_dg2, e_dsd, e_dpop, e_din, wEs, wAndV, wOrV, wB, wAnd, wOr, wBs, wP, r_nm, r_tgT, r_tgQ, r_tgW, r_tgt, r_tgr, r_tgp, r_tgd, r_tgi, r_tgs, r_tgs0, wBin, wCmp,
  r_add_ii, r_add_ib, r_add_ss, r_add_tt, r_add_rr, r_sub_ii, r_mul_ii, r_mul_ri, r_mul_ti, r_div_ii, r_mod_ii, r_pow_ii, r_shl_ii, r_shr_ii, r_and_ii, r_xor_ii, r_int, r_is_n, r_is_b, r_tru_b, r_tru_i, r_tru_n, r_tru_t, r_tru_r, r_ix_t, r_ix_r, r_sl_t, r_sl_r, r_len_t, r_len_s, r_abs, r_min2, r_max2, r_int1, r_int1b, r_str1, r_list1, r_tuple1, r_tuple1t, r_tuple1p, r_len_p, r_sorted1t, r_ix_p, r_valD_p, r_ty_p, r_tindex, r_tyM_tindex, r_reverse, r_tyM_reverse, r_remove, r_tyM_remove, r_append, r_pop0, r_pop1, r_insert, r_extend, r_count, r_index, r_sum1, r_sorted1, r_tyM_pop1, r_tyM_insert, r_tyM_extend, r_tyM_count, r_tyM_index, r_fld, r_tgf, r_tyM_append, r_tyM_pop0, r_valD_t, r_valD_r, r_ty_n, r_ty_b, r_ty_i, r_ty_s, r_ty_t, r_is_non_int, r_is_non_bool, r_is_non_str, r_is_non_tuple, r_is_non_list, r_is_non_dict, r_is_bl_int, r_is_bl_bool, r_is_bl_str, r_is_bl_tuple, r_is_bl_list, r_is_bl_dict, r_is_int_int, r_is_int_bool, r_is_int_str, r_is_int_tuple, r_is_int_list, r_is_int_dict, r_is_str_int, r_is_str_bool, r_is_str_str, r_is_str_tuple, r_is_str_list, r_is_str_dict, r_is_ptup_int, r_is_ptup_bool, r_is_ptup_str, r_is_ptup_tuple, r_is_ptup_list, r_is_ptup_dict, r_is_tup_int, r_is_tup_bool, r_is_tup_str, r_is_tup_tuple, r_is_tup_list, r_is_tup_dict, isNon, r_W0, r_W1, r_T0, r_T1, r_T2, r_Q0, r_Q1, r_at0, r_at1, r_at2, r_at3, r_at4, r_at5, r_eq_ii, r_eq_bb,
  List.getElem?_cons_zero, List.getElem?_cons_succ, List.set_cons_zero, List.set_cons_succ, setAll, Option.some.injEq, Val.int.injEq, Val.bl.injEq, Val.tup.injEq, Val.ref.injEq, exists_eq_left', exists_eq_left, exists_eq_right, Bool.false_eq_true, if_true, if_false, List.isEmpty_nil, List.isEmpty_cons, true_and, and_true, ↓reduceIte, List.length_cons, List.length_nil, startL, List.map_cons, List.map_nil, Bool.not_true, Bool.not_false, Nat.reduceAdd, Nat.reduceSub, List.replicate, List.cons_append, List.nil_append, reduceCtorEq, false_and, exists_false, List.cons.injEq, Bool.false_xor, Bool.true_xor, wipeL, Int.reduceNeg, Int.cast_ofNat_Int, decide_true, decide_false, Int.reduceEq, decide_eq_true_eq, r_nd, r_sl0, r_sl1, r_sl2, r_sl3, r_sl4, r_sl5, r_sl6, r_sl7, r_sl8, r_sl9, r_sl10, r_sl11, r_sl12, r_sl13, r_sl14, r_sl15, r_sl16, r_sl17, r_sl18, r_sl19, r_sl20, r_sl21, r_sl22, r_sl23, r_sl24, decide_eq_false_iff_not, not_true_eq_false, not_false_eq_true, Int.not_lt, Int.not_le])
end M

set_option maxHeartbeats 1000000
namespace M
open PySem PySem.Spec L2
local macro_rules | `(tactic| simp_wf) => `(tactic| simp only [wCs, w_asg, w_par, w_aug, w_ex, w_ret, w_retN, w_ite, w_brk, w_cnt, w_pass, w_rais, e_v, e_int, e_bl, e_non, e_str, e_g, e_bin, e_neg, e_cmp, e_chain, e_and, e_or, e_not, e_ife, e_tup, e_lst, e_ix, e_sl, e_rev, e_fld, e_call, e_new, e_meth, e_blt, e_mth, e_isi, e_isiT, e_dK0, e_dT0, e_repr, e_ktup, e_lrng1, e_lrng2, e_lrev, e_trev, e_dix, e_dg1, e_dg2, e_dsd, e_dpop, e_din, wEs, wAndV, wOrV, wB, wAnd, wOr, wBs, wP, r_nm, r_tgT, r_tgQ, r_tgW, r_tgt, r_tgr, r_tgp, r_tgd, r_tgi, r_tgs, r_tgs0, wBin, wCmp,
  r_add_ii, r_add_ib, r_add_ss, r_add_tt, r_add_rr, r_sub_ii, r_mul_ii, r_mul_ri, r_mul_ti, r_div_ii, r_mod_ii, r_pow_ii, r_shl_ii, r_shr_ii, r_and_ii, r_xor_ii, r_int, r_is_n, r_is_b, r_tru_b, r_tru_i, r_tru_n, r_tru_t, r_tru_r, r_ix_t, r_ix_r, r_sl_t, r_sl_r, r_len_t, r_len_s, r_abs, r_min2, r_max2, r_int1, r_int1b, r_str1, r_list1, r_tuple1, r_tuple1t, r_tuple1p, r_len_p, r_sorted1t, r_ix_p, r_valD_p, r_ty_p, r_tindex, r_tyM_tindex, r_reverse, r_tyM_reverse, r_remove, r_tyM_remove, r_append, r_pop0, r_pop1, r_insert, r_extend, r_count, r_index, r_sum1, r_sorted1, r_tyM_pop1, r_tyM_insert, r_tyM_extend, r_tyM_count, r_tyM_index, r_fld, r_tgf, r_tyM_append, r_tyM_pop0, r_valD_t, r_valD_r, r_ty_n, r_ty_b, r_ty_i, r_ty_s, r_ty_t, r_is_non_int, r_is_non_bool, r_is_non_str, r_is_non_tuple, r_is_non_list, r_is_non_dict, r_is_bl_int, r_is_bl_bool, r_is_bl_str, r_is_bl_tuple, r_is_bl_list, r_is_bl_dict, r_is_int_int, r_is_int_bool, r_is_int_str, r_is_int_tuple, r_is_int_list, r_is_int_dict, r_is_str_int, r_is_str_bool, r_is_str_str, r_is_str_tuple, r_is_str_list, r_is_str_dict, r_is_ptup_int, r_is_ptup_bool, r_is_ptup_str, r_is_ptup_tuple, r_is_ptup_list, r_is_ptup_dict, r_is_tup_int, r_is_tup_bool, r_is_tup_str, r_is_tup_tuple, r_is_tup_list, r_is_tup_dict, isNon, r_W0, r_W1, r_T0, r_T1, r_T2, r_Q0, r_Q1, r_at0, r_at1, r_at2, r_at3, r_at4, r_at5, r_eq_ii, r_eq_bb,
  List.getElem?_cons_zero, List.getElem?_cons_succ, List.set_cons_zero, List.set_cons_succ, setAll, Option.some.injEq, Val.int.injEq, Val.bl.injEq, Val.tup.injEq, Val.ref.injEq, exists_eq_left', exists_eq_left, exists_eq_right, Bool.false_eq_true, if_true, if_false, List.isEmpty_nil, List.isEmpty_cons, true_and, and_true, ↓reduceIte, List.length_cons, List.length_nil, startL, List.map_cons, List.map_nil, Bool.not_true, Bool.not_false, Nat.reduceAdd, Nat.reduceSub, List.replicate, List.cons_append, List.nil_append, reduceCtorEq, false_and, exists_false, List.cons.injEq, Bool.false_xor, Bool.true_xor, wipeL, Int.reduceNeg, Int.cast_ofNat_Int, decide_true, decide_false, Int.reduceEq, decide_eq_true_eq, r_nd, r_sl0, r_sl1, r_sl2, r_sl3, r_sl4, r_sl5, r_sl6, r_sl7, r_sl8, r_sl9, r_sl10, r_sl11, r_sl12, r_sl13, r_sl14, r_sl15, r_sl16, r_sl17, r_sl18, r_sl19, r_sl20, r_sl21, r_sl22, r_sl23, r_sl24, decide_eq_false_iff_not, not_true_eq_false, not_false_eq_true, Int.not_lt, Int.not_le])
theorem WtOk.neg {r : Rat} (h : WtOk r) : WtOk (-r) := ⟨by rw [Rat.neg_num, Int.natAbs_neg]; exact h.1, by rw [Rat.neg_den]; exact h.2⟩
def tnB (b : List Int) : List Int := b.map fun x => (x + b.getD 0 0) % 2
theorem tnB_len {b : List Int} : (tnB b).length = b.length := by unfold tnB; simp
def N_turned : List Str := ["bits", "first", "bit"]
def P_turned : List Str := ["bits"]
def B_turned : List C := [
  .asg (.nm 1) (.ix (.v 0) (.int 0)),
  .ret (.blt .tuple1 [.lc [("bit", 2)] (.nm 2) (.val (.v 0)) [] (.bin .Mod (.bin .Add (.v 2) (.v 1)) (.int 2))])]
theorem atI_0 {b : List Int} (h : b ≠ []) : atI (vI b) 0 = some (.int (b.getD 0 0)) := at_bits (i := 0) (List.length_pos_iff.mpr h)
end M

set_option maxHeartbeats 1000000
namespace M
open PySem PySem.Spec L2
local macro_rules | `(tactic| simp_wf) => `(tactic| simp only [wCs, w_asg, w_par, w_aug, w_ex, w_ret, w_retN, w_ite, w_brk, w_cnt, w_pass, w_rais, e_v, e_int, e_bl, e_non, e_str, e_g, e_bin, e_neg, e_cmp, e_chain, e_and, e_or, e_not, e_ife, e_tup, e_lst, e_ix, e_sl, e_rev, e_fld, e_call, e_new, e_meth, e_blt, e_mth, e_isi, e_isiT, e_dK0, e_dT0, e_repr, e_ktup, e_lrng1, e_lrng2, e_lrev, e_trev, e_dix, e_dg1, e_dg2, e_dsd, e_dpop, e_din, wEs, wAndV, wOrV, wB, wAnd, wOr, wBs, wP, r_nm, r_tgT, r_tgQ, r_tgW, r_tgt, r_tgr, r_tgp, r_tgd, r_tgi, r_tgs, r_tgs0, wBin, wCmp,
  r_add_ii, r_add_ib, r_add_ss, r_add_tt, r_add_rr, r_sub_ii, r_mul_ii, r_mul_ri, r_mul_ti, r_div_ii, r_mod_ii, r_pow_ii, r_shl_ii, r_shr_ii, r_and_ii, r_xor_ii, r_int, r_is_n, r_is_b, r_tru_b, r_tru_i, r_tru_n, r_tru_t, r_tru_r, r_ix_t, r_ix_r, r_sl_t, r_sl_r, r_len_t, r_len_s, r_abs, r_min2, r_max2, r_int1, r_int1b, r_str1, r_list1, r_tuple1, r_tuple1t, r_tuple1p, r_len_p, r_sorted1t, r_ix_p, r_valD_p, r_ty_p, r_tindex, r_tyM_tindex, r_reverse, r_tyM_reverse, r_remove, r_tyM_remove, r_append, r_pop0, r_pop1, r_insert, r_extend, r_count, r_index, r_sum1, r_sorted1, r_tyM_pop1, r_tyM_insert, r_tyM_extend, r_tyM_count, r_tyM_index, r_fld, r_tgf, r_tyM_append, r_tyM_pop0, r_valD_t, r_valD_r, r_ty_n, r_ty_b, r_ty_i, r_ty_s, r_ty_t, r_is_non_int, r_is_non_bool, r_is_non_str, r_is_non_tuple, r_is_non_list, r_is_non_dict, r_is_bl_int, r_is_bl_bool, r_is_bl_str, r_is_bl_tuple, r_is_bl_list, r_is_bl_dict, r_is_int_int, r_is_int_bool, r_is_int_str, r_is_int_tuple, r_is_int_list, r_is_int_dict, r_is_str_int, r_is_str_bool, r_is_str_str, r_is_str_tuple, r_is_str_list, r_is_str_dict, r_is_ptup_int, r_is_ptup_bool, r_is_ptup_str, r_is_ptup_tuple, r_is_ptup_list, r_is_ptup_dict, r_is_tup_int, r_is_tup_bool, r_is_tup_str, r_is_tup_tuple, r_is_tup_list, r_is_tup_dict, isNon, r_W0, r_W1, r_T0, r_T1, r_T2, r_Q0, r_Q1, r_at0, r_at1, r_at2, r_at3, r_at4, r_at5, r_eq_ii, r_eq_bb,
  List.getElem?_cons_zero, List.getElem?_cons_succ, List.set_cons_zero, List.set_cons_succ, setAll, Option.some.injEq, Val.int.injEq, Val.bl.injEq, Val.tup.injEq, Val.ref.injEq, exists_eq_left', exists_eq_left, exists_eq_right, Bool.false_eq_true, if_true, if_false, List.isEmpty_nil, List.isEmpty_cons, true_and, and_true, ↓reduceIte, List.length_cons, List.length_nil, startL, List.map_cons, List.map_nil, Bool.not_true, Bool.not_false, Nat.reduceAdd, Nat.reduceSub, List.replicate, List.cons_append, List.nil_append, reduceCtorEq, false_and, exists_false, List.cons.injEq, Bool.false_xor, Bool.true_xor, wipeL, Int.reduceNeg, Int.cast_ofNat_Int, decide_true, decide_false, Int.reduceEq, decide_eq_true_eq, r_nd, r_sl0, r_sl1, r_sl2, r_sl3, r_sl4, r_sl5, r_sl6, r_sl7, r_sl8, r_sl9, r_sl10, r_sl11, r_sl12, r_sl13, r_sl14, r_sl15, r_sl16, r_sl17, r_sl18, r_sl19, r_sl20, r_sl21, r_sl22, r_sl23, r_sl24, decide_eq_false_iff_not, not_true_eq_false, not_false_eq_true, Int.not_lt, Int.not_le])
end M

set_option maxHeartbeats 1000000
namespace M
open PySem PySem.Spec L2
local macro_rules | `(tactic| simp_wf) => `(tactic| simp only [wCs, w_asg, w_par, w_aug, w_ex, w_ret, w_retN, w_ite, w_brk, w_cnt, w_pass, w_rais, e_v, e_int, e_bl, e_non, e_str, e_g, e_bin, e_neg, e_cmp, e_chain, e_and, e_or, e_not, e_ife, e_tup, e_lst, e_ix, e_sl, e_rev, e_fld, e_call, e_new, e_meth, e_blt, e_mth, e_isi, e_isiT, e_dK0, e_dT0, e_repr, e_ktup, e_lrng1, e_lrng2, e_lrev, e_trev, e_dix, e_dg1, e_dg2, e_dsd, e_dpop, e_din, wEs, wAndV, wOrV, wB, wAnd, wOr, wBs, wP, r_nm, r_tgT, r_tgQ, r_tgW, r_tgt, r_tgr, r_tgp, r_tgd, r_tgi, r_tgs, r_tgs0, wBin, wCmp,
  r_add_ii, r_add_ib, r_add_ss, r_add_tt, r_add_rr, r_sub_ii, r_mul_ii, r_mul_ri, r_mul_ti, r_div_ii, r_mod_ii, r_pow_ii, r_shl_ii, r_shr_ii, r_and_ii, r_xor_ii, r_int, r_is_n, r_is_b, r_tru_b, r_tru_i, r_tru_n, r_tru_t, r_tru_r, r_ix_t, r_ix_r, r_sl_t, r_sl_r, r_len_t, r_len_s, r_abs, r_min2, r_max2, r_int1, r_int1b, r_str1, r_list1, r_tuple1, r_tuple1t, r_tuple1p, r_len_p, r_sorted1t, r_ix_p, r_valD_p, r_ty_p, r_tindex, r_tyM_tindex, r_reverse, r_tyM_reverse, r_remove, r_tyM_remove, r_append, r_pop0, r_pop1, r_insert, r_extend, r_count, r_index, r_sum1, r_sorted1, r_tyM_pop1, r_tyM_insert, r_tyM_extend, r_tyM_count, r_tyM_index, r_fld, r_tgf, r_tyM_append, r_tyM_pop0, r_valD_t, r_valD_r, r_ty_n, r_ty_b, r_ty_i, r_ty_s, r_ty_t, r_is_non_int, r_is_non_bool, r_is_non_str, r_is_non_tuple, r_is_non_list, r_is_non_dict, r_is_bl_int, r_is_bl_bool, r_is_bl_str, r_is_bl_tuple, r_is_bl_list, r_is_bl_dict, r_is_int_int, r_is_int_bool, r_is_int_str, r_is_int_tuple, r_is_int_list, r_is_int_dict, r_is_str_int, r_is_str_bool, r_is_str_str, r_is_str_tuple, r_is_str_list, r_is_str_dict, r_is_ptup_int, r_is_ptup_bool, r_is_ptup_str, r_is_ptup_tuple, r_is_ptup_list, r_is_ptup_dict, r_is_tup_int, r_is_tup_bool, r_is_tup_str, r_is_tup_tuple, r_is_tup_list, r_is_tup_dict, isNon, r_W0, r_W1, r_T0, r_T1, r_T2, r_Q0, r_Q1, r_at0, r_at1, r_at2, r_at3, r_at4, r_at5, r_eq_ii, r_eq_bb,
  List.getElem?_cons_zero, List.getElem?_cons_succ, List.set_cons_zero, List.set_cons_succ, setAll, Option.some.injEq, Val.int.injEq, Val.bl.injEq, Val.tup.injEq, Val.ref.injEq, exists_eq_left', exists_eq_left, exists_eq_right, Bool.false_eq_true, if_true, if_false, List.isEmpty_nil, List.isEmpty_cons, true_and, and_true, ↓reduceIte, List.length_cons, List.length_nil, startL, List.map_cons, List.map_nil, Bool.not_true, Bool.not_false, Nat.reduceAdd, Nat.reduceSub, List.replicate, List.cons_append, List.nil_append, reduceCtorEq, false_and, exists_false, List.cons.injEq, Bool.false_xor, Bool.true_xor, wipeL, Int.reduceNeg, Int.cast_ofNat_Int, decide_true, decide_false, Int.reduceEq, decide_eq_true_eq, r_nd, r_sl0, r_sl1, r_sl2, r_sl3, r_sl4, r_sl5, r_sl6, r_sl7, r_sl8, r_sl9, r_sl10, r_sl11, r_sl12, r_sl13, r_sl14, r_sl15, r_sl16, r_sl17, r_sl18, r_sl19, r_sl20, r_sl21, r_sl22, r_sl23, r_sl24, decide_eq_false_iff_not, not_true_eq_false, not_false_eq_true, Int.not_lt, Int.not_le])
/-- just the heaviest sides that keep all wishes, rising -/
structure HeavA (W : Web) (L : List Lk) (A : List (List Int)) : Prop where
  srt : A.Pairwise fun x y => lexL y x = false
  nd : A.Nodup
  mem : ∀ s, s ∈ A ↔ Bits W.n s ∧ keepsB L s = true ∧ ∀ t, Bits W.n t → keepsB L t = true → cutS t W.ts ≤ cutS s W.ts
theorem bits_dec {n : Nat} {s : List Int} (h : Bits n s) : ∀ b ∈ s, b = 0 ∨ b = 1 := h.2.2
theorem HeavA.none {W : Web} {L : List Lk} {r : List Nat} (ok : WssOk W.n L) (hr : OddRing L r) : HeavA W L [] :=
  ⟨.nil, .nil, fun s => ⟨(fun h => by cases h), fun ⟨hb, hk, _⟩ => (no_ring ok.lok (keepsN_of ok.1 (bits_dec hb) hk) hr).elim⟩⟩
theorem HeavA.of {W : Web} {L : List Lk} {M A : List (List Int)} {b : List Int} (hM : ∀ s, s ∈ M ↔ Bits W.n s ∧ keepsB L s = true) (nd : M.Nodup) (hb : b ∈ M) (hx : ∀ s ∈ M, cutS s W.ts ≤ cutS b W.ts)
    (hA : A.Perm (M.filter fun s => decide (cutS s W.ts = cutS b W.ts))) (srt : A.Pairwise fun x y => lexL y x = false) : HeavA W L A := by
  refine ⟨srt, hA.nodup_iff.mpr (nd.sublist List.filter_sublist), fun s => ?_⟩
  rw [hA.mem_iff, List.mem_filter, hM, decide_eq_true_eq]
  constructor
  · rintro ⟨⟨h1, h2⟩, e⟩
    exact ⟨h1, h2, fun t ht kt => by rw [e]; exact hx t ((hM t).mpr ⟨ht, kt⟩)⟩
  · rintro ⟨h1, h2, h3⟩
    obtain ⟨b1, b2⟩ := (hM b).mp hb
    exact ⟨⟨h1, h2⟩, Rat.le_antisymm (hx s ((hM s).mpr ⟨h1, h2⟩)) (h3 b b1 b2)⟩
end M

set_option maxHeartbeats 1000000
namespace M
open PySem PySem.Spec L2
local macro_rules | `(tactic| simp_wf) => `(tactic| simp only [wCs, w_asg, w_par, w_aug, w_ex, w_ret, w_retN, w_ite, w_brk, w_cnt, w_pass, w_rais, e_v, e_int, e_bl, e_non, e_str, e_g, e_bin, e_neg, e_cmp, e_chain, e_and, e_or, e_not, e_ife, e_tup, e_lst, e_ix, e_sl, e_rev, e_fld, e_call, e_new, e_meth, e_blt, e_mth, e_isi, e_isiT, e_dK0, e_dT0, e_repr, e_ktup, e_lrng1, e_lrng2, e_lrev, e_trev, e_dix, e_dg1, e_dg2, e_dsd, e_dpop, e_din, wEs, wAndV, wOrV, wB, wAnd, wOr, wBs, wP, r_nm, r_tgT, r_tgQ, r_tgW, r_tgt, r_tgr, r_tgp, r_tgd, r_tgi, r_tgs, r_tgs0, wBin, wCmp,
  r_add_ii, r_add_ib, r_add_ss, r_add_tt, r_add_rr, r_sub_ii, r_mul_ii, r_mul_ri, r_mul_ti, r_div_ii, r_mod_ii, r_pow_ii, r_shl_ii, r_shr_ii, r_and_ii, r_xor_ii, r_int, r_is_n, r_is_b, r_tru_b, r_tru_i, r_tru_n, r_tru_t, r_tru_r, r_ix_t, r_ix_r, r_sl_t, r_sl_r, r_len_t, r_len_s, r_abs, r_min2, r_max2, r_int1, r_int1b, r_str1, r_list1, r_tuple1, r_tuple1t, r_tuple1p, r_len_p, r_sorted1t, r_ix_p, r_valD_p, r_ty_p, r_tindex, r_tyM_tindex, r_reverse, r_tyM_reverse, r_remove, r_tyM_remove, r_append, r_pop0, r_pop1, r_insert, r_extend, r_count, r_index, r_sum1, r_sorted1, r_tyM_pop1, r_tyM_insert, r_tyM_extend, r_tyM_count, r_tyM_index, r_fld, r_tgf, r_tyM_append, r_tyM_pop0, r_valD_t, r_valD_r, r_ty_n, r_ty_b, r_ty_i, r_ty_s, r_ty_t, r_is_non_int, r_is_non_bool, r_is_non_str, r_is_non_tuple, r_is_non_list, r_is_non_dict, r_is_bl_int, r_is_bl_bool, r_is_bl_str, r_is_bl_tuple, r_is_bl_list, r_is_bl_dict, r_is_int_int, r_is_int_bool, r_is_int_str, r_is_int_tuple, r_is_int_list, r_is_int_dict, r_is_str_int, r_is_str_bool, r_is_str_str, r_is_str_tuple, r_is_str_list, r_is_str_dict, r_is_ptup_int, r_is_ptup_bool, r_is_ptup_str, r_is_ptup_tuple, r_is_ptup_list, r_is_ptup_dict, r_is_tup_int, r_is_tup_bool, r_is_tup_str, r_is_tup_tuple, r_is_tup_list, r_is_tup_dict, isNon, r_W0, r_W1, r_T0, r_T1, r_T2, r_Q0, r_Q1, r_at0, r_at1, r_at2, r_at3, r_at4, r_at5, r_eq_ii, r_eq_bb,
  List.getElem?_cons_zero, List.getElem?_cons_succ, List.set_cons_zero, List.set_cons_succ, setAll, Option.some.injEq, Val.int.injEq, Val.bl.injEq, Val.tup.injEq, Val.ref.injEq, exists_eq_left', exists_eq_left, exists_eq_right, Bool.false_eq_true, if_true, if_false, List.isEmpty_nil, List.isEmpty_cons, true_and, and_true, ↓reduceIte, List.length_cons, List.length_nil, startL, List.map_cons, List.map_nil, Bool.not_true, Bool.not_false, Nat.reduceAdd, Nat.reduceSub, List.replicate, List.cons_append, List.nil_append, reduceCtorEq, false_and, exists_false, List.cons.injEq, Bool.false_xor, Bool.true_xor, wipeL, Int.reduceNeg, Int.cast_ofNat_Int, decide_true, decide_false, Int.reduceEq, decide_eq_true_eq, r_nd, r_sl0, r_sl1, r_sl2, r_sl3, r_sl4, r_sl5, r_sl6, r_sl7, r_sl8, r_sl9, r_sl10, r_sl11, r_sl12, r_sl13, r_sl14, r_sl15, r_sl16, r_sl17, r_sl18, r_sl19, r_sl20, r_sl21, r_sl22, r_sl23, r_sl24, decide_eq_false_iff_not, not_true_eq_false, not_false_eq_true, Int.not_lt, Int.not_le])
def WlV (S : Sto) (v : Val) (L : List Lk) : Prop := v = .tup (L.map v3) ∨ ∃ r, v = .ref r ∧ S r = some (.lst (L.map v3))
theorem WlV.ws {S : Sto} {v : Val} {L : List Lk} (h : WlV S v L) : WsV S v L := by
  rcases h with rfl | ⟨r, rfl, h⟩
  · exact ⟨_, .inl rfl, .tups⟩
  · exact ⟨_, .inr ⟨r, rfl, h⟩, .tups⟩
theorem WlV.le {S T : Sto} {v : Val} {L : List Lk} (h : WlV S v L) (l : S.le T) : WlV T v L := by
  rcases h with rfl | ⟨r, rfl, h⟩
  · exact .inl rfl
  · exact .inr ⟨r, rfl, l _ _ h⟩
end M

set_option maxHeartbeats 1000000
namespace M
open PySem PySem.Spec L2
local macro_rules | `(tactic| simp_wf) => `(tactic| simp only [wCs, w_asg, w_par, w_aug, w_ex, w_ret, w_retN, w_ite, w_brk, w_cnt, w_pass, w_rais, e_v, e_int, e_bl, e_non, e_str, e_g, e_bin, e_neg, e_cmp, e_chain, e_and, e_or, e_not, e_ife, e_tup, e_lst, e_ix, e_sl, e_rev, e_fld, e_call, e_new, e_meth, e_blt, e_mth, e_isi, e_isiT, e_dK0, e_dT0, e_dT1, e_revT, e_repr, e_ktup, e_lrng1, e_lrng2, e_lrev, e_trev, e_dix, e_dg1, e_dg2, e_dsd, e_dpop, e_din, wEs, wAndV, wOrV, wB, wAnd, wOr, wBs, wP, r_nm, r_tgT, r_tgQ, r_tgW, r_tgt, r_tgr, r_tgp, r_tgd, r_tgi, r_tgs, r_tgs0, wBin, wCmp,
  r_add_ii, r_add_ib, r_add_ss, r_add_tt, r_add_rr, r_sub_ii, r_mul_ii, r_mul_ri, r_mul_ti, r_div_ii, r_mod_ii, r_pow_ii, r_shl_ii, r_shr_ii, r_and_ii, r_xor_ii, r_int, r_is_n, r_is_b, r_tru_b, r_tru_i, r_tru_n, r_tru_t, r_tru_r, r_ix_t, r_ix_r, r_sl_t, r_sl_r, r_len_t, r_len_s, r_abs, r_min2, r_max2, r_int1, r_int1b, r_bool1, r_str1, r_list1, r_tuple1, r_tuple1t, r_tuple1p, r_len_p, r_sorted1t, r_ix_p, r_valD_p, r_ty_p, r_tindex, r_tyM_tindex, r_reverse, r_tyM_reverse, r_remove, r_tyM_remove, r_append, r_pop0, r_pop1, r_insert, r_extend, r_count, r_index, r_sum1, r_sorted1, r_tyM_pop1, r_tyM_insert, r_tyM_extend, r_tyM_count, r_tyM_index, r_fld, r_tgf, r_tyM_append, r_tyM_pop0, r_valD_t, r_valD_r, r_ty_n, r_ty_b, r_ty_i, r_ty_s, r_ty_t, r_is_non_int, r_is_non_bool, r_is_non_str, r_is_non_tuple, r_is_non_list, r_is_non_dict, r_is_bl_int, r_is_bl_bool, r_is_bl_str, r_is_bl_tuple, r_is_bl_list, r_is_bl_dict, r_is_int_int, r_is_int_bool, r_is_int_str, r_is_int_tuple, r_is_int_list, r_is_int_dict, r_is_str_int, r_is_str_bool, r_is_str_str, r_is_str_tuple, r_is_str_list, r_is_str_dict, r_is_ptup_int, r_is_ptup_bool, r_is_ptup_str, r_is_ptup_tuple, r_is_ptup_list, r_is_ptup_dict, r_is_tup_int, r_is_tup_bool, r_is_tup_str, r_is_tup_tuple, r_is_tup_list, r_is_tup_dict, isNon, r_W0, r_W1, r_T0, r_T1, r_T2, r_Q0, r_Q1, r_at0, r_at1, r_at2, r_at3, r_at4, r_at5, r_eq_ii, r_eq_bb,
  List.getElem?_cons_zero, List.getElem?_cons_succ, List.set_cons_zero, List.set_cons_succ, setAll, Option.some.injEq, Val.int.injEq, Val.bl.injEq, Val.tup.injEq, Val.ref.injEq, exists_eq_left', exists_eq_left, exists_eq_right, Bool.false_eq_true, if_true, if_false, List.isEmpty_nil, List.isEmpty_cons, true_and, and_true, ↓reduceIte, List.length_cons, List.length_nil, startL, List.map_cons, List.map_nil, Bool.not_true, Bool.not_false, Nat.reduceAdd, Nat.reduceSub, List.replicate, List.cons_append, List.nil_append, reduceCtorEq, false_and, exists_false, List.cons.injEq, Bool.false_xor, Bool.true_xor, wipeL, Int.reduceNeg, Int.cast_ofNat_Int, decide_true, decide_false, Int.reduceEq, decide_eq_true_eq, r_nd, r_sl0, r_sl1, r_sl2, r_sl3, r_sl4, r_sl5, r_sl6, r_sl7, r_sl8, r_sl9, r_sl10, r_sl11, r_sl12, r_sl13, r_sl14, r_sl15, r_sl16, r_sl17, r_sl18, r_sl19, r_sl20, r_sl21, r_sl22, r_sl23, r_sl24, decide_eq_false_iff_not, not_true_eq_false, not_false_eq_true, Int.not_lt, Int.not_le])
def DkA (S : Sto) (p : Addr) : Prop := ∃ ns, S p = some (.lst (vI ns))
theorem DkA.new {S : Sto} {p q : Addr} {o : MO} (h : DkA S p) (hq : S q = none) : DkA (S.upd q o) p := let ⟨ns, e⟩ := h; ⟨ns, Sto.old e hq⟩
theorem DkA.oth {S : Sto} {p q : Addr} {o : MO} (h : DkA S p) (hq : p ≠ q) : DkA (S.upd q o) p := let ⟨ns, e⟩ := h; ⟨ns, Sto.upd_at e hq⟩
theorem DkA.ne {S : Sto} {p q : Addr} (h : DkA S p) (hq : S q = none) : q ≠ p := let ⟨_, e⟩ := h; ne_nn e hq
theorem DkA.fr {S T : Sto} {p : Addr} (h : DkA S p) (l : S.le T) : DkA T p := let ⟨ns, e⟩ := h; ⟨ns, l _ _ e⟩
theorem nxA_app {X : XPost} {T : Sto} {p : Addr} {m : Int} {Q : Post} (hm : 0 < m) (d : DkA T p) (h : ∀ r T', 0 ≤ r → r < m → DkA T' p → Fr p T T' → Q (.int r) T') : app spNext [.ref p, .int m] T Q X :=
  .of ⟨hm, d, fun r ns r0 r1 => h r _ r0 r1 ⟨_, Sto.upd_same⟩ Fr.refl.deck⟩
section
variable {G : Gam} {D : En} {p b q : Addr} {n : Nat} {bs : List Int} {S : Sto} {L : List Lk}
end

end M

set_option maxHeartbeats 1000000
namespace M
open PySem PySem.Spec L2
local macro_rules | `(tactic| simp_wf) => `(tactic| simp only [wCs, w_asg, w_par, w_aug, w_ex, w_ret, w_retN, w_ite, w_brk, w_cnt, w_pass, w_rais, e_v, e_int, e_bl, e_non, e_str, e_g, e_bin, e_neg, e_cmp, e_chain, e_and, e_or, e_not, e_ife, e_tup, e_lst, e_ix, e_sl, e_rev, e_fld, e_call, e_new, e_meth, e_blt, e_mth, e_isi, e_isiT, e_dK0, e_dT0, e_dT1, e_revT, e_repr, e_ktup, e_lrng1, e_lrng2, e_lrev, e_trev, e_dix, e_dg1, e_dg2, e_dsd, e_dpop, e_din, wEs, wAndV, wOrV, wB, wAnd, wOr, wBs, wP, r_nm, r_tgT, r_tgQ, r_tgW, r_tgt, r_tgr, r_tgp, r_tgd, r_tgi, r_tgs, r_tgs0, wBin, wCmp,
  r_add_ii, r_add_ib, r_add_ss, r_add_tt, r_add_rr, r_sub_ii, r_mul_ii, r_mul_ri, r_mul_ti, r_div_ii, r_mod_ii, r_pow_ii, r_shl_ii, r_shr_ii, r_and_ii, r_xor_ii, r_int, r_is_n, r_is_b, r_tru_b, r_tru_i, r_tru_n, r_tru_t, r_tru_r, r_ix_t, r_ix_r, r_sl_t, r_sl_r, r_len_t, r_len_s, r_abs, r_min2, r_max2, r_int1, r_int1b, r_bool1, r_str1, r_list1, r_tuple1, r_tuple1t, r_tuple1p, r_len_p, r_sorted1t, r_ix_p, r_valD_p, r_ty_p, r_tindex, r_tyM_tindex, r_reverse, r_tyM_reverse, r_remove, r_tyM_remove, r_append, r_pop0, r_pop1, r_insert, r_extend, r_count, r_index, r_sum1, r_sorted1, r_tyM_pop1, r_tyM_insert, r_tyM_extend, r_tyM_count, r_tyM_index, r_fld, r_tgf, r_tyM_append, r_tyM_pop0, r_valD_t, r_valD_r, r_ty_n, r_ty_b, r_ty_i, r_ty_s, r_ty_t, r_is_non_int, r_is_non_bool, r_is_non_str, r_is_non_tuple, r_is_non_list, r_is_non_dict, r_is_bl_int, r_is_bl_bool, r_is_bl_str, r_is_bl_tuple, r_is_bl_list, r_is_bl_dict, r_is_int_int, r_is_int_bool, r_is_int_str, r_is_int_tuple, r_is_int_list, r_is_int_dict, r_is_str_int, r_is_str_bool, r_is_str_str, r_is_str_tuple, r_is_str_list, r_is_str_dict, r_is_ptup_int, r_is_ptup_bool, r_is_ptup_str, r_is_ptup_tuple, r_is_ptup_list, r_is_ptup_dict, r_is_tup_int, r_is_tup_bool, r_is_tup_str, r_is_tup_tuple, r_is_tup_list, r_is_tup_dict, isNon, r_W0, r_W1, r_T0, r_T1, r_T2, r_Q0, r_Q1, r_at0, r_at1, r_at2, r_at3, r_at4, r_at5, r_eq_ii, r_eq_bb,
  List.getElem?_cons_zero, List.getElem?_cons_succ, List.set_cons_zero, List.set_cons_succ, setAll, Option.some.injEq, Val.int.injEq, Val.bl.injEq, Val.tup.injEq, Val.ref.injEq, exists_eq_left', exists_eq_left, exists_eq_right, Bool.false_eq_true, if_true, if_false, List.isEmpty_nil, List.isEmpty_cons, true_and, and_true, ↓reduceIte, List.length_cons, List.length_nil, startL, List.map_cons, List.map_nil, Bool.not_true, Bool.not_false, Nat.reduceAdd, Nat.reduceSub, List.replicate, List.cons_append, List.nil_append, reduceCtorEq, false_and, exists_false, List.cons.injEq, Bool.false_xor, Bool.true_xor, wipeL, Int.reduceNeg, Int.cast_ofNat_Int, decide_true, decide_false, Int.reduceEq, decide_eq_true_eq, r_nd, r_sl0, r_sl1, r_sl2, r_sl3, r_sl4, r_sl5, r_sl6, r_sl7, r_sl8, r_sl9, r_sl10, r_sl11, r_sl12, r_sl13, r_sl14, r_sl15, r_sl16, r_sl17, r_sl18, r_sl19, r_sl20, r_sl21, r_sl22, r_sl23, r_sl24, decide_eq_false_iff_not, not_true_eq_false, not_false_eq_true, Int.not_lt, Int.not_le])
/-- a multiple of 1 / D -/
def Mul1 (D : Nat) (q : Rat) : Prop := ∃ z : Int, q * (D : Rat) = (z : Rat)
theorem Mul1.sub {D : Nat} {p q : Rat} (h : Mul1 D p) (h' : Mul1 D q) : Mul1 D (p - q) := by
  obtain ⟨z, e⟩ := h
  obtain ⟨y, e'⟩ := h'
  exact ⟨z - y, by rw [Rat.intCast_sub, ← e, ← e']; grind⟩
theorem Mul1.add {D : Nat} {p q : Rat} (h : Mul1 D p) (h' : Mul1 D q) : Mul1 D (p + q) := by
  obtain ⟨z, e⟩ := h
  obtain ⟨y, e'⟩ := h'
  exact ⟨z + y, by rw [Rat.intCast_add, ← e, ← e']; grind⟩
theorem Mul1.zero {D : Nat} : Mul1 D 0 := ⟨0, by simp⟩
theorem Mul1.sz {D : Nat} {q : Rat} {n d B : Nat} (h : Mul1 D q) (hD : 0 < D) (hd : D < 2 ^ d) (h1 : q ≤ (B : Rat)) (h2 : -(B : Rat) ≤ q) (hB : B * D < 2 ^ n) : SzQ n d q := by
  obtain ⟨z, e⟩ := h
  have D0 : (0 : Rat) < (D : Rat) := Rat.natCast_pos.mpr hD
  have eq : q = Rat.divInt z (D : Int) := by
    rw [Rat.divInt_eq_div, ← e, Rat.intCast_natCast]
    grind
  have z1 : z ≤ ((B * D : Nat) : Int) := by
    have : (z : Rat) ≤ (((B * D : Nat) : Int) : Rat) := by
      rw [← e, Rat.intCast_natCast, Rat.natCast_mul]
      exact Rat.mul_le_mul_of_nonneg_right h1 (Rat.le_of_lt D0)
    exact Rat.intCast_le_intCast.mp this
  have z2 : -((B * D : Nat) : Int) ≤ z := by
    have : ((-((B * D : Nat) : Int) : Int) : Rat) ≤ (z : Rat) := by
      rw [← e, Rat.intCast_neg, Rat.intCast_natCast, Rat.natCast_mul]
      have := Rat.mul_le_mul_of_nonneg_right h2 (Rat.le_of_lt D0)
      grind
    exact Rat.intCast_le_intCast.mp this
  rw [eq]
  exact divInt_sz (by omega) (show z.natAbs < 2 ^ n by omega) (show (D : Int).natAbs < 2 ^ d by omega)
theorem Mul1.neg {D : Nat} {p : Rat} (h : Mul1 D p) : Mul1 D (-p) := by
  have := Mul1.zero.sub h
  rwa [show (0 : Rat) - p = -p by grind] at this
theorem Mul1.abs {D : Nat} {p : Rat} (h : Mul1 D p) : Mul1 D (qabs p) := by
  unfold qabs
  split
  · exact h.neg
  · exact h
theorem qs_mul {D : Nat} : ∀ {rs : List Rat}, (∀ r ∈ rs, Mul1 D r) → Mul1 D (qs rs)
  | [], _ => .zero
  | r :: rs, h => by
    simp only [qs]
    exact (h r (by simp)).add (qs_mul fun x hx => h x (by simp [hx]))
theorem qsB_nn : ∀ {rs : List Rat}, (∀ r ∈ rs, 0 ≤ r) → 0 ≤ qs rs
  | [], _ => by simp [qs]
  | r :: rs, h => by
    have := h r (by simp)
    have := qsB_nn (rs := rs) fun x hx => h x (by simp [hx])
    simp only [qs]; grind
theorem qsB_le {B : Nat} : ∀ {rs : List Rat}, (∀ r ∈ rs, r ≤ (B : Rat)) → qs rs ≤ ((rs.length * B : Nat) : Rat)
  | [], _ => by simp [qs]
  | r :: rs, h => by
    have h1 := h r (by simp)
    have h2 := qsB_le (rs := rs) fun x hx => h x (by simp [hx])
    simp only [qs, List.length_cons]
    rw [show (rs.length + 1) * B = B + rs.length * B by rw [Nat.add_mul]; omega, Rat.natCast_add]
    grind
end M

set_option maxHeartbeats 1000000
namespace M
open PySem PySem.Spec L2
local macro_rules | `(tactic| simp_wf) => `(tactic| simp only [wCs, w_asg, w_par, w_aug, w_ex, w_ret, w_retN, w_ite, w_brk, w_cnt, w_pass, w_rais, e_v, e_int, e_bl, e_non, e_str, e_g, e_bin, e_neg, e_cmp, e_chain, e_and, e_or, e_not, e_ife, e_tup, e_lst, e_ix, e_sl, e_rev, e_fld, e_call, e_new, e_meth, e_blt, e_mth, e_isi, e_isiT, e_dK0, e_dT0, e_dT1, e_revT, e_repr, e_ktup, e_lrng1, e_lrng2, e_lrev, e_trev, e_dix, e_dg1, e_dg2, e_dsd, e_dpop, e_din, wEs, wAndV, wOrV, wB, wAnd, wOr, wBs, wP, r_nm, r_tgT, r_tgQ, r_tgW, r_tgt, r_tgr, r_tgp, r_tgd, r_tgi, r_tgs, r_tgs0, wBin, wCmp,
  r_add_ii, r_add_ib, r_add_ss, r_add_tt, r_add_rr, r_sub_ii, r_mul_ii, r_mul_ri, r_mul_ti, r_div_ii, r_mod_ii, r_pow_ii, r_shl_ii, r_shr_ii, r_and_ii, r_xor_ii, r_int, r_is_n, r_is_b, r_tru_b, r_tru_i, r_tru_n, r_tru_t, r_tru_r, r_ix_t, r_ix_r, r_sl_t, r_sl_r, r_len_t, r_len_s, r_abs, r_min2, r_max2, r_int1, r_int1b, r_bool1, r_str1, r_list1, r_tuple1, r_tuple1t, r_tuple1p, r_len_p, r_sorted1t, r_ix_p, r_valD_p, r_ty_p, r_tindex, r_tyM_tindex, r_reverse, r_tyM_reverse, r_remove, r_tyM_remove, r_append, r_pop0, r_pop1, r_insert, r_extend, r_count, r_index, r_sum1, r_sorted1, r_tyM_pop1, r_tyM_insert, r_tyM_extend, r_tyM_count, r_tyM_index, r_fld, r_tgf, r_tyM_append, r_tyM_pop0, r_valD_t, r_valD_r, r_ty_n, r_ty_b, r_ty_i, r_ty_s, r_ty_t, r_is_non_int, r_is_non_bool, r_is_non_str, r_is_non_tuple, r_is_non_list, r_is_non_dict, r_is_bl_int, r_is_bl_bool, r_is_bl_str, r_is_bl_tuple, r_is_bl_list, r_is_bl_dict, r_is_int_int, r_is_int_bool, r_is_int_str, r_is_int_tuple, r_is_int_list, r_is_int_dict, r_is_str_int, r_is_str_bool, r_is_str_str, r_is_str_tuple, r_is_str_list, r_is_str_dict, r_is_ptup_int, r_is_ptup_bool, r_is_ptup_str, r_is_ptup_tuple, r_is_ptup_list, r_is_ptup_dict, r_is_tup_int, r_is_tup_bool, r_is_tup_str, r_is_tup_tuple, r_is_tup_list, r_is_tup_dict, isNon, r_W0, r_W1, r_T0, r_T1, r_T2, r_Q0, r_Q1, r_at0, r_at1, r_at2, r_at3, r_at4, r_at5, r_eq_ii, r_eq_bb,
  List.getElem?_cons_zero, List.getElem?_cons_succ, List.set_cons_zero, List.set_cons_succ, setAll, Option.some.injEq, Val.int.injEq, Val.bl.injEq, Val.tup.injEq, Val.ref.injEq, exists_eq_left', exists_eq_left, exists_eq_right, Bool.false_eq_true, if_true, if_false, List.isEmpty_nil, List.isEmpty_cons, true_and, and_true, ↓reduceIte, List.length_cons, List.length_nil, startL, List.map_cons, List.map_nil, Bool.not_true, Bool.not_false, Nat.reduceAdd, Nat.reduceSub, List.replicate, List.cons_append, List.nil_append, reduceCtorEq, false_and, exists_false, List.cons.injEq, Bool.false_xor, Bool.true_xor, wipeL, Int.reduceNeg, Int.cast_ofNat_Int, decide_true, decide_false, Int.reduceEq, decide_eq_true_eq, r_nd, r_sl0, r_sl1, r_sl2, r_sl3, r_sl4, r_sl5, r_sl6, r_sl7, r_sl8, r_sl9, r_sl10, r_sl11, r_sl12, r_sl13, r_sl14, r_sl15, r_sl16, r_sl17, r_sl18, r_sl19, r_sl20, r_sl21, r_sl22, r_sl23, r_sl24, decide_eq_false_iff_not, not_true_eq_false, not_false_eq_true, Int.not_lt, Int.not_le])
def oddT (ms : List Int) (t : Tie) : Bool := (decide (0 < t.w) != decide (ms.getD t.a 0 ≠ ms.getD t.b 0))
def oddAt (W : Web) (ms : List Int) (n : Int) : Bool := match W.ts[n.toNat]? with
  | some t => oddT ms t
  | none => false
def gEnds (W : Web) (gs ns : List Int) : List Int := ns.flatMap fun n => match W.ts[n.toNat]? with
  | some t => [gs.getD t.a 0, gs.getD t.b 0]
  | none => []
def oddRing (W : Web) (gs ms : List Int) (v : Val) : Option (List Int) := match isNums W.ts.length v with
  | some ns => if evB (gEnds W gs ns) = true ∧ (ns.filter (oddAt W ms)).length % 2 = 1 then some ns else none
  | none => none
/-- the fraction that a thing writes -/
def fracOf : Val → Option Rat
  | .tup [.int a, .int b] => if 0 < b ∧ cd a b = 1 then some (Rat.divInt a b) else none
  | _ => none
theorem fracOf_eq {v : Val} {r : Rat} (h : fracOf v = some r) : v = vQ r := by
  unfold fracOf at h
  split at h
  · rename_i a b
    split at h
    · rename_i c
      cases h
      have e := fr_rat (a := a) (b := b) (by omega)
      rw [← e, fr_pos (by omega), c.2, Int.ediv_one, Int.ediv_one]; rfl
    · cases h
  · cases h
theorem fracOf_vQ (r : Rat) : fracOf (vQ r) = some r := by
  unfold vQ fracOf
  have h1 := den_pos r
  have h2 : cd r.num r.den = 1 := by
    unfold cd
    have := r.reduced
    unfold Nat.Coprime at this
    show ((r.num.natAbs.gcd r.den : Nat) : Int) = 1
    omega
  dsimp only
  rw [if_pos ⟨h1, h2⟩, Rat.num_divInt_den]
/-- the row that a thing writes -/
def rowOf (W : Web) (gs ms : List Int) : Val → Option (List Int × Rat)
  | .tup [a, b] => match oddRing W gs ms a, fracOf b with
    | some ns, some r => if 0 < r then some (ns, r) else none
    | _, _ => none
  | _ => none
def Thg2 (S : Sto) (v : Val) : Prop := okTy v S ∧ ∀ xs, v = .tup xs → xs.length ≤ 1000 ∧ ∀ x ∈ xs, Thg S x
theorem okTy.le {S T : Sto} {v : Val} (h : okTy v S) (l : S.le T) : okTy v T := by
  obtain ⟨n, e, h2, h3⟩ := h
  refine ⟨n, ?_, h2, h3⟩
  cases v
  case ref a =>
    simp only [tyName] at e ⊢
    cases q : S a with
    | none => rw [q] at e; cases e
    | some o => rw [l _ _ q]; rw [q] at e; exact e
  all_goals exact e
theorem Thg.le {S T : Sto} {v : Val} (h : Thg S v) (l : S.le T) : Thg T v := ⟨h.1.le l, fun xs e => ⟨(h.2 xs e).1, fun x hx => ((h.2 xs e).2 x hx).le l⟩⟩
theorem Thg2.le {S T : Sto} {v : Val} (h : Thg2 S v) (l : S.le T) : Thg2 T v := ⟨h.1.le l, fun xs e => ⟨(h.2 xs e).1, fun x hx => ((h.2 xs e).2 x hx).le l⟩⟩
def rowsOf (W : Web) (gs ms : List Int) : List Val → Option (List (List Int × Rat))
  | [] => some []
  | v :: vs => match rowOf W gs ms v, rowsOf W gs ms vs with
    | some r, some rs => some (r :: rs)
    | _, _ => none
def vRow (r : List Int × Rat) : Val := .tup [.tup (vI r.1), vQ r.2]
structure RowOk (W : Web) (r : List Int × Rat) : Prop where
  ne : r.1 ≠ []
  lt : ∀ k ∈ r.1, 0 ≤ k ∧ k < W.ts.length
  up : r.1.Pairwise (· < ·)
  pos : 0 < r.2
theorem rowOf_eq {W : Web} {gs ms : List Int} {v : Val} {r : List Int × Rat} (h : rowOf W gs ms v = some r) : v = vRow r ∧ RowOk W r := by
  unfold rowOf at h
  split at h
  · rename_i a b
    split at h
    · rename_i ns q h1 h2
      split at h
      · rename_i hp
        cases h
        unfold oddRing at h1
        split at h1
        · rename_i ns' h3
          split at h1
          · cases h1
            obtain ⟨rfl, h4, h5, h6⟩ := isNums_of h3
            rw [fracOf_eq h2]
            exact ⟨rfl, h4, h5, h6, hp⟩
          · cases h1
        · cases h1
      · cases h
    · cases h
  · cases h
theorem rowsOf_eq {W : Web} {gs ms : List Int} : ∀ {vs : List Val} {rs : List (List Int × Rat)}, rowsOf W gs ms vs = some rs → vs = rs.map vRow ∧ ∀ r ∈ rs, RowOk W r
  | [], rs, h => by cases h; exact ⟨rfl, fun _ h => by cases h⟩
  | v :: vs, rs, h => by
    unfold rowsOf at h
    split at h
    · rename_i r rs' h1 h2
      cases h
      obtain ⟨rfl, h3⟩ := rowOf_eq h1
      obtain ⟨rfl, h4⟩ := rowsOf_eq h2
      refine ⟨rfl, fun x hx => ?_⟩
      rcases List.mem_cons.mp hx with rfl | hx
      · exact h3
      · exact h4 x hx
    · cases h
/-- what the rows ask of a tie -/
def asked (rs : List (List Int × Rat)) (k : Nat) : Rat := qs ((rs.filter fun r => isIn r.1 (k : Int)).map (·.2))
/-- the rows' sizes -/
def RSz (W : Web) (rs : List (List Int × Rat)) : Prop := (∃ n d k, (∀ r ∈ rs, SzQ n d r.2) ∧ rs.length ≤ k ∧ SzQ n d (topS W.ts) ∧ n + (d + 1) * (k + 1) ≤ 3900 ∧ d * (k + 1) + 1 ≤ 3900) ∨
  ∃ D d, 0 < D ∧ D < 2 ^ d ∧ d ≤ 1800 ∧ Mul1 D (topS W.ts) ∧ 0 ≤ topS W.ts ∧ topS W.ts ≤ ((2 ^ 40 : Nat) : Rat) ∧ rs.length ≤ 1000 ∧ ∀ r ∈ rs, Mul1 D r.2 ∧ 0 ≤ r.2 ∧ r.2 ≤ ((2 ^ 30 : Nat) : Rat)
/-- sums over one bottom -/
theorem sum_sz {D d : Nat} {rs : List Rat} (hD : 0 < D) (hd : D < 2 ^ d) (d18 : d ≤ 1800) (hl : rs.length ≤ 1000) (h : ∀ r ∈ rs, Mul1 D r ∧ 0 ≤ r ∧ r ≤ ((2 ^ 30 : Nat) : Rat)) : SzQ 3900 3900 (qs rs) ∧ 0 ≤ qs rs ∧ qs rs ≤ ((2 ^ 40 : Nat) : Rat) := by
  have h1 : Mul1 D (qs rs) := qs_mul fun r hr => (h r hr).1
  have h2 : 0 ≤ qs rs := qsB_nn fun r hr => (h r hr).2.1
  have h3 : qs rs ≤ ((2 ^ 40 : Nat) : Rat) := by
    refine Rat.le_trans (qsB_le fun r hr => (h r hr).2.2) (Rat.natCast_le_natCast.mpr ?_)
    have : rs.length * 2 ^ 30 ≤ 1000 * 2 ^ 30 := Nat.mul_le_mul_right _ hl
    omega
  have hB : 2 ^ 40 * D < 2 ^ (40 + d) := by rw [Nat.pow_add]; exact Nat.mul_lt_mul_of_pos_left hd (by decide)
  have z : -((2 ^ 40 : Nat) : Rat) ≤ qs rs := Rat.le_trans (by have : (0 : Rat) ≤ ((2 ^ 40 : Nat) : Rat) := Rat.natCast_nonneg; grind) h2
  exact ⟨(h1.sz hD hd h3 z hB).mono (by omega) (by omega), h2, h3⟩
theorem qs_szG {n d : Nat} : ∀ {rs : List Rat} {k : Nat}, (∀ r ∈ rs, SzQ n d r) → rs.length ≤ k → SzQ (n + (d + 1) * k) (d * k + 1) (qs rs)
  | [], k, _, _ => SzQ.zero (by omega)
  | r :: rs, k, h, hl => by
    have h1 := h r (by simp)
    cases k with
    | zero => simp at hl
    | succ k =>
      have ih := qs_szG (rs := rs) (k := k) (fun x hx => h x (by simp [hx])) (by simp at hl; omega)
      have := h1.add ih
      have hd : d * k ≤ (d + 1) * k := Nat.mul_le_mul_right k (by omega)
      have hd1 : 1 ≤ d := by
        rcases Nat.eq_zero_or_pos d with e | e
        · subst e
          have := h1.den
          have := r.den_nz
          simp at *; omega
        · exact e
      refine this.mono ?_ ?_
      · rw [Nat.mul_succ]; omega
      · rw [Nat.mul_succ]; omega
theorem RSz.part {W : Web} {rs rs' : List (List Int × Rat)} (h : RSz W rs) (hs : ∀ r ∈ rs', r ∈ rs) (hl : rs'.length ≤ rs.length) : SzQ 3900 3900 (qs (rs'.map (·.2))) := by
  rcases h with h | ⟨D, d, hD, hd, d18, _, _, _, hl', hr⟩
  rotate_left
  · refine (sum_sz hD hd d18 (by rw [List.length_map]; omega) fun q hq => ?_).1
    obtain ⟨x, hx, rfl⟩ := List.mem_map.mp hq
    exact hr x (hs x hx)
  obtain ⟨n, d, k, h1, h2, _, h4, h5⟩ := h
  refine (qs_szG (n := n) (d := d) (k := k + 1) (fun r hr => ?_) (by rw [List.length_map]; omega)).mono h4 h5
  obtain ⟨x, hx, rfl⟩ := List.mem_map.mp hr
  exact h1 x (hs x hx)
theorem qs_neg (rs : List Rat) : qs (rs.map fun r => -r) = - qs rs := by
  induction rs with
  | nil => rfl
  | cons r rs ih => simp only [List.map_cons, qs, ih]; grind
theorem SzQ.neg {n d : Nat} {r : Rat} (h : SzQ n d r) : SzQ n d (-r) := ⟨by rw [Rat.neg_num]; unfold Sz; rw [Int.natAbs_neg]; exact h.num, by rw [Rat.neg_den]; exact h.den⟩
theorem RSz.left {W : Web} {rs : List (List Int × Rat)} (h : RSz W rs) (j : Nat) : SzQ 4000 4000 (topS W.ts - qs ((rs.take j).map (·.2))) := by
  rcases h with h | ⟨D, d, hD, hd, d18, t1, t2, t3, hl, hr⟩
  rotate_left
  · have hm : ∀ q ∈ (rs.take j).map (·.2), Mul1 D q ∧ 0 ≤ q ∧ q ≤ ((2 ^ 30 : Nat) : Rat) := fun q hq => by
      obtain ⟨x, hx, rfl⟩ := List.mem_map.mp hq
      exact hr x (List.mem_of_mem_take hx)
    obtain ⟨_, s2, s3⟩ := sum_sz hD hd d18 (by rw [List.length_map, List.length_take]; omega) hm
    have hB : 2 ^ 40 * D < 2 ^ (40 + d) := by rw [Nat.pow_add]; exact Nat.mul_lt_mul_of_pos_left hd (by decide)
    exact ((t1.sub (qs_mul fun r hr => (hm r hr).1)).sz (B := 2 ^ 40) hD hd (by grind) (by grind) hB).mono (by omega) (by omega)
  obtain ⟨n, d, k, h1, h2, h3, h4, h5⟩ := h
  have := qs_szG (n := n) (d := d) (k := k + 1) (rs := topS W.ts :: ((rs.take j).map fun r => -r.2)) (fun r hr => ?_) (by rw [List.length_cons, List.length_map, List.length_take]; omega)
  · rw [qs, show ((rs.take j).map fun r => -r.2) = ((rs.take j).map (·.2)).map fun r => -r from by rw [List.map_map]; rfl, qs_neg] at this
    rw [Rat.sub_eq_add_neg]
    exact this.mono (Nat.le_trans h4 (by decide)) (Nat.le_trans h5 (by decide))
  · rcases List.mem_cons.mp hr with rfl | hr
    · exact h3
    · obtain ⟨x, hx, rfl⟩ := List.mem_map.mp hr
      exact (h1 x (List.mem_of_mem_take hx)).neg
theorem RSz.one {W : Web} {rs : List (List Int × Rat)} (h : RSz W rs) {r : List Int × Rat} (hr : r ∈ rs) : SzQ 4000 4000 r.2 := by
  rcases h with h | ⟨D, d, hD, hd, d18, t1, t2, t3, hl, hr'⟩
  rotate_left
  · obtain ⟨s1, s2, s3⟩ := hr' r hr
    have hB : 2 ^ 30 * D < 2 ^ (30 + d) := by rw [Nat.pow_add]; exact Nat.mul_lt_mul_of_pos_left hd (by decide)
    exact (s1.sz (B := 2 ^ 30) hD hd s3 (by have : (0 : Rat) ≤ ((2 ^ 30 : Nat) : Rat) := Rat.natCast_nonneg; grind) hB).mono (by omega) (by omega)
  obtain ⟨n, d, k, h1, h2, h3, h4, h5⟩ := h
  have a : n ≤ 4000 := Nat.le_trans (Nat.le_trans (Nat.le_add_right n _) h4) (by decide)
  have b : d ≤ 4000 := by
    have : d * 1 ≤ d * (k + 1) := Nat.mul_le_mul_left d (by omega)
    omega
  exact (h1 r hr).mono a b
end M

set_option maxHeartbeats 1000000
namespace M
open PySem PySem.Spec L2
local macro_rules | `(tactic| simp_wf) => `(tactic| simp only [wCs, w_asg, w_par, w_aug, w_ex, w_ret, w_retN, w_ite, w_brk, w_cnt, w_pass, w_rais, e_v, e_int, e_bl, e_non, e_str, e_g, e_bin, e_neg, e_cmp, e_chain, e_and, e_or, e_not, e_ife, e_tup, e_lst, e_ix, e_sl, e_rev, e_fld, e_call, e_new, e_meth, e_blt, e_mth, e_isi, e_isiT, e_dK0, e_dT0, e_repr, e_ktup, e_lrng1, e_lrng2, e_lrev, e_trev, e_dix, e_dg1, e_dg2, e_dsd, e_dpop, e_din, wEs, wAndV, wOrV, wB, wAnd, wOr, wBs, wP, r_nm, r_tgT, r_tgQ, r_tgW, r_tgt, r_tgr, r_tgp, r_tgd, r_tgi, r_tgs, r_tgs0, wBin, wCmp,
  r_add_ii, r_add_ib, r_add_ss, r_add_tt, r_add_rr, r_sub_ii, r_mul_ii, r_mul_ri, r_mul_ti, r_div_ii, r_mod_ii, r_pow_ii, r_shl_ii, r_shr_ii, r_and_ii, r_xor_ii, r_int, r_is_n, r_is_b, r_tru_b, r_tru_i, r_tru_n, r_tru_t, r_tru_r, r_ix_t, r_ix_r, r_sl_t, r_sl_r, r_len_t, r_len_s, r_abs, r_min2, r_max2, r_int1, r_int1b, r_str1, r_list1, r_tuple1, r_tuple1t, r_tuple1p, r_len_p, r_sorted1t, r_ix_p, r_valD_p, r_ty_p, r_tindex, r_tyM_tindex, r_reverse, r_tyM_reverse, r_remove, r_tyM_remove, r_append, r_pop0, r_pop1, r_insert, r_extend, r_count, r_index, r_sum1, r_sorted1, r_tyM_pop1, r_tyM_insert, r_tyM_extend, r_tyM_count, r_tyM_index, r_fld, r_tgf, r_tyM_append, r_tyM_pop0, r_valD_t, r_valD_r, r_ty_n, r_ty_b, r_ty_i, r_ty_s, r_ty_t, r_is_non_int, r_is_non_bool, r_is_non_str, r_is_non_tuple, r_is_non_list, r_is_non_dict, r_is_bl_int, r_is_bl_bool, r_is_bl_str, r_is_bl_tuple, r_is_bl_list, r_is_bl_dict, r_is_int_int, r_is_int_bool, r_is_int_str, r_is_int_tuple, r_is_int_list, r_is_int_dict, r_is_str_int, r_is_str_bool, r_is_str_str, r_is_str_tuple, r_is_str_list, r_is_str_dict, r_is_ptup_int, r_is_ptup_bool, r_is_ptup_str, r_is_ptup_tuple, r_is_ptup_list, r_is_ptup_dict, r_is_tup_int, r_is_tup_bool, r_is_tup_str, r_is_tup_tuple, r_is_tup_list, r_is_tup_dict, isNon, r_W0, r_W1, r_T0, r_T1, r_T2, r_Q0, r_Q1, r_at0, r_at1, r_at2, r_at3, r_at4, r_at5, r_eq_ii, r_eq_bb,
  List.getElem?_cons_zero, List.getElem?_cons_succ, List.set_cons_zero, List.set_cons_succ, setAll, Option.some.injEq, Val.int.injEq, Val.bl.injEq, Val.tup.injEq, Val.ref.injEq, exists_eq_left', exists_eq_left, exists_eq_right, Bool.false_eq_true, if_true, if_false, List.isEmpty_nil, List.isEmpty_cons, true_and, and_true, ↓reduceIte, List.length_cons, List.length_nil, startL, List.map_cons, List.map_nil, Bool.not_true, Bool.not_false, Nat.reduceAdd, Nat.reduceSub, List.replicate, List.cons_append, List.nil_append, reduceCtorEq, false_and, exists_false, List.cons.injEq, Bool.false_xor, Bool.true_xor, wipeL, Int.reduceNeg, Int.cast_ofNat_Int, decide_true, decide_false, Int.reduceEq, decide_eq_true_eq, r_nd, r_sl0, r_sl1, r_sl2, r_sl3, r_sl4, r_sl5, r_sl6, r_sl7, r_sl8, r_sl9, r_sl10, r_sl11, r_sl12, r_sl13, r_sl14, r_sl15, r_sl16, r_sl17, r_sl18, r_sl19, r_sl20, r_sl21, r_sl22, r_sl23, r_sl24, decide_eq_false_iff_not, not_true_eq_false, not_false_eq_true, Int.not_lt, Int.not_le])
/-- a rows' tuple asks of no tie more than its size -/
def Within (W : Web) (rs : List (List Int × Rat)) : Prop := ∀ k t, W.ts[k]? = some t → ¬ qabs t.w < asked rs k
noncomputable instance {W : Web} {rs : List (List Int × Rat)} : Decidable (Within W rs) := Classical.propDecidable _
noncomputable def areRows (W : Web) (gs ms : List Int) : Val → Option (List (List Int × Rat))
  | .tup xs => match rowsOf W gs ms xs with
    | some rs => if Within W rs then some rs else none
    | none => none
  | _ => none
def Thg3 (S : Sto) (v : Val) : Prop := okTy v S ∧ ∀ xs, v = .tup xs → xs.length ≤ 1000 ∧ ∀ x ∈ xs, Thg2 S x
theorem Thg3.le {S T : Sto} {v : Val} (h : Thg3 S v) (l : S.le T) : Thg3 T v := ⟨h.1.le l, fun xs e => ⟨(h.2 xs e).1, fun x hx => ((h.2 xs e).2 x hx).le l⟩⟩
/-- sizes of a thing's rows, if it has some -/
def VSz (W : Web) (gs ms : List Int) (v : Val) : Prop := ∀ xs rs, v = .tup xs → rowsOf W gs ms xs = some rs → RSz W rs
theorem RSz.asked {W : Web} {rs : List (List Int × Rat)} (sz : RSz W rs) (k : Nat) : SzQ 4000 4000 (asked rs k) :=
  (sz.part (rs' := rs.filter fun r => isIn r.1 (k : Int)) (fun x hx => (List.mem_filter.mp hx).1) (List.length_filter_le _ _)).mono (by decide) (by decide)
theorem SzQ.abs {n d : Nat} {r : Rat} (h : SzQ n d r) : SzQ n d (qabs r) := by
  unfold qabs; split
  · exact h.neg
  · exact h
end M

set_option maxHeartbeats 1000000
namespace M
open PySem PySem.Spec L2
local macro_rules | `(tactic| simp_wf) => `(tactic| simp only [wCs, w_asg, w_par, w_aug, w_ex, w_ret, w_retN, w_ite, w_brk, w_cnt, w_pass, w_rais, e_v, e_int, e_bl, e_non, e_str, e_g, e_bin, e_neg, e_cmp, e_chain, e_and, e_or, e_not, e_ife, e_tup, e_lst, e_ix, e_sl, e_rev, e_fld, e_call, e_new, e_meth, e_blt, e_mth, e_isi, e_isiT, e_dK0, e_dT0, e_repr, e_ktup, e_lrng1, e_lrng2, e_lrev, e_trev, e_dix, e_dg1, e_dg2, e_dsd, e_dpop, e_din, wEs, wAndV, wOrV, wB, wAnd, wOr, wBs, wP, r_nm, r_tgT, r_tgQ, r_tgW, r_tgt, r_tgr, r_tgp, r_tgd, r_tgi, r_tgs, r_tgs0, wBin, wCmp,
  r_add_ii, r_add_ib, r_add_ss, r_add_tt, r_add_rr, r_sub_ii, r_mul_ii, r_mul_ri, r_mul_ti, r_div_ii, r_mod_ii, r_pow_ii, r_shl_ii, r_shr_ii, r_and_ii, r_xor_ii, r_int, r_is_n, r_is_b, r_tru_b, r_tru_i, r_tru_n, r_tru_t, r_tru_r, r_ix_t, r_ix_r, r_sl_t, r_sl_r, r_len_t, r_len_s, r_abs, r_min2, r_max2, r_int1, r_int1b, r_str1, r_list1, r_tuple1, r_tuple1t, r_tuple1p, r_len_p, r_sorted1t, r_ix_p, r_valD_p, r_ty_p, r_tindex, r_tyM_tindex, r_reverse, r_tyM_reverse, r_remove, r_tyM_remove, r_append, r_pop0, r_pop1, r_insert, r_extend, r_count, r_index, r_sum1, r_sorted1, r_tyM_pop1, r_tyM_insert, r_tyM_extend, r_tyM_count, r_tyM_index, r_fld, r_tgf, r_tyM_append, r_tyM_pop0, r_valD_t, r_valD_r, r_ty_n, r_ty_b, r_ty_i, r_ty_s, r_ty_t, r_is_non_int, r_is_non_bool, r_is_non_str, r_is_non_tuple, r_is_non_list, r_is_non_dict, r_is_bl_int, r_is_bl_bool, r_is_bl_str, r_is_bl_tuple, r_is_bl_list, r_is_bl_dict, r_is_int_int, r_is_int_bool, r_is_int_str, r_is_int_tuple, r_is_int_list, r_is_int_dict, r_is_str_int, r_is_str_bool, r_is_str_str, r_is_str_tuple, r_is_str_list, r_is_str_dict, r_is_ptup_int, r_is_ptup_bool, r_is_ptup_str, r_is_ptup_tuple, r_is_ptup_list, r_is_ptup_dict, r_is_tup_int, r_is_tup_bool, r_is_tup_str, r_is_tup_tuple, r_is_tup_list, r_is_tup_dict, isNon, r_W0, r_W1, r_T0, r_T1, r_T2, r_Q0, r_Q1, r_at0, r_at1, r_at2, r_at3, r_at4, r_at5, r_eq_ii, r_eq_bb,
  List.getElem?_cons_zero, List.getElem?_cons_succ, List.set_cons_zero, List.set_cons_succ, setAll, Option.some.injEq, Val.int.injEq, Val.bl.injEq, Val.tup.injEq, Val.ref.injEq, exists_eq_left', exists_eq_left, exists_eq_right, Bool.false_eq_true, if_true, if_false, List.isEmpty_nil, List.isEmpty_cons, true_and, and_true, ↓reduceIte, List.length_cons, List.length_nil, startL, List.map_cons, List.map_nil, Bool.not_true, Bool.not_false, Nat.reduceAdd, Nat.reduceSub, List.replicate, List.cons_append, List.nil_append, reduceCtorEq, false_and, exists_false, List.cons.injEq, Bool.false_xor, Bool.true_xor, wipeL, Int.reduceNeg, Int.cast_ofNat_Int, decide_true, decide_false, Int.reduceEq, decide_eq_true_eq, r_nd, r_sl0, r_sl1, r_sl2, r_sl3, r_sl4, r_sl5, r_sl6, r_sl7, r_sl8, r_sl9, r_sl10, r_sl11, r_sl12, r_sl13, r_sl14, r_sl15, r_sl16, r_sl17, r_sl18, r_sl19, r_sl20, r_sl21, r_sl22, r_sl23, r_sl24, decide_eq_false_iff_not, not_true_eq_false, not_false_eq_true, Int.not_lt, Int.not_le])
def optQ : Option Rat → Val
  | none => .non
  | some r => vQ r
/-- a thing that may be a ring paper -/
def PpOk (S : Sto) (v : Val) : Prop := okTy v S ∧ ∀ a b, v = .tup [a, b] → datB 8 a = true ∧ Thg3 S b
theorem PpOk.le {S T : Sto} {v : Val} (h : PpOk S v) (l : S.le T) : PpOk T v := ⟨h.1.le l, fun a b e => ⟨(h.2 a b e).1, (h.2 a b e).2.le l⟩⟩
def PSz (W : Web) (gs ms : List Int) (v : Val) : Prop := ∀ a b, v = .tup [a, b] → VSz W gs ms b
noncomputable def grpB (W : Web) (gs ms : List Int) : Val → Option Rat
  | .tup [.str n, r] => if n = "rings" then (areRows W gs ms r).map fun rs => topS W.ts - qs (rs.map (·.2)) else none
  | _ => none
/-- what a bound is asked for -/
def BdAsk (S : Sto) (W : Web) (L : List Lk) (p : Val) (Q : Post) : Prop := PpOk S p ∧ (∀ T r, S.le T → OddRing L r → Q .non T) ∧ ∀ gs bs, Good W.n L gs bs none → PSz W (rN W.n gs) (rN W.n bs) p ∧ ∀ T, S.le T → Q (optQ (grpB W (rN W.n gs) (rN W.n bs) p)) T
end M

/- Groups found by labels and marks: the plain law. -/
namespace M
/-- labels g and marks m behind j wishes -/
structure UF (n : Nat) (L : List Lk) (j : Nat) (g m : Nat → Nat) : Prop where
  bit : ∀ p, m p < 2
  lab : ∀ p, p < n → g p < n
  sol : ∀ k, k < j → g (lkAt L k).a = g (lkAt L k).b ∧ (m (lkAt L k).a + m (lkAt L k).b) % 2 = xx L k
  con : ∀ p q, p < n → q < n → g p = g q → Con L p q
  par : ∀ B : Nat → Nat, keepsN L B → ∀ p q, p < n → q < n → g p = g q → (m p + m q + B p + B q) % 2 = 0
theorem UF.start {n : Nat} {L : List Lk} : UF n L 0 (fun p => p) fun _ => 0 :=
  ⟨fun _ => by omega, fun p h => h, fun k h => by omega, fun p q _ _ e => by subst e; exact .refl p, fun B _ p q _ _ e => by subst e; omega⟩
theorem con_wish {L : List Lk} {k : Nat} (hk : k < L.length) : Con L (lkAt L k).a (lkAt L k).b := by
  have := Con.step (.refl (lkAt L k).a) hk (show isEnd L k (lkAt L k).a from .inl rfl)
  unfold oe at this
  rw [if_pos rfl] at this
  exact this
/-- one wish's relabelling -/
def reG (g : Nat → Nat) (a b : Nat) : Nat → Nat := fun p => if g p = g b then g a else g p
def reM (g m : Nat → Nat) (b t : Nat) : Nat → Nat := fun p => if g p = g b then (m p + t) % 2 else m p
theorem UF.no {n : Nat} {L : List Lk} {j : Nat} {g m : Nat → Nat} (h : UF n L j g m) (hL : LOk n L) (hj : j < L.length) (hg : g (lkAt L j).a = g (lkAt L j).b) (ht : (m (lkAt L j).a + m (lkAt L j).b + xx L j) % 2 = 1) (B : Nat → Nat) (hB : keepsN L B) : False := by
  have h1 := h.par B hB _ _ (hL.a j hj) (hL.b j hj) hg
  have h2 := hB j hj
  omega
theorem UF.join {n : Nat} {L : List Lk} {j : Nat} {g m : Nat → Nat} (h : UF n L j g m) (hL : LOk n L) (hj : j < L.length) (hg : g (lkAt L j).a ≠ g (lkAt L j).b) :
    UF n L (j + 1) (reG g (lkAt L j).a (lkAt L j).b) (reM g m (lkAt L j).b ((m (lkAt L j).a + m (lkAt L j).b + xx L j) % 2)) := by
  have ha := hL.a j hj
  have hb := hL.b j hj
  have hx : xx L j < 2 := hL.x j hj
  have cab := con_wish hj
  generalize hA : (lkAt L j).a = a at *
  generalize hB : (lkAt L j).b = b at *
  generalize ht : (m a + m b + xx L j) % 2 = t
  have ht2 : t < 2 := by omega
  refine ⟨fun p => ?_, fun p hp => ?_, fun k hk => ?_, fun p q hp hq e => ?_, fun B hB2 p q hp hq e => ?_⟩
  · unfold reM; split
    · omega
    · exact h.bit p
  · unfold reG; split
    · exact h.lab a ha
    · exact h.lab p hp
  · by_cases c : k = j
    · subst c
      rw [hA, hB]
      unfold reG reM
      rw [if_neg hg, if_pos rfl, if_neg hg, if_pos rfl]
      refine ⟨rfl, ?_⟩
      have := h.bit a
      have := h.bit b
      omega
    · obtain ⟨s1, s2⟩ := h.sol k (by omega)
      unfold reG reM
      rw [s1]
      by_cases c2 : g (lkAt L k).b = g b
      · rw [if_pos c2, if_pos c2, if_pos c2]; exact ⟨rfl, by omega⟩
      · rw [if_neg c2, if_neg c2, if_neg c2]; exact ⟨rfl, s2⟩
  · unfold reG at e
    by_cases c1 : g p = g b
    · have k1 := (h.con p b hp hb c1).trans cab.symm
      rw [if_pos c1] at e
      by_cases c2 : g q = g b
      · exact k1.trans (cab.trans (h.con b q hb hq c2.symm))
      · rw [if_neg c2] at e
        exact k1.trans (h.con a q ha hq e)
    · rw [if_neg c1] at e
      by_cases c2 : g q = g b
      · rw [if_pos c2] at e
        exact (h.con p a hp ha e).trans (cab.trans (h.con b q hb hq c2.symm))
      · rw [if_neg c2] at e
        exact h.con p q hp hq e
  · have hk := hB2 j hj
    rw [hA, hB] at hk
    unfold reG at e
    unfold reM
    by_cases c1 : g p = g b
    · have k1 := h.par B hB2 p b hp hb c1
      rw [if_pos c1] at e ⊢
      by_cases c2 : g q = g b
      · have k2 := h.par B hB2 q b hq hb c2
        rw [if_pos c2]; omega
      · rw [if_neg c2] at e ⊢
        have k2 := h.par B hB2 a q ha hq e
        omega
    · rw [if_neg c1] at e ⊢
      by_cases c2 : g q = g b
      · rw [if_pos c2] at e ⊢
        have k1 := h.par B hB2 p a hp ha e
        have k2 := h.par B hB2 q b hq hb c2
        omega
      · rw [if_neg c2] at e ⊢
        exact h.par B hB2 p q hp hq e
/-- the first point of p's label -/
def fst1 (g : Nat → Nat) (p : Nat) : Nat := ((List.range p).find? fun q => decide (g q = g p)).getD p
theorem fst1_spec (g : Nat → Nat) (p : Nat) : fst1 g p ≤ p ∧ g (fst1 g p) = g p ∧ ∀ q, q < fst1 g p → g q ≠ g p := by
  unfold fst1
  cases e : (List.range p).find? fun q => decide (g q = g p) with
  | none =>
    rw [List.find?_eq_none] at e
    refine ⟨Nat.le_refl _, rfl, fun q hq c => ?_⟩
    exact e q (List.mem_range.mpr hq) (by simpa using c)
  | some q =>
    have e2 := List.find?_range_eq_some.mp e
    obtain ⟨h1, h2, h3⟩ := e2
    refine ⟨Nat.le_of_lt (List.mem_range.mp h2), by simpa using h1, fun r hr c => ?_⟩
    have := h3 r hr
    simp only [Bool.not_eq_true', decide_eq_false_iff_not] at this
    exact this c
theorem fst1_eq {g : Nat → Nat} {p q : Nat} (e : g p = g q) : fst1 g p = fst1 g q := by
  obtain ⟨a1, a2, a3⟩ := fst1_spec g p
  obtain ⟨b1, b2, b3⟩ := fst1_spec g q
  rcases Nat.lt_trichotomy (fst1 g p) (fst1 g q) with c | c | c
  · exact absurd (a2.trans e) (b3 _ c)
  · exact c
  · exact absurd (b2.trans e.symm) (a3 _ c)
theorem fst1_fst (g : Nat → Nat) (p : Nat) : fst1 g (fst1 g p) = fst1 g p := fst1_eq (fst1_spec g p).2.1
def fsts (g : Nat → Nat) (n : Nat) : List Nat := (List.range n).filter fun p => decide (fst1 g p = p)
theorem fsts_mem {g : Nat → Nat} {n q : Nat} : q ∈ fsts g n ↔ q < n ∧ fst1 g q = q := by unfold fsts; simp
theorem fsts_up {g : Nat → Nat} {n : Nat} : (fsts g n).Pairwise (· < ·) := List.Pairwise.sublist List.filter_sublist List.pairwise_lt_range
theorem fsts_nodup {g : Nat → Nat} {n : Nat} : (fsts g n).Nodup := fsts_up.imp fun h => Nat.ne_of_lt h
def told (g : Nat → Nat) (n p : Nat) : Nat := (fsts g n).idxOf (fst1 g p)
theorem fst_in {g : Nat → Nat} {n p : Nat} (hp : p < n) : fst1 g p ∈ fsts g n := fsts_mem.mpr ⟨Nat.lt_of_le_of_lt (fst1_spec g p).1 hp, fst1_fst g p⟩
theorem told_lt {g : Nat → Nat} {n p : Nat} (hp : p < n) : told g n p < (fsts g n).length := List.idxOf_lt_length_iff.mpr (fst_in hp)
theorem told_get {g : Nat → Nat} {n p : Nat} (hp : p < n) : (fsts g n)[told g n p]? = some (fst1 g p) := by
  rw [List.getElem?_eq_getElem (told_lt hp)]
  exact congrArg some (List.getElem_idxOf (told_lt hp))
theorem told_of {g : Nat → Nat} {n i q : Nat} (h : (fsts g n)[i]? = some q) : told g n q = i ∧ q < n ∧ fst1 g q = q := by
  have hm := fsts_mem.mp (List.mem_of_getElem? h)
  refine ⟨?_, hm⟩
  have a := told_get (g := g) hm.1
  rw [hm.2] at a
  have hi := (List.getElem?_eq_some_iff.mp h).1
  exact (List.getElem?_inj (told_lt hm.1) fsts_nodup).mp (a.trans h.symm)
/-- what the law's groups tell: the groups and marks that are right -/
theorem UF.good {n : Nat} {L : List Lk} {g m : Nat → Nat} (h : UF n L L.length g m) (hL : LOk n L) : Good n L (fun p => told g n p) (fun p => (m p + m (fst1 g p)) % 2) none := by
  have tn : ∀ p q, p < n → q < n → told g n p = told g n q → g p = g q := fun p q hp hq e => by
    have a := told_get (g := g) hp
    have b := told_get (g := g) hq
    rw [e, b] at a
    have e2 := Option.some.inj a
    rw [← (fst1_spec g p).2.1, ← (fst1_spec g q).2.1, e2]
  refine ⟨fun p => Nat.mod_lt _ (by decide), fun k hk => ?_, fun _ k hk => ?_, (fun r' e => nomatch e), fun p q hp hq e => h.con p q hp hq (tn p q hp hq e), fun p v hp hv => ?_, fun p hp hf => ?_⟩
  · unfold told
    rw [fst1_eq (h.sol k hk).1]
  · obtain ⟨s1, s2⟩ := h.sol k hk
    rw [fst1_eq s1]
    have := h.bit (lkAt L k).a
    have := h.bit (lkAt L k).b
    have : xx L k < 2 := hL.x k hk
    omega
  · have hl := told_lt (g := g) hp
    have hv2 : v < (fsts g n).length := by omega
    have e := List.getElem?_eq_getElem hv2
    obtain ⟨t1, t2, t3⟩ := told_of e
    refine ⟨_, ?_, t1⟩
    have a := told_get (g := g) hp
    rw [List.getElem?_eq_getElem hl] at a
    have up := up_get (fsts_up (g := g) (n := n)) hl hv
    rw [Option.some.inj a] at up
    exact Nat.lt_of_lt_of_le up (fst1_spec g p).1
  · have e : fst1 g p = p := by
      apply Classical.byContradiction
      intro c
      have s := fst1_spec g p
      refine hf (fst1 g p) (by omega) ?_
      unfold told
      rw [fst1_fst]
    rw [e]; omega
end M

set_option maxHeartbeats 1000000
namespace M
open PySem PySem.Spec L2
local macro_rules | `(tactic| simp_wf) => `(tactic| simp only [wCs, w_asg, w_par, w_aug, w_ex, w_ret, w_retN, w_ite, w_brk, w_cnt, w_pass, w_rais, e_v, e_int, e_bl, e_non, e_str, e_g, e_bin, e_neg, e_cmp, e_chain, e_and, e_or, e_not, e_ife, e_tup, e_lst, e_ix, e_sl, e_rev, e_fld, e_call, e_new, e_meth, e_blt, e_mth, e_isi, e_isiT, e_dK0, e_dT0, e_repr, e_ktup, e_lrng1, e_lrng2, e_lrev, e_trev, e_dix, e_dg1, e_dg2, e_dsd, e_dpop, e_din, wEs, wAndV, wOrV, wB, wAnd, wOr, wBs, wP, r_nm, r_tgT, r_tgQ, r_tgW, r_tgt, r_tgr, r_tgp, r_tgd, r_tgi, r_tgs, r_tgs0, wBin, wCmp,
  r_add_ii, r_add_ib, r_add_ss, r_add_tt, r_add_rr, r_sub_ii, r_mul_ii, r_mul_ri, r_mul_ti, r_div_ii, r_mod_ii, r_pow_ii, r_shl_ii, r_shr_ii, r_and_ii, r_xor_ii, r_int, r_is_n, r_is_b, r_tru_b, r_tru_i, r_tru_n, r_tru_t, r_tru_r, r_ix_t, r_ix_r, r_sl_t, r_sl_r, r_len_t, r_len_s, r_abs, r_min2, r_max2, r_int1, r_int1b, r_str1, r_list1, r_tuple1, r_tuple1t, r_tuple1p, r_len_p, r_sorted1t, r_ix_p, r_valD_p, r_ty_p, r_tindex, r_tyM_tindex, r_reverse, r_tyM_reverse, r_remove, r_tyM_remove, r_append, r_pop0, r_pop1, r_insert, r_extend, r_count, r_index, r_sum1, r_sorted1, r_tyM_pop1, r_tyM_insert, r_tyM_extend, r_tyM_count, r_tyM_index, r_fld, r_tgf, r_tyM_append, r_tyM_pop0, r_valD_t, r_valD_r, r_ty_n, r_ty_b, r_ty_i, r_ty_s, r_ty_t, r_is_non_int, r_is_non_bool, r_is_non_str, r_is_non_tuple, r_is_non_list, r_is_non_dict, r_is_bl_int, r_is_bl_bool, r_is_bl_str, r_is_bl_tuple, r_is_bl_list, r_is_bl_dict, r_is_int_int, r_is_int_bool, r_is_int_str, r_is_int_tuple, r_is_int_list, r_is_int_dict, r_is_str_int, r_is_str_bool, r_is_str_str, r_is_str_tuple, r_is_str_list, r_is_str_dict, r_is_ptup_int, r_is_ptup_bool, r_is_ptup_str, r_is_ptup_tuple, r_is_ptup_list, r_is_ptup_dict, r_is_tup_int, r_is_tup_bool, r_is_tup_str, r_is_tup_tuple, r_is_tup_list, r_is_tup_dict, isNon, r_W0, r_W1, r_T0, r_T1, r_T2, r_Q0, r_Q1, r_at0, r_at1, r_at2, r_at3, r_at4, r_at5, r_eq_ii, r_eq_bb,
  List.getElem?_cons_zero, List.getElem?_cons_succ, List.set_cons_zero, List.set_cons_succ, setAll, Option.some.injEq, Val.int.injEq, Val.bl.injEq, Val.tup.injEq, Val.ref.injEq, exists_eq_left', exists_eq_left, exists_eq_right, Bool.false_eq_true, if_true, if_false, List.isEmpty_nil, List.isEmpty_cons, true_and, and_true, ↓reduceIte, List.length_cons, List.length_nil, startL, List.map_cons, List.map_nil, Bool.not_true, Bool.not_false, Nat.reduceAdd, Nat.reduceSub, List.replicate, List.cons_append, List.nil_append, reduceCtorEq, false_and, exists_false, List.cons.injEq, Bool.false_xor, Bool.true_xor, wipeL, Int.reduceNeg, Int.cast_ofNat_Int, decide_true, decide_false, Int.reduceEq, decide_eq_true_eq, r_nd, r_sl0, r_sl1, r_sl2, r_sl3, r_sl4, r_sl5, r_sl6, r_sl7, r_sl8, r_sl9, r_sl10, r_sl11, r_sl12, r_sl13, r_sl14, r_sl15, r_sl16, r_sl17, r_sl18, r_sl19, r_sl20, r_sl21, r_sl22, r_sl23, r_sl24, decide_eq_false_iff_not, not_true_eq_false, not_false_eq_true, Int.not_lt, Int.not_le])
/-- numbers below 1000 -/
def Bd3 (ns : List Int) : Prop := ∀ n ∈ ns, 0 ≤ n ∧ n < 1000
theorem Bd3.nil : Bd3 [] := fun _ h => by cases h
theorem Bd3.snoc {ns : List Int} {i : Int} (h : Bd3 ns) (h0 : 0 ≤ i) (h1 : i < 1000) : Bd3 (ns ++ [i]) := fun n hn => by
  rcases List.mem_append.mp hn with q | q
  · exact h n q
  · simp only [List.mem_singleton] at q; subst q; exact ⟨h0, h1⟩
def Dk3 (S : Sto) (p : Addr) : Prop := ∃ ns, Bd3 ns ∧ S p = some (.lst (vI ns))
theorem Dk3.new {S : Sto} {p q : Addr} {o : MO} (h : Dk3 S p) (hq : S q = none) : Dk3 (S.upd q o) p := let ⟨ns, b, e⟩ := h; ⟨ns, b, Sto.old e hq⟩
theorem Dk3.oth {S : Sto} {p q : Addr} {o : MO} (h : Dk3 S p) (hq : p ≠ q) : Dk3 (S.upd q o) p := let ⟨ns, b, e⟩ := h; ⟨ns, b, Sto.upd_at e hq⟩
theorem Dk3.ne {S : Sto} {p q : Addr} (h : Dk3 S p) (hq : S q = none) : q ≠ p := let ⟨_, _, e⟩ := h; ne_nn e hq
theorem Dk3.le {S T : Sto} {p : Addr} (h : Dk3 S p) (l : S.le T) : Dk3 T p := let ⟨ns, b, e⟩ := h; ⟨ns, b, l _ _ e⟩
end M

set_option maxHeartbeats 1000000
namespace M
open PySem PySem.Spec L2
local macro_rules | `(tactic| simp_wf) => `(tactic| simp only [wCs, w_asg, w_par, w_aug, w_ex, w_ret, w_retN, w_ite, w_brk, w_cnt, w_pass, w_rais, e_v, e_int, e_bl, e_non, e_str, e_g, e_bin, e_neg, e_cmp, e_chain, e_and, e_or, e_not, e_ife, e_tup, e_lst, e_ix, e_sl, e_rev, e_fld, e_call, e_new, e_meth, e_blt, e_mth, e_isi, e_isiT, e_dK0, e_dT0, e_repr, e_ktup, e_lrng1, e_lrng2, e_lrev, e_trev, e_dix, e_dg1, e_dg2, e_dsd, e_dpop, e_din, wEs, wAndV, wOrV, wB, wAnd, wOr, wBs, wP, r_nm, r_tgT, r_tgQ, r_tgW, r_tgt, r_tgr, r_tgp, r_tgd, r_tgi, r_tgs, r_tgs0, wBin, wCmp,
  r_add_ii, r_add_ib, r_add_ss, r_add_tt, r_add_rr, r_sub_ii, r_mul_ii, r_mul_ri, r_mul_ti, r_div_ii, r_mod_ii, r_pow_ii, r_shl_ii, r_shr_ii, r_and_ii, r_xor_ii, r_int, r_is_n, r_is_b, r_tru_b, r_tru_i, r_tru_n, r_tru_t, r_tru_r, r_ix_t, r_ix_r, r_sl_t, r_sl_r, r_len_t, r_len_s, r_abs, r_min2, r_max2, r_int1, r_int1b, r_str1, r_list1, r_tuple1, r_tuple1t, r_tuple1p, r_len_p, r_sorted1t, r_ix_p, r_valD_p, r_ty_p, r_tindex, r_tyM_tindex, r_reverse, r_tyM_reverse, r_remove, r_tyM_remove, r_append, r_pop0, r_pop1, r_insert, r_extend, r_count, r_index, r_sum1, r_sorted1, r_tyM_pop1, r_tyM_insert, r_tyM_extend, r_tyM_count, r_tyM_index, r_fld, r_tgf, r_tyM_append, r_tyM_pop0, r_valD_t, r_valD_r, r_ty_n, r_ty_b, r_ty_i, r_ty_s, r_ty_t, r_is_non_int, r_is_non_bool, r_is_non_str, r_is_non_tuple, r_is_non_list, r_is_non_dict, r_is_bl_int, r_is_bl_bool, r_is_bl_str, r_is_bl_tuple, r_is_bl_list, r_is_bl_dict, r_is_int_int, r_is_int_bool, r_is_int_str, r_is_int_tuple, r_is_int_list, r_is_int_dict, r_is_str_int, r_is_str_bool, r_is_str_str, r_is_str_tuple, r_is_str_list, r_is_str_dict, r_is_ptup_int, r_is_ptup_bool, r_is_ptup_str, r_is_ptup_tuple, r_is_ptup_list, r_is_ptup_dict, r_is_tup_int, r_is_tup_bool, r_is_tup_str, r_is_tup_tuple, r_is_tup_list, r_is_tup_dict, isNon, r_W0, r_W1, r_T0, r_T1, r_T2, r_Q0, r_Q1, r_at0, r_at1, r_at2, r_at3, r_at4, r_at5, r_eq_ii, r_eq_bb,
  List.getElem?_cons_zero, List.getElem?_cons_succ, List.set_cons_zero, List.set_cons_succ, setAll, Option.some.injEq, Val.int.injEq, Val.bl.injEq, Val.tup.injEq, Val.ref.injEq, exists_eq_left', exists_eq_left, exists_eq_right, Bool.false_eq_true, if_true, if_false, List.isEmpty_nil, List.isEmpty_cons, true_and, and_true, ↓reduceIte, List.length_cons, List.length_nil, startL, List.map_cons, List.map_nil, Bool.not_true, Bool.not_false, Nat.reduceAdd, Nat.reduceSub, List.replicate, List.cons_append, List.nil_append, reduceCtorEq, false_and, exists_false, List.cons.injEq, Bool.false_xor, Bool.true_xor, wipeL, Int.reduceNeg, Int.cast_ofNat_Int, decide_true, decide_false, Int.reduceEq, decide_eq_true_eq, r_nd, r_sl0, r_sl1, r_sl2, r_sl3, r_sl4, r_sl5, r_sl6, r_sl7, r_sl8, r_sl9, r_sl10, r_sl11, r_sl12, r_sl13, r_sl14, r_sl15, r_sl16, r_sl17, r_sl18, r_sl19, r_sl20, r_sl21, r_sl22, r_sl23, r_sl24, decide_eq_false_iff_not, not_true_eq_false, not_false_eq_true, Int.not_lt, Int.not_le])
end M

set_option maxHeartbeats 1000000
namespace M
open PySem PySem.Spec L2
local macro_rules | `(tactic| simp_wf) => `(tactic| simp only [wCs, w_asg, w_par, w_aug, w_ex, w_ret, w_retN, w_ite, w_brk, w_cnt, w_pass, w_rais, e_v, e_int, e_bl, e_non, e_str, e_g, e_bin, e_neg, e_cmp, e_chain, e_and, e_or, e_not, e_ife, e_tup, e_lst, e_ix, e_sl, e_rev, e_fld, e_call, e_new, e_meth, e_blt, e_mth, e_isi, e_isiT, e_dK0, e_dT0, e_repr, e_ktup, e_lrng1, e_lrng2, e_lrev, e_trev, e_dix, e_dg1, e_dg2, e_dsd, e_dpop, e_din, wEs, wAndV, wOrV, wB, wAnd, wOr, wBs, wP, r_nm, r_tgT, r_tgQ, r_tgW, r_tgt, r_tgr, r_tgp, r_tgd, r_tgi, r_tgs, r_tgs0, wBin, wCmp,
  r_add_ii, r_add_ib, r_add_ss, r_add_tt, r_add_rr, r_sub_ii, r_mul_ii, r_mul_ri, r_mul_ti, r_div_ii, r_mod_ii, r_pow_ii, r_shl_ii, r_shr_ii, r_and_ii, r_xor_ii, r_int, r_is_n, r_is_b, r_tru_b, r_tru_i, r_tru_n, r_tru_t, r_tru_r, r_ix_t, r_ix_r, r_sl_t, r_sl_r, r_len_t, r_len_s, r_abs, r_min2, r_max2, r_int1, r_int1b, r_str1, r_list1, r_tuple1, r_tuple1t, r_tuple1p, r_len_p, r_sorted1t, r_ix_p, r_valD_p, r_ty_p, r_tindex, r_tyM_tindex, r_reverse, r_tyM_reverse, r_remove, r_tyM_remove, r_append, r_pop0, r_pop1, r_insert, r_extend, r_count, r_index, r_sum1, r_sorted1, r_tyM_pop1, r_tyM_insert, r_tyM_extend, r_tyM_count, r_tyM_index, r_fld, r_tgf, r_tyM_append, r_tyM_pop0, r_valD_t, r_valD_r, r_ty_n, r_ty_b, r_ty_i, r_ty_s, r_ty_t, r_is_non_int, r_is_non_bool, r_is_non_str, r_is_non_tuple, r_is_non_list, r_is_non_dict, r_is_bl_int, r_is_bl_bool, r_is_bl_str, r_is_bl_tuple, r_is_bl_list, r_is_bl_dict, r_is_int_int, r_is_int_bool, r_is_int_str, r_is_int_tuple, r_is_int_list, r_is_int_dict, r_is_str_int, r_is_str_bool, r_is_str_str, r_is_str_tuple, r_is_str_list, r_is_str_dict, r_is_ptup_int, r_is_ptup_bool, r_is_ptup_str, r_is_ptup_tuple, r_is_ptup_list, r_is_ptup_dict, r_is_tup_int, r_is_tup_bool, r_is_tup_str, r_is_tup_tuple, r_is_tup_list, r_is_tup_dict, isNon, r_W0, r_W1, r_T0, r_T1, r_T2, r_Q0, r_Q1, r_at0, r_at1, r_at2, r_at3, r_at4, r_at5, r_eq_ii, r_eq_bb,
  List.getElem?_cons_zero, List.getElem?_cons_succ, List.set_cons_zero, List.set_cons_succ, setAll, Option.some.injEq, Val.int.injEq, Val.bl.injEq, Val.tup.injEq, Val.ref.injEq, exists_eq_left', exists_eq_left, exists_eq_right, Bool.false_eq_true, if_true, if_false, List.isEmpty_nil, List.isEmpty_cons, true_and, and_true, ↓reduceIte, List.length_cons, List.length_nil, startL, List.map_cons, List.map_nil, Bool.not_true, Bool.not_false, Nat.reduceAdd, Nat.reduceSub, List.replicate, List.cons_append, List.nil_append, reduceCtorEq, false_and, exists_false, List.cons.injEq, Bool.false_xor, Bool.true_xor, wipeL, Int.reduceNeg, Int.cast_ofNat_Int, decide_true, decide_false, Int.reduceEq, decide_eq_true_eq, r_nd, r_sl0, r_sl1, r_sl2, r_sl3, r_sl4, r_sl5, r_sl6, r_sl7, r_sl8, r_sl9, r_sl10, r_sl11, r_sl12, r_sl13, r_sl14, r_sl15, r_sl16, r_sl17, r_sl18, r_sl19, r_sl20, r_sl21, r_sl22, r_sl23, r_sl24, decide_eq_false_iff_not, not_true_eq_false, not_false_eq_true, Int.not_lt, Int.not_le])
/-- data that may hold lists -/
def Dd (S : Sto) (v : Val) : Prop := ∃ d, Dv S v d ∧ SeqAt.shaped d = true
theorem DvAll.len {S : Sto} : ∀ {vs : List Val} {ds : List PyData}, DvAll S vs ds → vs.length = ds.length
  | [], _, .nil => rfl
  | _ :: vs, _, .cons _ h => by rw [List.length_cons, List.length_cons, DvAll.len h]
/-- by lists of groups and marks -/
structure GM (S : Sto) (W : Web) (a b : Addr) (g m : Nat → Nat) : Prop where
  ha : S a = some (.lst (vI (rN W.n g)))
  hb : S b = some (.lst (vI (rN W.n m)))
  lt : ∀ p, p < W.n → g p < W.n
theorem GM.le {S T : Sto} {W : Web} {a b : Addr} {g m : Nat → Nat} (h : GM S W a b g m) (l : S.le T) : GM T W a b g m := ⟨l _ _ h.ha, l _ _ h.hb, h.lt⟩
/-- what a thing of two parts may be: its ring data, its share small -/
def RwOk (S : Sto) (v : Val) : Prop := ∀ a b, v = .tup [a, b] → Dd S a ∧ ∀ i j, b = .tup [.int i, .int j] → Sz 9000 j
mutual
theorem Dv.le {S T : Sto} (l : S.le T) : ∀ {v : Val} {d : PyData}, Dv S v d → Dv T v d
  | _, _, .non => .non
  | _, _, .bl b => .bl b
  | _, _, .int i => .int i
  | _, _, .str x => .str x
  | _, _, .tup h => .tup (DvAll.le l h)
  | _, _, .lst h h2 => .lst (rd_le h l) (DvAll.le l h2)
  | _, _, .ptup h => .ptup (DvAll.le l h)
theorem DvAll.le {S T : Sto} (l : S.le T) : ∀ {vs : List Val} {ds : List PyData}, DvAll S vs ds → DvAll T vs ds
  | _, _, .nil => .nil
  | _, _, .cons h h2 => .cons (Dv.le l h) (DvAll.le l h2)
end
theorem Dd.le {S T : Sto} {v : Val} (h : Dd S v) (l : S.le T) : Dd T v := let ⟨d, a, b⟩ := h; ⟨d, Dv.le l a, b⟩
theorem RwOk.le {S T : Sto} {v : Val} (h : RwOk S v) (l : S.le T) : RwOk T v := fun a b e => ⟨(h a b e).1.le l, (h a b e).2⟩
end M

set_option maxHeartbeats 1000000
namespace M
open PySem PySem.Spec L2
local macro_rules | `(tactic| simp_wf) => `(tactic| simp only [wCs, w_asg, w_par, w_aug, w_ex, w_ret, w_retN, w_ite, w_brk, w_cnt, w_pass, w_rais, e_v, e_int, e_bl, e_non, e_str, e_g, e_bin, e_neg, e_cmp, e_chain, e_and, e_or, e_not, e_ife, e_tup, e_lst, e_ix, e_sl, e_rev, e_fld, e_call, e_new, e_meth, e_blt, e_mth, e_isi, e_isiT, e_dK0, e_dT0, e_repr, e_ktup, e_lrng1, e_lrng2, e_lrev, e_trev, e_dix, e_dg1, e_dg2, e_dsd, e_dpop, e_din, wEs, wAndV, wOrV, wB, wAnd, wOr, wBs, wP, r_nm, r_tgT, r_tgQ, r_tgW, r_tgt, r_tgr, r_tgp, r_tgd, r_tgi, r_tgs, r_tgs0, wBin, wCmp,
  r_add_ii, r_add_ib, r_add_ss, r_add_tt, r_add_rr, r_sub_ii, r_mul_ii, r_mul_ri, r_mul_ti, r_div_ii, r_mod_ii, r_pow_ii, r_shl_ii, r_shr_ii, r_and_ii, r_xor_ii, r_int, r_is_n, r_is_b, r_tru_b, r_tru_i, r_tru_n, r_tru_t, r_tru_r, r_ix_t, r_ix_r, r_sl_t, r_sl_r, r_len_t, r_len_s, r_abs, r_min2, r_max2, r_int1, r_int1b, r_str1, r_list1, r_tuple1, r_tuple1t, r_tuple1p, r_len_p, r_sorted1t, r_ix_p, r_valD_p, r_ty_p, r_tindex, r_tyM_tindex, r_reverse, r_tyM_reverse, r_remove, r_tyM_remove, r_append, r_pop0, r_pop1, r_insert, r_extend, r_count, r_index, r_sum1, r_sorted1, r_tyM_pop1, r_tyM_insert, r_tyM_extend, r_tyM_count, r_tyM_index, r_fld, r_tgf, r_tyM_append, r_tyM_pop0, r_valD_t, r_valD_r, r_ty_n, r_ty_b, r_ty_i, r_ty_s, r_ty_t, r_is_non_int, r_is_non_bool, r_is_non_str, r_is_non_tuple, r_is_non_list, r_is_non_dict, r_is_bl_int, r_is_bl_bool, r_is_bl_str, r_is_bl_tuple, r_is_bl_list, r_is_bl_dict, r_is_int_int, r_is_int_bool, r_is_int_str, r_is_int_tuple, r_is_int_list, r_is_int_dict, r_is_str_int, r_is_str_bool, r_is_str_str, r_is_str_tuple, r_is_str_list, r_is_str_dict, r_is_ptup_int, r_is_ptup_bool, r_is_ptup_str, r_is_ptup_tuple, r_is_ptup_list, r_is_ptup_dict, r_is_tup_int, r_is_tup_bool, r_is_tup_str, r_is_tup_tuple, r_is_tup_list, r_is_tup_dict, isNon, r_W0, r_W1, r_T0, r_T1, r_T2, r_Q0, r_Q1, r_at0, r_at1, r_at2, r_at3, r_at4, r_at5, r_eq_ii, r_eq_bb,
  List.getElem?_cons_zero, List.getElem?_cons_succ, List.set_cons_zero, List.set_cons_succ, setAll, Option.some.injEq, Val.int.injEq, Val.bl.injEq, Val.tup.injEq, Val.ref.injEq, exists_eq_left', exists_eq_left, exists_eq_right, Bool.false_eq_true, if_true, if_false, List.isEmpty_nil, List.isEmpty_cons, true_and, and_true, ↓reduceIte, List.length_cons, List.length_nil, startL, List.map_cons, List.map_nil, Bool.not_true, Bool.not_false, Nat.reduceAdd, Nat.reduceSub, List.replicate, List.cons_append, List.nil_append, reduceCtorEq, false_and, exists_false, List.cons.injEq, Bool.false_xor, Bool.true_xor, wipeL, Int.reduceNeg, Int.cast_ofNat_Int, decide_true, decide_false, Int.reduceEq, decide_eq_true_eq, r_nd, r_sl0, r_sl1, r_sl2, r_sl3, r_sl4, r_sl5, r_sl6, r_sl7, r_sl8, r_sl9, r_sl10, r_sl11, r_sl12, r_sl13, r_sl14, r_sl15, r_sl16, r_sl17, r_sl18, r_sl19, r_sl20, r_sl21, r_sl22, r_sl23, r_sl24, decide_eq_false_iff_not, not_true_eq_false, not_false_eq_true, Int.not_lt, Int.not_le])
def PSzP (W : Web) (gs ms : List Int) (v : Val) : Prop := ∀ x zs j rs, v = .tup [x, .tup zs] → rowsOf W gs ms (zs.take j) = some rs → RSz W rs
def RwsOk (S : Sto) (v : Val) : Prop := ∀ x zs, v = .tup [x, .tup zs] → ∀ z ∈ zs, RwOk S z
theorem RwsOk.le {S T : Sto} {v : Val} (h : RwsOk S v) (l : S.le T) : RwsOk T v := fun x zs e z hz => (h x zs e z hz).le l
theorem PSzP.psz {W : Web} {gs ms : List Int} {v : Val} (h : PSzP W gs ms v) : PSz W gs ms v := fun a b e zs rs e2 e3 => by
  subst e2
  exact h a zs zs.length rs e (by rw [List.take_length]; exact e3)
def lf (W : Web) (k : Nat) : Rat := qabs (wAt W.ts k)
theorem lf_sz {W : Web} (ok : W.Ok) (k : Nat) : SzQ 30 10 (lf W k) := by
  unfold lf wAt
  cases e : W.ts[k]? with
  | none =>
    simp only [Option.map_none, Option.getD_none]
    exact (SzQ.zero (by decide) : SzQ 30 10 0).abs
  | some t => exact ((ok.wt t (mem_of_get e)).sz).abs
end M

set_option maxHeartbeats 1000000
namespace M
open PySem PySem.Spec L2
local macro_rules | `(tactic| simp_wf) => `(tactic| simp only [wCs, w_asg, w_par, w_aug, w_ex, w_ret, w_retN, w_ite, w_brk, w_cnt, w_pass, w_rais, e_v, e_int, e_bl, e_non, e_str, e_g, e_bin, e_neg, e_cmp, e_chain, e_and, e_or, e_not, e_ife, e_tup, e_lst, e_ix, e_sl, e_rev, e_fld, e_call, e_new, e_meth, e_blt, e_mth, e_isi, e_isiT, e_dK0, e_dT0, e_repr, e_ktup, e_lrng1, e_lrng2, e_lrev, e_trev, e_dix, e_dg1, e_dg2, e_dsd, e_dpop, e_din, wEs, wAndV, wOrV, wB, wAnd, wOr, wBs, wP, r_nm, r_tgT, r_tgQ, r_tgW, r_tgt, r_tgr, r_tgp, r_tgd, r_tgi, r_tgs, r_tgs0, wBin, wCmp,
  r_add_ii, r_add_ib, r_add_ss, r_add_tt, r_add_rr, r_sub_ii, r_mul_ii, r_mul_ri, r_mul_ti, r_div_ii, r_mod_ii, r_pow_ii, r_shl_ii, r_shr_ii, r_and_ii, r_xor_ii, r_int, r_is_n, r_is_b, r_tru_b, r_tru_i, r_tru_n, r_tru_t, r_tru_r, r_ix_t, r_ix_r, r_sl_t, r_sl_r, r_len_t, r_len_s, r_abs, r_min2, r_max2, r_int1, r_int1b, r_str1, r_list1, r_tuple1, r_tuple1t, r_tuple1p, r_len_p, r_sorted1t, r_ix_p, r_valD_p, r_ty_p, r_tindex, r_tyM_tindex, r_reverse, r_tyM_reverse, r_remove, r_tyM_remove, r_append, r_pop0, r_pop1, r_insert, r_extend, r_count, r_index, r_sum1, r_sorted1, r_tyM_pop1, r_tyM_insert, r_tyM_extend, r_tyM_count, r_tyM_index, r_fld, r_tgf, r_tyM_append, r_tyM_pop0, r_valD_t, r_valD_r, r_ty_n, r_ty_b, r_ty_i, r_ty_s, r_ty_t, r_is_non_int, r_is_non_bool, r_is_non_str, r_is_non_tuple, r_is_non_list, r_is_non_dict, r_is_bl_int, r_is_bl_bool, r_is_bl_str, r_is_bl_tuple, r_is_bl_list, r_is_bl_dict, r_is_int_int, r_is_int_bool, r_is_int_str, r_is_int_tuple, r_is_int_list, r_is_int_dict, r_is_str_int, r_is_str_bool, r_is_str_str, r_is_str_tuple, r_is_str_list, r_is_str_dict, r_is_ptup_int, r_is_ptup_bool, r_is_ptup_str, r_is_ptup_tuple, r_is_ptup_list, r_is_ptup_dict, r_is_tup_int, r_is_tup_bool, r_is_tup_str, r_is_tup_tuple, r_is_tup_list, r_is_tup_dict, isNon, r_W0, r_W1, r_T0, r_T1, r_T2, r_Q0, r_Q1, r_at0, r_at1, r_at2, r_at3, r_at4, r_at5, r_eq_ii, r_eq_bb,
  List.getElem?_cons_zero, List.getElem?_cons_succ, List.set_cons_zero, List.set_cons_succ, setAll, Option.some.injEq, Val.int.injEq, Val.bl.injEq, Val.tup.injEq, Val.ref.injEq, exists_eq_left', exists_eq_left, exists_eq_right, Bool.false_eq_true, if_true, if_false, List.isEmpty_nil, List.isEmpty_cons, true_and, and_true, ↓reduceIte, List.length_cons, List.length_nil, startL, List.map_cons, List.map_nil, Bool.not_true, Bool.not_false, Nat.reduceAdd, Nat.reduceSub, List.replicate, List.cons_append, List.nil_append, reduceCtorEq, false_and, exists_false, List.cons.injEq, Bool.false_xor, Bool.true_xor, wipeL, Int.reduceNeg, Int.cast_ofNat_Int, decide_true, decide_false, Int.reduceEq, decide_eq_true_eq, r_nd, r_sl0, r_sl1, r_sl2, r_sl3, r_sl4, r_sl5, r_sl6, r_sl7, r_sl8, r_sl9, r_sl10, r_sl11, r_sl12, r_sl13, r_sl14, r_sl15, r_sl16, r_sl17, r_sl18, r_sl19, r_sl20, r_sl21, r_sl22, r_sl23, r_sl24, decide_eq_false_iff_not, not_true_eq_false, not_false_eq_true, Int.not_lt, Int.not_le])
/-- rings found -/
def RgOk (W : Web) (g m : Nat → Nat) (ns : List Int) : Prop := ns ≠ [] ∧ (∀ n ∈ ns, 0 ≤ n ∧ n < W.ts.length) ∧ ns.Pairwise (· < ·) ∧ evB (gEnds W (rN W.n g) ns) = true ∧ (ns.filter (oddAt W (rN W.n m))).length % 2 = 1
theorem RgOk.odd {W : Web} {g m : Nat → Nat} {ns : List Int} (h : RgOk W g m ns) : oddRing W (rN W.n g) (rN W.n m) (.tup (vI ns)) = some ns := by
  have q : isNums W.ts.length (.tup (vI ns)) = some ns := by rw [isNums_vI, if_pos ⟨h.1, h.2.1, h.2.2.1⟩]
  unfold oddRing
  rw [q]
  dsimp only
  rw [if_pos ⟨h.2.2.2.1, h.2.2.2.2⟩]
structure SubsD (j : Nat) (R : List (List Int)) : Prop where
  len : R.length = 2 ^ j
  hd : ∃ R', R = [] :: R' ∧ ∀ ns ∈ R', ns ≠ []
  bd : ∀ ns ∈ R, ∀ n ∈ ns, 0 ≤ n ∧ n < (j : Int)
  up : ∀ ns ∈ R, ns.Pairwise (· < ·)
theorem SubsD.start : SubsD 0 [[]] := by
  refine ⟨rfl, ⟨[], rfl, fun ns h => by cases h⟩, fun ns h n hn => ?_, fun ns h => ?_⟩
  · simp only [List.mem_singleton] at h; subst h; cases hn
  · simp only [List.mem_singleton] at h; subst h; exact .nil
theorem SubsD.step {j : Nat} {R : List (List Int)} (h : SubsD j R) : SubsD (j + 1) (R ++ R.map fun ns => ns ++ [(j : Int)]) := by
  obtain ⟨R', e, ne⟩ := h.hd
  refine ⟨by rw [List.length_append, List.length_map, h.len, Nat.pow_succ]; omega, ⟨R' ++ R.map fun ns => ns ++ [(j : Int)], by rw [e]; rfl, fun ns hns => ?_⟩, fun ns hns n hn => ?_, fun ns hns => ?_⟩
  · rcases List.mem_append.mp hns with h1 | h1
    · exact ne ns h1
    · obtain ⟨ms, _, rfl⟩ := List.mem_map.mp h1
      simp
  · rcases List.mem_append.mp hns with h1 | h1
    · have := h.bd ns h1 n hn; omega
    · obtain ⟨ms, hms, rfl⟩ := List.mem_map.mp h1
      rcases List.mem_append.mp hn with h2 | h2
      · have := h.bd ms hms n h2; omega
      · simp only [List.mem_singleton] at h2; omega
  · rcases List.mem_append.mp hns with h1 | h1
    · exact h.up ns h1
    · obtain ⟨ms, hms, rfl⟩ := List.mem_map.mp h1
      rw [List.pairwise_append]
      refine ⟨h.up ms hms, List.pairwise_singleton _ _, fun a ha b hb => ?_⟩
      simp only [List.mem_singleton] at hb; subst hb
      exact (h.bd ms hms a ha).2
end M

set_option maxHeartbeats 1000000
namespace M
open PySem PySem.Spec L2
local macro_rules | `(tactic| simp_wf) => `(tactic| simp only [wCs, w_asg, w_par, w_aug, w_ex, w_ret, w_retN, w_ite, w_brk, w_cnt, w_pass, w_rais, e_v, e_int, e_bl, e_non, e_str, e_g, e_bin, e_neg, e_cmp, e_chain, e_and, e_or, e_not, e_ife, e_tup, e_lst, e_ix, e_sl, e_rev, e_fld, e_call, e_new, e_meth, e_blt, e_mth, e_isi, e_isiT, e_dK0, e_dT0, e_repr, e_ktup, e_lrng1, e_lrng2, e_lrev, e_trev, e_dix, e_dg1, e_dg2, e_dsd, e_dpop, e_din, wEs, wAndV, wOrV, wB, wAnd, wOr, wBs, wP, r_nm, r_tgT, r_tgQ, r_tgW, r_tgt, r_tgr, r_tgp, r_tgd, r_tgi, r_tgs, r_tgs0, wBin, wCmp,
  r_add_ii, r_add_ib, r_add_ss, r_add_tt, r_add_rr, r_sub_ii, r_mul_ii, r_mul_ri, r_mul_ti, r_div_ii, r_mod_ii, r_pow_ii, r_shl_ii, r_shr_ii, r_and_ii, r_xor_ii, r_int, r_is_n, r_is_b, r_tru_b, r_tru_i, r_tru_n, r_tru_t, r_tru_r, r_ix_t, r_ix_r, r_sl_t, r_sl_r, r_len_t, r_len_s, r_abs, r_min2, r_max2, r_int1, r_int1b, r_str1, r_list1, r_tuple1, r_tuple1t, r_tuple1p, r_len_p, r_sorted1t, r_ix_p, r_valD_p, r_ty_p, r_tindex, r_tyM_tindex, r_reverse, r_tyM_reverse, r_remove, r_tyM_remove, r_append, r_pop0, r_pop1, r_insert, r_extend, r_count, r_index, r_sum1, r_sorted1, r_tyM_pop1, r_tyM_insert, r_tyM_extend, r_tyM_count, r_tyM_index, r_fld, r_tgf, r_tyM_append, r_tyM_pop0, r_valD_t, r_valD_r, r_ty_n, r_ty_b, r_ty_i, r_ty_s, r_ty_t, r_is_non_int, r_is_non_bool, r_is_non_str, r_is_non_tuple, r_is_non_list, r_is_non_dict, r_is_bl_int, r_is_bl_bool, r_is_bl_str, r_is_bl_tuple, r_is_bl_list, r_is_bl_dict, r_is_int_int, r_is_int_bool, r_is_int_str, r_is_int_tuple, r_is_int_list, r_is_int_dict, r_is_str_int, r_is_str_bool, r_is_str_str, r_is_str_tuple, r_is_str_list, r_is_str_dict, r_is_ptup_int, r_is_ptup_bool, r_is_ptup_str, r_is_ptup_tuple, r_is_ptup_list, r_is_ptup_dict, r_is_tup_int, r_is_tup_bool, r_is_tup_str, r_is_tup_tuple, r_is_tup_list, r_is_tup_dict, isNon, r_W0, r_W1, r_T0, r_T1, r_T2, r_Q0, r_Q1, r_at0, r_at1, r_at2, r_at3, r_at4, r_at5, r_eq_ii, r_eq_bb,
  List.getElem?_cons_zero, List.getElem?_cons_succ, List.set_cons_zero, List.set_cons_succ, setAll, Option.some.injEq, Val.int.injEq, Val.bl.injEq, Val.tup.injEq, Val.ref.injEq, exists_eq_left', exists_eq_left, exists_eq_right, Bool.false_eq_true, if_true, if_false, List.isEmpty_nil, List.isEmpty_cons, true_and, and_true, ↓reduceIte, List.length_cons, List.length_nil, startL, List.map_cons, List.map_nil, Bool.not_true, Bool.not_false, Nat.reduceAdd, Nat.reduceSub, List.replicate, List.cons_append, List.nil_append, reduceCtorEq, false_and, exists_false, List.cons.injEq, Bool.false_xor, Bool.true_xor, wipeL, Int.reduceNeg, Int.cast_ofNat_Int, decide_true, decide_false, Int.reduceEq, decide_eq_true_eq, r_nd, r_sl0, r_sl1, r_sl2, r_sl3, r_sl4, r_sl5, r_sl6, r_sl7, r_sl8, r_sl9, r_sl10, r_sl11, r_sl12, r_sl13, r_sl14, r_sl15, r_sl16, r_sl17, r_sl18, r_sl19, r_sl20, r_sl21, r_sl22, r_sl23, r_sl24, decide_eq_false_iff_not, not_true_eq_false, not_false_eq_true, Int.not_lt, Int.not_le])
def nB : Nat → Nat
  | 0 => 30
  | j + 1 => nB j + (10 * 2 ^ j + 2 * (2 ^ j - 1)) + 3
def dB (j : Nat) : Nat := 10 * 2 ^ j + 2 * (2 ^ j - 1)
theorem dB_succ (j : Nat) : dB (j + 1) = 2 * dB j + 2 := by
  unfold dB
  have : 1 ≤ 2 ^ j := Nat.one_le_two_pow
  rw [Nat.pow_succ]; omega
theorem nB_succ (j : Nat) : nB (j + 1) = nB j + dB j + 3 := rfl
theorem nB4 : ∀ j, j ≤ 4 → nB j ≤ 240 ∧ dB j ≤ 200 := by decide
/-- what is left of a tie -/
def lq (W : Web) (rs : List (List Int × Rat)) (k : Nat) : Rat := lf W k - asked rs k
structure RsD (W : Web) (R : List (List Int)) (j : Nat) (rs : List (List Int × Rat)) : Prop where
  len : rs.length ≤ j
  ok : ∀ r ∈ rs, r.1 ∈ R ∧ 0 < r.2 ∧ SzQ (nB j) (dB j) r.2
  sz : ∀ k, SzQ (nB j) (dB j) (lq W rs k)
  nn : ∀ k, 0 ≤ lq W rs k
theorem SzQ.up {j : Nat} {r : Rat} (h : SzQ (nB j) (dB j) r) : SzQ (nB (j + 1)) (dB (j + 1)) r := h.mono (by rw [nB_succ]; omega) (by rw [dB_succ]; omega)
theorem qabs_nn (r : Rat) : 0 ≤ qabs r := by unfold qabs; split <;> grind
theorem RsD.start {W : Web} (ok : W.Ok) {R : List (List Int)} : RsD W R 0 [] := by
  have e : ∀ k, lq W [] k = lf W k := fun k => by
    unfold lq
    have : asked [] k = 0 := rfl
    rw [this]; grind
  refine ⟨by simp, (fun r h => by cases h), (fun k => by rw [e]; exact lf_sz ok k), fun k => by rw [e]; exact qabs_nn _⟩
theorem RsD.up {W : Web} {R : List (List Int)} {j : Nat} {rs : List (List Int × Rat)} (h : RsD W R j rs) : RsD W R (j + 1) rs :=
  ⟨Nat.le_succ_of_le h.len, fun r hr => ⟨(h.ok r hr).1, (h.ok r hr).2.1, (h.ok r hr).2.2.up⟩, fun k => (h.sz k).up, h.nn⟩
theorem asked_snoc {rs : List (List Int × Rat)} {r : List Int × Rat} (k : Nat) : asked (rs ++ [r]) k = if isIn r.1 (k : Int) = true then asked rs k + r.2 else asked rs k := by
  unfold asked
  rw [filter_snoc]
  split
  · rw [List.map_append, List.map_cons, List.map_nil, qs_snoc]
  · rw [List.append_nil]
theorem lq_snoc {W : Web} {rs : List (List Int × Rat)} {r : List Int × Rat} (k : Nat) : lq W (rs ++ [r]) k = if isIn r.1 (k : Int) = true then lq W rs k - r.2 else lq W rs k := by
  unfold lq
  rw [asked_snoc]
  split <;> grind
theorem RsD.step {W : Web} {R : List (List Int)} {j : Nat} {rs : List (List Int × Rat)} (h : RsD W R j rs) {ns : List Int} {s : Rat} (hn : ns ∈ R) (h0 : 0 < s) (sz : SzQ (nB j + 2) (dB j + 2) s) (hs : ∀ k : Nat, (k : Int) ∈ ns → s ≤ lq W rs k) : RsD W R (j + 1) (rs ++ [(ns, s)]) := by
  refine ⟨by rw [List.length_append, List.length_singleton]; have := h.len; omega, fun r hr => ?_, fun k => ?_, fun k => ?_⟩
  · rcases List.mem_append.mp hr with hr | hr
    · exact h.up.ok r hr
    · simp only [List.mem_singleton] at hr; subst hr
      exact ⟨hn, h0, sz.mono (by rw [nB_succ]; omega) (by rw [dB_succ]; omega)⟩
  · rw [lq_snoc]
    split
    · exact ((h.sz k).sub sz).mono (by rw [nB_succ]; omega) (by rw [dB_succ]; omega)
    · exact (h.sz k).up
  · rw [lq_snoc]
    split
    · rename_i c
      have := hs k (isIn_iff.mp c)
      dsimp only; grind
    · exact h.nn k
end M

set_option maxHeartbeats 1000000
namespace M
open PySem PySem.Spec L2
local macro_rules | `(tactic| simp_wf) => `(tactic| simp only [wCs, w_asg, w_par, w_aug, w_ex, w_ret, w_retN, w_ite, w_brk, w_cnt, w_pass, w_rais, e_v, e_int, e_bl, e_non, e_str, e_g, e_bin, e_neg, e_cmp, e_chain, e_and, e_or, e_not, e_ife, e_tup, e_lst, e_ix, e_sl, e_rev, e_fld, e_call, e_new, e_meth, e_blt, e_mth, e_isi, e_isiT, e_dK0, e_dT0, e_dT1, e_revT, e_repr, e_ktup, e_lrng1, e_lrng2, e_lrev, e_trev, e_dix, e_dg1, e_dg2, e_dsd, e_dpop, e_din, wEs, wAndV, wOrV, wB, wAnd, wOr, wBs, wP, r_nm, r_tgT, r_tgQ, r_tgW, r_tgt, r_tgr, r_tgp, r_tgd, r_tgi, r_tgs, r_tgs0, wBin, wCmp,
  r_add_ii, r_add_ib, r_add_ss, r_add_tt, r_add_rr, r_sub_ii, r_mul_ii, r_mul_ri, r_mul_ti, r_div_ii, r_mod_ii, r_pow_ii, r_shl_ii, r_shr_ii, r_and_ii, r_xor_ii, r_int, r_is_n, r_is_b, r_tru_b, r_tru_i, r_tru_n, r_tru_t, r_tru_r, r_ix_t, r_ix_r, r_sl_t, r_sl_r, r_len_t, r_len_s, r_abs, r_min2, r_max2, r_int1, r_int1b, r_bool1, r_str1, r_list1, r_tuple1, r_tuple1t, r_tuple1p, r_len_p, r_sorted1t, r_ix_p, r_valD_p, r_ty_p, r_tindex, r_tyM_tindex, r_reverse, r_tyM_reverse, r_remove, r_tyM_remove, r_append, r_pop0, r_pop1, r_insert, r_extend, r_count, r_index, r_sum1, r_sorted1, r_tyM_pop1, r_tyM_insert, r_tyM_extend, r_tyM_count, r_tyM_index, r_fld, r_tgf, r_tyM_append, r_tyM_pop0, r_valD_t, r_valD_r, r_ty_n, r_ty_b, r_ty_i, r_ty_s, r_ty_t, r_is_non_int, r_is_non_bool, r_is_non_str, r_is_non_tuple, r_is_non_list, r_is_non_dict, r_is_bl_int, r_is_bl_bool, r_is_bl_str, r_is_bl_tuple, r_is_bl_list, r_is_bl_dict, r_is_int_int, r_is_int_bool, r_is_int_str, r_is_int_tuple, r_is_int_list, r_is_int_dict, r_is_str_int, r_is_str_bool, r_is_str_str, r_is_str_tuple, r_is_str_list, r_is_str_dict, r_is_ptup_int, r_is_ptup_bool, r_is_ptup_str, r_is_ptup_tuple, r_is_ptup_list, r_is_ptup_dict, r_is_tup_int, r_is_tup_bool, r_is_tup_str, r_is_tup_tuple, r_is_tup_list, r_is_tup_dict, isNon, r_W0, r_W1, r_T0, r_T1, r_T2, r_Q0, r_Q1, r_at0, r_at1, r_at2, r_at3, r_at4, r_at5, r_eq_ii, r_eq_bb,
  List.getElem?_cons_zero, List.getElem?_cons_succ, List.set_cons_zero, List.set_cons_succ, setAll, Option.some.injEq, Val.int.injEq, Val.bl.injEq, Val.tup.injEq, Val.ref.injEq, exists_eq_left', exists_eq_left, exists_eq_right, Bool.false_eq_true, if_true, if_false, List.isEmpty_nil, List.isEmpty_cons, true_and, and_true, ↓reduceIte, List.length_cons, List.length_nil, startL, List.map_cons, List.map_nil, Bool.not_true, Bool.not_false, Nat.reduceAdd, Nat.reduceSub, List.replicate, List.cons_append, List.nil_append, reduceCtorEq, false_and, exists_false, List.cons.injEq, Bool.false_xor, Bool.true_xor, wipeL, Int.reduceNeg, Int.cast_ofNat_Int, decide_true, decide_false, Int.reduceEq, decide_eq_true_eq, r_nd, r_sl0, r_sl1, r_sl2, r_sl3, r_sl4, r_sl5, r_sl6, r_sl7, r_sl8, r_sl9, r_sl10, r_sl11, r_sl12, r_sl13, r_sl14, r_sl15, r_sl16, r_sl17, r_sl18, r_sl19, r_sl20, r_sl21, r_sl22, r_sl23, r_sl24, decide_eq_false_iff_not, not_true_eq_false, not_false_eq_true, Int.not_lt, Int.not_le])
theorem vRow_inj {r s : List Int × Rat} (h : vRow r = vRow s) : r = s := by
  unfold vRow at h
  simp only [Val.tup.injEq, List.cons.injEq, and_true] at h
  exact Prod.ext (vI_inj.mp h.1) (vQ_inj.mp h.2)
/-- a paper of rows -/
def vPap (rs : List (List Int × Rat)) : Val := .tup [.str "rings", .tup (rs.map vRow)]
theorem top_sz9 {W : Web} (ok : W.Ok) (h : W.ts.length ≤ 9) : SzQ 240 200 (topS W.ts) := by
  unfold topS
  refine (qs_sz (k := 9) (fun r hr => ?_) ?_).mono (by decide) (by decide)
  · unfold wts at hr
    obtain ⟨t, ht, rfl⟩ := List.mem_map.mp hr
    exact (ok.wt t (List.mem_filter.mp ht).1).sz
  · unfold wts
    rw [List.length_map]
    exact Nat.le_trans (List.length_filter_le _ _) h
theorem RgOk.row {W : Web} {g m : Nat → Nat} {r : List Int × Rat} (h : RgOk W g m r.1) (h0 : 0 < r.2) : rowOf W (rN W.n g) (rN W.n m) (vRow r) = some r := by
  unfold vRow rowOf
  dsimp only
  rw [h.odd, fracOf_vQ]
  dsimp only
  rw [if_pos h0]
/-- what is due of a paper -/
structure Due (W : Web) (L : List Lk) (p : Val) (o : Option Rat) : Prop where
  ring : ∀ r, OddRing L r → o = none
  good : ∀ g m, Good W.n L g m none → PSzP W (rN W.n g) (rN W.n m) p ∧ grpB W (rN W.n g) (rN W.n m) p = o
  sz : ∀ r, o = some r → SzQ 4000 4000 r
theorem Due.ask {S : Sto} {W : Web} {L : List Lk} {p : Val} {o : Option Rat} {Q : Post} (h : Due W L p o) (hp : PpOk S p) (q : ∀ T, S.le T → Q (optQ o) T) : BdAsk S W L p Q := by
  refine ⟨hp, fun T r lT hr => ?_, fun gs bs good => ⟨(h.good gs bs good).1.psz, fun T lT => ?_⟩⟩
  · have := h.ring r hr; subst this; exact q T lT
  · rw [(h.good gs bs good).2]; exact q T lT
end M

set_option maxHeartbeats 1000000
namespace M
open PySem PySem.Spec L2
local macro_rules | `(tactic| simp_wf) => `(tactic| simp only [wCs, w_asg, w_par, w_aug, w_ex, w_ret, w_retN, w_ite, w_brk, w_cnt, w_pass, w_rais, e_v, e_int, e_bl, e_non, e_str, e_g, e_bin, e_neg, e_cmp, e_chain, e_and, e_or, e_not, e_ife, e_tup, e_lst, e_ix, e_sl, e_rev, e_fld, e_call, e_new, e_meth, e_blt, e_mth, e_isi, e_isiT, e_dK0, e_dT0, e_dT1, e_revT, e_repr, e_ktup, e_lrng1, e_lrng2, e_lrev, e_trev, e_dix, e_dg1, e_dg2, e_dsd, e_dpop, e_din, wEs, wAndV, wOrV, wB, wAnd, wOr, wBs, wP, r_nm, r_tgT, r_tgQ, r_tgW, r_tgt, r_tgr, r_tgp, r_tgd, r_tgi, r_tgs, r_tgs0, wBin, wCmp,
  r_add_ii, r_add_ib, r_add_ss, r_add_tt, r_add_rr, r_sub_ii, r_mul_ii, r_mul_ri, r_mul_ti, r_div_ii, r_mod_ii, r_pow_ii, r_shl_ii, r_shr_ii, r_and_ii, r_xor_ii, r_int, r_is_n, r_is_b, r_tru_b, r_tru_i, r_tru_n, r_tru_t, r_tru_r, r_ix_t, r_ix_r, r_sl_t, r_sl_r, r_len_t, r_len_s, r_abs, r_min2, r_max2, r_int1, r_int1b, r_str1, r_list1, r_tuple1, r_tuple1t, r_tuple1p, r_len_p, r_sorted1t, r_ix_p, r_valD_p, r_ty_p, r_tindex, r_tyM_tindex, r_reverse, r_tyM_reverse, r_remove, r_tyM_remove, r_append, r_pop0, r_pop1, r_insert, r_extend, r_count, r_index, r_sum1, r_sorted1, r_tyM_pop1, r_tyM_insert, r_tyM_extend, r_tyM_count, r_tyM_index, r_fld, r_tgf, r_tyM_append, r_tyM_pop0, r_valD_t, r_valD_r, r_ty_n, r_ty_b, r_ty_i, r_ty_s, r_ty_t, r_is_non_int, r_is_non_bool, r_is_non_str, r_is_non_tuple, r_is_non_list, r_is_non_dict, r_is_bl_int, r_is_bl_bool, r_is_bl_str, r_is_bl_tuple, r_is_bl_list, r_is_bl_dict, r_is_int_int, r_is_int_bool, r_is_int_str, r_is_int_tuple, r_is_int_list, r_is_int_dict, r_is_str_int, r_is_str_bool, r_is_str_str, r_is_str_tuple, r_is_str_list, r_is_str_dict, r_is_ptup_int, r_is_ptup_bool, r_is_ptup_str, r_is_ptup_tuple, r_is_ptup_list, r_is_ptup_dict, r_is_tup_int, r_is_tup_bool, r_is_tup_str, r_is_tup_tuple, r_is_tup_list, r_is_tup_dict, isNon, r_W0, r_W1, r_T0, r_T1, r_T2, r_Q0, r_Q1, r_at0, r_at1, r_at2, r_at3, r_at4, r_at5, r_eq_ii, r_eq_bb,
  List.getElem?_cons_zero, List.getElem?_cons_succ, List.set_cons_zero, List.set_cons_succ, setAll, Option.some.injEq, Val.int.injEq, Val.bl.injEq, Val.tup.injEq, Val.ref.injEq, exists_eq_left', exists_eq_left, exists_eq_right, Bool.false_eq_true, if_true, if_false, List.isEmpty_nil, List.isEmpty_cons, true_and, and_true, ↓reduceIte, List.length_cons, List.length_nil, startL, List.map_cons, List.map_nil, Bool.not_true, Bool.not_false, Nat.reduceAdd, Nat.reduceSub, List.replicate, List.cons_append, List.nil_append, reduceCtorEq, false_and, exists_false, List.cons.injEq, Bool.false_xor, Bool.true_xor, wipeL, Int.reduceNeg, Int.cast_ofNat_Int, decide_true, decide_false, Int.reduceEq, decide_eq_true_eq, r_nd, r_sl0, r_sl1, r_sl2, r_sl3, r_sl4, r_sl5, r_sl6, r_sl7, r_sl8, r_sl9, r_sl10, r_sl11, r_sl12, r_sl13, r_sl14, r_sl15, r_sl16, r_sl17, r_sl18, r_sl19, r_sl20, r_sl21, r_sl22, r_sl23, r_sl24, decide_eq_false_iff_not, not_true_eq_false, not_false_eq_true, Int.not_lt, Int.not_le])
end M

set_option maxHeartbeats 1000000
namespace M
open PySem PySem.Spec L2
local macro_rules | `(tactic| simp_wf) => `(tactic| simp only [wCs, w_asg, w_par, w_aug, w_ex, w_ret, w_retN, w_ite, w_brk, w_cnt, w_pass, w_rais, e_v, e_int, e_bl, e_non, e_str, e_g, e_bin, e_neg, e_cmp, e_chain, e_and, e_or, e_not, e_ife, e_tup, e_lst, e_ix, e_sl, e_rev, e_fld, e_call, e_new, e_meth, e_blt, e_mth, e_isi, e_isiT, e_dK0, e_dT0, e_dT1, e_revT, e_repr, e_ktup, e_lrng1, e_lrng2, e_lrev, e_trev, e_dix, e_dg1, e_dg2, e_dsd, e_dpop, e_din, wEs, wAndV, wOrV, wB, wAnd, wOr, wBs, wP, r_nm, r_tgT, r_tgQ, r_tgW, r_tgt, r_tgr, r_tgp, r_tgd, r_tgi, r_tgs, r_tgs0, wBin, wCmp,
  r_add_ii, r_add_ib, r_add_ss, r_add_tt, r_add_rr, r_sub_ii, r_mul_ii, r_mul_ri, r_mul_ti, r_div_ii, r_mod_ii, r_pow_ii, r_shl_ii, r_shr_ii, r_and_ii, r_xor_ii, r_int, r_is_n, r_is_b, r_tru_b, r_tru_i, r_tru_n, r_tru_t, r_tru_r, r_ix_t, r_ix_r, r_sl_t, r_sl_r, r_len_t, r_len_s, r_abs, r_min2, r_max2, r_int1, r_int1b, r_str1, r_list1, r_tuple1, r_tuple1t, r_tuple1p, r_len_p, r_sorted1t, r_ix_p, r_valD_p, r_ty_p, r_tindex, r_tyM_tindex, r_reverse, r_tyM_reverse, r_remove, r_tyM_remove, r_append, r_pop0, r_pop1, r_insert, r_extend, r_count, r_index, r_sum1, r_sorted1, r_tyM_pop1, r_tyM_insert, r_tyM_extend, r_tyM_count, r_tyM_index, r_fld, r_tgf, r_tyM_append, r_tyM_pop0, r_valD_t, r_valD_r, r_ty_n, r_ty_b, r_ty_i, r_ty_s, r_ty_t, r_is_non_int, r_is_non_bool, r_is_non_str, r_is_non_tuple, r_is_non_list, r_is_non_dict, r_is_bl_int, r_is_bl_bool, r_is_bl_str, r_is_bl_tuple, r_is_bl_list, r_is_bl_dict, r_is_int_int, r_is_int_bool, r_is_int_str, r_is_int_tuple, r_is_int_list, r_is_int_dict, r_is_str_int, r_is_str_bool, r_is_str_str, r_is_str_tuple, r_is_str_list, r_is_str_dict, r_is_ptup_int, r_is_ptup_bool, r_is_ptup_str, r_is_ptup_tuple, r_is_ptup_list, r_is_ptup_dict, r_is_tup_int, r_is_tup_bool, r_is_tup_str, r_is_tup_tuple, r_is_tup_list, r_is_tup_dict, isNon, r_W0, r_W1, r_T0, r_T1, r_T2, r_Q0, r_Q1, r_at0, r_at1, r_at2, r_at3, r_at4, r_at5, r_eq_ii, r_eq_bb,
  List.getElem?_cons_zero, List.getElem?_cons_succ, List.set_cons_zero, List.set_cons_succ, setAll, Option.some.injEq, Val.int.injEq, Val.bl.injEq, Val.tup.injEq, Val.ref.injEq, exists_eq_left', exists_eq_left, exists_eq_right, Bool.false_eq_true, if_true, if_false, List.isEmpty_nil, List.isEmpty_cons, true_and, and_true, ↓reduceIte, List.length_cons, List.length_nil, startL, List.map_cons, List.map_nil, Bool.not_true, Bool.not_false, Nat.reduceAdd, Nat.reduceSub, List.replicate, List.cons_append, List.nil_append, reduceCtorEq, false_and, exists_false, List.cons.injEq, Bool.false_xor, Bool.true_xor, wipeL, Int.reduceNeg, Int.cast_ofNat_Int, decide_true, decide_false, Int.reduceEq, decide_eq_true_eq, r_nd, r_sl0, r_sl1, r_sl2, r_sl3, r_sl4, r_sl5, r_sl6, r_sl7, r_sl8, r_sl9, r_sl10, r_sl11, r_sl12, r_sl13, r_sl14, r_sl15, r_sl16, r_sl17, r_sl18, r_sl19, r_sl20, r_sl21, r_sl22, r_sl23, r_sl24, decide_eq_false_iff_not, not_true_eq_false, not_false_eq_true, Int.not_lt, Int.not_le])
inductive Pap where
  | rg (rs : List (List Int × Rat))
  | cs (a b : Nat) (p q : Pap)
def PapOk (W : Web) : Pap → Prop
  | .rg rs => RSz W rs ∧ rs.length ≤ 1000 ∧ ∀ r ∈ rs, r.1.length ≤ 1000
  | .cs _ _ p q => PapOk W p ∧ PapOk W q
def Sat (n : Nat) (L : List Lk) : Prop := ∃ g : (Nat → Nat) × (Nat → Nat), Good n L g.1 g.2 none
noncomputable def gsOf (n : Nat) (L : List Lk) : (Nat → Nat) × (Nat → Nat) := open Classical in if h : Sat n L then h.choose else (fun _ => 0, fun _ => 0)
noncomputable def mxQ : Option Rat → Option Rat → Option Rat
  | some x, some y => some (if x < y then y else x)
  | _, _ => none
/-- the bound that a paper of rings and cases tells for wishes -/
noncomputable def bndP (W : Web) : Pap → List Lk → Option Rat
  | .rg rs, L => open Classical in if Sat W.n L then grpB W (rN W.n (gsOf W.n L).1) (rN W.n (gsOf W.n L).2) (vPap rs) else none
  | .cs a b p q, L => open Classical in if Sat W.n L ∧ a < W.n ∧ b < W.n ∧ a < b ∧ (gsOf W.n L).1 a ≠ (gsOf W.n L).1 b then mxQ (bndP W p (L ++ [⟨a, b, 0⟩])) (bndP W q (L ++ [⟨a, b, 1⟩])) else none
theorem vRow_maps {rs rs' : List (List Int × Rat)} (h : rs.map vRow = rs'.map vRow) : rs = rs' := (List.map_inj_right fun a b e => vRow_inj e).mp h
theorem RSz.psz {W : Web} {gs ms : List Int} {rs : List (List Int × Rat)} (h : RSz W rs) : PSz W gs ms (vPap rs) := fun a b e zs rs' e2 e3 => by
  cases e
  cases e2
  have e4 := vRow_maps (rowsOf_eq e3).1
  subst e4; exact h
theorem lkAt_app1 {L : List Lk} {l : Lk} {k : Nat} (h : k < L.length) : lkAt (L ++ [l]) k = lkAt L k := by
  unfold lkAt
  rw [List.getD_eq_getElem?_getD, List.getD_eq_getElem?_getD, List.getElem?_append_left h]
end M

set_option maxHeartbeats 1000000
namespace M
open PySem PySem.Spec L2
local macro_rules | `(tactic| simp_wf) => `(tactic| simp only [wCs, w_asg, w_par, w_aug, w_ex, w_ret, w_retN, w_ite, w_brk, w_cnt, w_pass, w_rais, e_v, e_int, e_bl, e_non, e_str, e_g, e_bin, e_neg, e_cmp, e_chain, e_and, e_or, e_not, e_ife, e_tup, e_lst, e_ix, e_sl, e_rev, e_fld, e_call, e_new, e_meth, e_blt, e_mth, e_isi, e_isiT, e_dK0, e_dT0, e_dT1, e_revT, e_repr, e_ktup, e_lrng1, e_lrng2, e_lrev, e_trev, e_dix, e_dg1, e_dg2, e_dsd, e_dpop, e_din, wEs, wAndV, wOrV, wB, wAnd, wOr, wBs, wP, r_nm, r_tgT, r_tgQ, r_tgW, r_tgt, r_tgr, r_tgp, r_tgd, r_tgi, r_tgs, r_tgs0, wBin, wCmp,
  r_add_ii, r_add_ib, r_add_ss, r_add_tt, r_add_rr, r_sub_ii, r_mul_ii, r_mul_ri, r_mul_ti, r_div_ii, r_mod_ii, r_pow_ii, r_shl_ii, r_shr_ii, r_and_ii, r_xor_ii, r_int, r_is_n, r_is_b, r_tru_b, r_tru_i, r_tru_n, r_tru_t, r_tru_r, r_ix_t, r_ix_r, r_sl_t, r_sl_r, r_len_t, r_len_s, r_abs, r_min2, r_max2, r_int1, r_int1b, r_str1, r_list1, r_tuple1, r_tuple1t, r_tuple1p, r_len_p, r_sorted1t, r_ix_p, r_valD_p, r_ty_p, r_tindex, r_tyM_tindex, r_reverse, r_tyM_reverse, r_remove, r_tyM_remove, r_append, r_pop0, r_pop1, r_insert, r_extend, r_count, r_index, r_sum1, r_sorted1, r_tyM_pop1, r_tyM_insert, r_tyM_extend, r_tyM_count, r_tyM_index, r_fld, r_tgf, r_tyM_append, r_tyM_pop0, r_valD_t, r_valD_r, r_ty_n, r_ty_b, r_ty_i, r_ty_s, r_ty_t, r_is_non_int, r_is_non_bool, r_is_non_str, r_is_non_tuple, r_is_non_list, r_is_non_dict, r_is_bl_int, r_is_bl_bool, r_is_bl_str, r_is_bl_tuple, r_is_bl_list, r_is_bl_dict, r_is_int_int, r_is_int_bool, r_is_int_str, r_is_int_tuple, r_is_int_list, r_is_int_dict, r_is_str_int, r_is_str_bool, r_is_str_str, r_is_str_tuple, r_is_str_list, r_is_str_dict, r_is_ptup_int, r_is_ptup_bool, r_is_ptup_str, r_is_ptup_tuple, r_is_ptup_list, r_is_ptup_dict, r_is_tup_int, r_is_tup_bool, r_is_tup_str, r_is_tup_tuple, r_is_tup_list, r_is_tup_dict, isNon, r_W0, r_W1, r_T0, r_T1, r_T2, r_Q0, r_Q1, r_at0, r_at1, r_at2, r_at3, r_at4, r_at5, r_eq_ii, r_eq_bb,
  List.getElem?_cons_zero, List.getElem?_cons_succ, List.set_cons_zero, List.set_cons_succ, setAll, Option.some.injEq, Val.int.injEq, Val.bl.injEq, Val.tup.injEq, Val.ref.injEq, exists_eq_left', exists_eq_left, exists_eq_right, Bool.false_eq_true, if_true, if_false, List.isEmpty_nil, List.isEmpty_cons, true_and, and_true, ↓reduceIte, List.length_cons, List.length_nil, startL, List.map_cons, List.map_nil, Bool.not_true, Bool.not_false, Nat.reduceAdd, Nat.reduceSub, List.replicate, List.cons_append, List.nil_append, reduceCtorEq, false_and, exists_false, List.cons.injEq, Bool.false_xor, Bool.true_xor, wipeL, Int.reduceNeg, Int.cast_ofNat_Int, decide_true, decide_false, Int.reduceEq, decide_eq_true_eq, r_nd, r_sl0, r_sl1, r_sl2, r_sl3, r_sl4, r_sl5, r_sl6, r_sl7, r_sl8, r_sl9, r_sl10, r_sl11, r_sl12, r_sl13, r_sl14, r_sl15, r_sl16, r_sl17, r_sl18, r_sl19, r_sl20, r_sl21, r_sl22, r_sl23, r_sl24, decide_eq_false_iff_not, not_true_eq_false, not_false_eq_true, Int.not_lt, Int.not_le])
end M

set_option maxHeartbeats 1000000
namespace M
open PySem PySem.Spec L2
local macro_rules | `(tactic| simp_wf) => `(tactic| simp only [wCs, w_asg, w_par, w_aug, w_ex, w_ret, w_retN, w_ite, w_brk, w_cnt, w_pass, w_rais, e_v, e_int, e_bl, e_non, e_str, e_g, e_bin, e_neg, e_cmp, e_chain, e_and, e_or, e_not, e_ife, e_tup, e_lst, e_ix, e_sl, e_rev, e_fld, e_call, e_new, e_meth, e_blt, e_mth, e_isi, e_isiT, e_dK0, e_dT0, e_dT1, e_revT, e_repr, e_ktup, e_lrng1, e_lrng2, e_lrev, e_trev, e_dix, e_dg1, e_dg2, e_dsd, e_dpop, e_din, wEs, wAndV, wOrV, wB, wAnd, wOr, wBs, wP, r_nm, r_tgT, r_tgQ, r_tgW, r_tgt, r_tgr, r_tgp, r_tgd, r_tgi, r_tgs, r_tgs0, wBin, wCmp,
  r_add_ii, r_add_ib, r_add_ss, r_add_tt, r_add_rr, r_sub_ii, r_mul_ii, r_mul_ri, r_mul_ti, r_div_ii, r_mod_ii, r_pow_ii, r_shl_ii, r_shr_ii, r_and_ii, r_xor_ii, r_int, r_is_n, r_is_b, r_tru_b, r_tru_i, r_tru_n, r_tru_t, r_tru_r, r_ix_t, r_ix_r, r_sl_t, r_sl_r, r_len_t, r_len_s, r_abs, r_min2, r_max2, r_int1, r_int1b, r_str1, r_list1, r_tuple1, r_tuple1t, r_tuple1p, r_len_p, r_sorted1t, r_ix_p, r_valD_p, r_ty_p, r_tindex, r_tyM_tindex, r_reverse, r_tyM_reverse, r_remove, r_tyM_remove, r_append, r_pop0, r_pop1, r_insert, r_extend, r_count, r_index, r_sum1, r_sorted1, r_tyM_pop1, r_tyM_insert, r_tyM_extend, r_tyM_count, r_tyM_index, r_fld, r_tgf, r_tyM_append, r_tyM_pop0, r_valD_t, r_valD_r, r_ty_n, r_ty_b, r_ty_i, r_ty_s, r_ty_t, r_is_non_int, r_is_non_bool, r_is_non_str, r_is_non_tuple, r_is_non_list, r_is_non_dict, r_is_bl_int, r_is_bl_bool, r_is_bl_str, r_is_bl_tuple, r_is_bl_list, r_is_bl_dict, r_is_int_int, r_is_int_bool, r_is_int_str, r_is_int_tuple, r_is_int_list, r_is_int_dict, r_is_str_int, r_is_str_bool, r_is_str_str, r_is_str_tuple, r_is_str_list, r_is_str_dict, r_is_ptup_int, r_is_ptup_bool, r_is_ptup_str, r_is_ptup_tuple, r_is_ptup_list, r_is_ptup_dict, r_is_tup_int, r_is_tup_bool, r_is_tup_str, r_is_tup_tuple, r_is_tup_list, r_is_tup_dict, isNon, r_W0, r_W1, r_T0, r_T1, r_T2, r_Q0, r_Q1, r_at0, r_at1, r_at2, r_at3, r_at4, r_at5, r_eq_ii, r_eq_bb,
  List.getElem?_cons_zero, List.getElem?_cons_succ, List.set_cons_zero, List.set_cons_succ, setAll, Option.some.injEq, Val.int.injEq, Val.bl.injEq, Val.tup.injEq, Val.ref.injEq, exists_eq_left', exists_eq_left, exists_eq_right, Bool.false_eq_true, if_true, if_false, List.isEmpty_nil, List.isEmpty_cons, true_and, and_true, ↓reduceIte, List.length_cons, List.length_nil, startL, List.map_cons, List.map_nil, Bool.not_true, Bool.not_false, Nat.reduceAdd, Nat.reduceSub, List.replicate, List.cons_append, List.nil_append, reduceCtorEq, false_and, exists_false, List.cons.injEq, Bool.false_xor, Bool.true_xor, wipeL, Int.reduceNeg, Int.cast_ofNat_Int, decide_true, decide_false, Int.reduceEq, decide_eq_true_eq, r_nd, r_sl0, r_sl1, r_sl2, r_sl3, r_sl4, r_sl5, r_sl6, r_sl7, r_sl8, r_sl9, r_sl10, r_sl11, r_sl12, r_sl13, r_sl14, r_sl15, r_sl16, r_sl17, r_sl18, r_sl19, r_sl20, r_sl21, r_sl22, r_sl23, r_sl24, decide_eq_false_iff_not, not_true_eq_false, not_false_eq_true, Int.not_lt, Int.not_le])
abbrev base9 (m : Nat) : List Int := rN m fun p => p
theorem base9_mem {m : Nat} {n : Int} (h : n ∈ base9 m) : 0 ≤ n ∧ n < m := by
  unfold base9 rN at h
  obtain ⟨i, hi, rfl⟩ := List.mem_map.mp h
  have := List.mem_range.mp hi
  dsimp only
  omega
theorem base9_nd (m : Nat) : (base9 m).Nodup := by
  unfold base9 rN
  rw [List.Nodup, List.pairwise_map]
  exact List.nodup_range.imp fun {a b} h e => h (by dsimp only at e; omega)
structure Pk (m : Nat) (fs ls : List Int) : Prop where
  pm : (fs ++ ls).Perm (base9 m)
theorem Pk.len {m : Nat} {fs ls : List Int} (h : Pk m fs ls) : fs.length + ls.length = m := by
  have := h.pm.length_eq
  rw [List.length_append] at this
  rw [this]; simp [base9, rN]
theorem Pk.f {m : Nat} {fs ls : List Int} (h : Pk m fs ls) : ∀ n ∈ fs, 0 ≤ n ∧ n < m := fun n hn => base9_mem (h.pm.mem_iff.mp (List.mem_append_left _ hn))
theorem Pk.l {m : Nat} {fs ls : List Int} (h : Pk m fs ls) : ∀ n ∈ ls, 0 ≤ n ∧ n < m := fun n hn => base9_mem (h.pm.mem_iff.mp (List.mem_append_right _ hn))
theorem Pk.nd {m : Nat} {fs ls : List Int} (h : Pk m fs ls) : fs.Nodup ∧ ls.Nodup := by
  have := h.pm.nodup_iff.mpr (base9_nd m)
  exact ⟨(List.nodup_append.mp this).1, (List.nodup_append.mp this).2.1⟩
structure Rg9 (S T : Sto) (W : Web) (p a l f : Addr) (gs ls fs : List Int) : Prop where
  fr : Fr p S T
  d : Dk3 T p
  a : T a = some (.lst (vI gs))
  l : T l = some (.lst (vI ls))
  f : T f = some (.lst (vI fs))
  pk : Pk W.ts.length fs ls
structure Ad9 (S : Sto) (p a l f : Addr) : Prop where
  ap : a ≠ p
  lp : l ≠ p
  fp : f ≠ p
  fl : f ≠ l
  al : a ≠ l
  af : a ≠ f
  sl : S l = none
  sf : S f = none
theorem Rg9.le {S T U : Sto} {W : Web} {p a l f : Addr} {gs ls fs : List Int} (h : Rg9 S T W p a l f gs ls fs) (e : T.le U) : Rg9 S U W p a l f gs ls fs := ⟨h.fr.trans (Fr.le e), h.d.le e, e _ _ h.a, e _ _ h.l, e _ _ h.f, h.pk⟩
theorem Rg9.nx {S T U : Sto} {W : Web} {p a l f : Addr} {gs ls fs : List Int} (n : Ad9 S p a l f) (h : Rg9 S T W p a l f gs ls fs) (d : Dk3 U p) (e : Fr p T U) : Rg9 S U W p a l f gs ls fs := ⟨h.fr.trans e, d, e _ _ n.ap h.a, e _ _ n.lp h.l, e _ _ n.fp h.f, h.pk⟩
end M

set_option maxHeartbeats 1000000
namespace M
open PySem PySem.Spec L2
local macro_rules | `(tactic| simp_wf) => `(tactic| simp only [wCs, w_asg, w_par, w_aug, w_ex, w_ret, w_retN, w_ite, w_brk, w_cnt, w_pass, w_rais, e_v, e_int, e_bl, e_non, e_str, e_g, e_bin, e_neg, e_cmp, e_chain, e_and, e_or, e_not, e_ife, e_tup, e_lst, e_ix, e_sl, e_rev, e_fld, e_call, e_new, e_meth, e_blt, e_mth, e_isi, e_isiT, e_dK0, e_dT0, e_dT1, e_revT, e_repr, e_ktup, e_lrng1, e_lrng2, e_lrev, e_trev, e_dix, e_dg1, e_dg2, e_dsd, e_dpop, e_din, wEs, wAndV, wOrV, wB, wAnd, wOr, wBs, wP, r_nm, r_tgT, r_tgQ, r_tgW, r_tgt, r_tgr, r_tgp, r_tgd, r_tgi, r_tgs, r_tgs0, wBin, wCmp,
  r_add_ii, r_add_ib, r_add_ss, r_add_tt, r_add_rr, r_sub_ii, r_mul_ii, r_mul_ri, r_mul_ti, r_div_ii, r_mod_ii, r_pow_ii, r_shl_ii, r_shr_ii, r_and_ii, r_xor_ii, r_int, r_is_n, r_is_b, r_tru_b, r_tru_i, r_tru_n, r_tru_t, r_tru_r, r_ix_t, r_ix_r, r_sl_t, r_sl_r, r_len_t, r_len_s, r_abs, r_min2, r_max2, r_int1, r_int1b, r_bool1, r_str1, r_list1, r_tuple1, r_tuple1t, r_tuple1p, r_len_p, r_sorted1t, r_ix_p, r_valD_p, r_ty_p, r_tindex, r_tyM_tindex, r_reverse, r_tyM_reverse, r_remove, r_tyM_remove, r_append, r_pop0, r_pop1, r_insert, r_extend, r_count, r_index, r_sum1, r_sorted1, r_tyM_pop1, r_tyM_insert, r_tyM_extend, r_tyM_count, r_tyM_index, r_fld, r_tgf, r_tyM_append, r_tyM_pop0, r_valD_t, r_valD_r, r_ty_n, r_ty_b, r_ty_i, r_ty_s, r_ty_t, r_is_non_int, r_is_non_bool, r_is_non_str, r_is_non_tuple, r_is_non_list, r_is_non_dict, r_is_bl_int, r_is_bl_bool, r_is_bl_str, r_is_bl_tuple, r_is_bl_list, r_is_bl_dict, r_is_int_int, r_is_int_bool, r_is_int_str, r_is_int_tuple, r_is_int_list, r_is_int_dict, r_is_str_int, r_is_str_bool, r_is_str_str, r_is_str_tuple, r_is_str_list, r_is_str_dict, r_is_ptup_int, r_is_ptup_bool, r_is_ptup_str, r_is_ptup_tuple, r_is_ptup_list, r_is_ptup_dict, r_is_tup_int, r_is_tup_bool, r_is_tup_str, r_is_tup_tuple, r_is_tup_list, r_is_tup_dict, isNon, r_W0, r_W1, r_T0, r_T1, r_T2, r_Q0, r_Q1, r_at0, r_at1, r_at2, r_at3, r_at4, r_at5, r_eq_ii, r_eq_bb,
  List.getElem?_cons_zero, List.getElem?_cons_succ, List.set_cons_zero, List.set_cons_succ, setAll, Option.some.injEq, Val.int.injEq, Val.bl.injEq, Val.tup.injEq, Val.ref.injEq, exists_eq_left', exists_eq_left, exists_eq_right, Bool.false_eq_true, if_true, if_false, List.isEmpty_nil, List.isEmpty_cons, true_and, and_true, ↓reduceIte, List.length_cons, List.length_nil, startL, List.map_cons, List.map_nil, Bool.not_true, Bool.not_false, Nat.reduceAdd, Nat.reduceSub, List.replicate, List.cons_append, List.nil_append, reduceCtorEq, false_and, exists_false, List.cons.injEq, Bool.false_xor, Bool.true_xor, wipeL, Int.reduceNeg, Int.cast_ofNat_Int, decide_true, decide_false, Int.reduceEq, decide_eq_true_eq, r_nd, r_sl0, r_sl1, r_sl2, r_sl3, r_sl4, r_sl5, r_sl6, r_sl7, r_sl8, r_sl9, r_sl10, r_sl11, r_sl12, r_sl13, r_sl14, r_sl15, r_sl16, r_sl17, r_sl18, r_sl19, r_sl20, r_sl21, r_sl22, r_sl23, r_sl24, decide_eq_false_iff_not, not_true_eq_false, not_false_eq_true, Int.not_lt, Int.not_le])
structure Rs9 (x : Nat → Rat) (j : Nat) (rs : List (List Int × Rat)) : Prop where
  len : rs.length ≤ j
  ok : ∀ r ∈ rs, SzQ (nB j) (dB j) r.2 ∧ r.1.length ≤ 1000
  sz : ∀ k, SzQ (nB j) (dB j) (x k)
theorem Rs9.up {x : Nat → Rat} {j : Nat} {rs : List (List Int × Rat)} (h : Rs9 x j rs) : Rs9 x (j + 1) rs :=
  ⟨Nat.le_succ_of_le h.len, fun r hr => ⟨(h.ok r hr).1.up, (h.ok r hr).2⟩, fun k => (h.sz k).up⟩
theorem Rs9.step {x : Nat → Rat} {j : Nat} {rs : List (List Int × Rat)} (h : Rs9 x j rs) {ns : List Int} {s : Rat} (hn : ns.length ≤ 1000) (sz : SzQ (nB j + 2) (dB j + 2) s) : Rs9 (fun k => if isIn ns (k : Int) = true then x k - s else x k) (j + 1) (rs ++ [(ns, s)]) := by
  refine ⟨by rw [List.length_append, List.length_singleton]; have := h.len; omega, fun r hr => ?_, fun k => ?_⟩
  · rcases List.mem_append.mp hr with hr | hr
    · exact h.up.ok r hr
    · simp only [List.mem_singleton] at hr; subst hr
      exact ⟨sz.mono (by rw [nB_succ]; omega) (by rw [dB_succ]; omega), hn⟩
  · split
    · exact ((h.sz k).sub sz).mono (by rw [nB_succ]; omega) (by rw [dB_succ]; omega)
    · exact (h.sz k).up
def RsOk9 (rs : List (List Int × Rat)) : Prop := rs.length ≤ 4 ∧ ∀ r ∈ rs, SzQ 240 200 r.2 ∧ r.1.length ≤ 1000
theorem Rs9.upTo {x : Nat → Rat} {rs : List (List Int × Rat)} : ∀ {i j : Nat}, Rs9 x j rs → j ≤ i → Rs9 x i rs
  | 0, j, h, hj => by have : j = 0 := by omega
                      subst this; exact h
  | i + 1, j, h, hj => by
    by_cases c : j = i + 1
    · subst c; exact h
    · exact (h.upTo (i := i) (by omega)).up
theorem Rs9.fin {x : Nat → Rat} {j : Nat} {rs : List (List Int × Rat)} (h : Rs9 x j rs) (hj : j ≤ 4) : RsOk9 rs := by
  have h4 := h.upTo hj
  obtain ⟨a, b⟩ := nB4 4 (by decide)
  exact ⟨h4.len, fun r hr => ⟨(h4.ok r hr).1.mono a b, (h4.ok r hr).2⟩⟩
end M

set_option maxHeartbeats 1000000
namespace M
open PySem PySem.Spec L2
local macro_rules | `(tactic| simp_wf) => `(tactic| simp only [wCs, w_asg, w_par, w_aug, w_ex, w_ret, w_retN, w_ite, w_brk, w_cnt, w_pass, w_rais, e_v, e_int, e_bl, e_non, e_str, e_g, e_bin, e_neg, e_cmp, e_chain, e_and, e_or, e_not, e_ife, e_tup, e_lst, e_ix, e_sl, e_rev, e_fld, e_call, e_new, e_meth, e_blt, e_mth, e_isi, e_isiT, e_dK0, e_dT0, e_dT1, e_revT, e_repr, e_ktup, e_lrng1, e_lrng2, e_lrev, e_trev, e_dix, e_dg1, e_dg2, e_dsd, e_dpop, e_din, wEs, wAndV, wOrV, wB, wAnd, wOr, wBs, wP, r_nm, r_tgT, r_tgQ, r_tgW, r_tgt, r_tgr, r_tgp, r_tgd, r_tgi, r_tgs, r_tgs0, wBin, wCmp,
  r_add_ii, r_add_ib, r_add_ss, r_add_tt, r_add_rr, r_sub_ii, r_mul_ii, r_mul_ri, r_mul_ti, r_div_ii, r_mod_ii, r_pow_ii, r_shl_ii, r_shr_ii, r_and_ii, r_xor_ii, r_int, r_is_n, r_is_b, r_tru_b, r_tru_i, r_tru_n, r_tru_t, r_tru_r, r_ix_t, r_ix_r, r_sl_t, r_sl_r, r_len_t, r_len_s, r_abs, r_min2, r_max2, r_int1, r_int1b, r_bool1, r_str1, r_list1, r_tuple1, r_tuple1t, r_tuple1p, r_len_p, r_sorted1t, r_ix_p, r_valD_p, r_ty_p, r_tindex, r_tyM_tindex, r_reverse, r_tyM_reverse, r_remove, r_tyM_remove, r_append, r_pop0, r_pop1, r_insert, r_extend, r_count, r_index, r_sum1, r_sorted1, r_tyM_pop1, r_tyM_insert, r_tyM_extend, r_tyM_count, r_tyM_index, r_fld, r_tgf, r_tyM_append, r_tyM_pop0, r_valD_t, r_valD_r, r_ty_n, r_ty_b, r_ty_i, r_ty_s, r_ty_t, r_is_non_int, r_is_non_bool, r_is_non_str, r_is_non_tuple, r_is_non_list, r_is_non_dict, r_is_bl_int, r_is_bl_bool, r_is_bl_str, r_is_bl_tuple, r_is_bl_list, r_is_bl_dict, r_is_int_int, r_is_int_bool, r_is_int_str, r_is_int_tuple, r_is_int_list, r_is_int_dict, r_is_str_int, r_is_str_bool, r_is_str_str, r_is_str_tuple, r_is_str_list, r_is_str_dict, r_is_ptup_int, r_is_ptup_bool, r_is_ptup_str, r_is_ptup_tuple, r_is_ptup_list, r_is_ptup_dict, r_is_tup_int, r_is_tup_bool, r_is_tup_str, r_is_tup_tuple, r_is_tup_list, r_is_tup_dict, isNon, r_W0, r_W1, r_T0, r_T1, r_T2, r_Q0, r_Q1, r_at0, r_at1, r_at2, r_at3, r_at4, r_at5, r_eq_ii, r_eq_bb,
  List.getElem?_cons_zero, List.getElem?_cons_succ, List.set_cons_zero, List.set_cons_succ, setAll, Option.some.injEq, Val.int.injEq, Val.bl.injEq, Val.tup.injEq, Val.ref.injEq, exists_eq_left', exists_eq_left, exists_eq_right, Bool.false_eq_true, if_true, if_false, List.isEmpty_nil, List.isEmpty_cons, true_and, and_true, ↓reduceIte, List.length_cons, List.length_nil, startL, List.map_cons, List.map_nil, Bool.not_true, Bool.not_false, Nat.reduceAdd, Nat.reduceSub, List.replicate, List.cons_append, List.nil_append, reduceCtorEq, false_and, exists_false, List.cons.injEq, Bool.false_xor, Bool.true_xor, wipeL, Int.reduceNeg, Int.cast_ofNat_Int, decide_true, decide_false, Int.reduceEq, decide_eq_true_eq, r_nd, r_sl0, r_sl1, r_sl2, r_sl3, r_sl4, r_sl5, r_sl6, r_sl7, r_sl8, r_sl9, r_sl10, r_sl11, r_sl12, r_sl13, r_sl14, r_sl15, r_sl16, r_sl17, r_sl18, r_sl19, r_sl20, r_sl21, r_sl22, r_sl23, r_sl24, decide_eq_false_iff_not, not_true_eq_false, not_false_eq_true, Int.not_lt, Int.not_le])
theorem keeps_less {L : List Lk} {l : Lk} {B : Nat → Nat} (h : keepsN (L ++ [l]) B) : keepsN L B := fun k hk => by
  have := h k (by rw [List.length_append]; omega)
  unfold xx at this
  rw [lkAt_app1 hk] at this
  exact this
/-- sizes of rows -/
def PapR (W : Web) : Pap → Prop
  | .rg rs => rs.length ≤ 6 ∧ ∀ r ∈ rs, SzQ 240 200 r.2 ∧ r.1.length ≤ 1000
  | .cs _ _ p q => PapR W p ∧ PapR W q
theorem PapR.ok {W : Web} (ok : W.Ok) (l9 : W.ts.length ≤ 9) : ∀ {P : Pap}, PapR W P → PapOk W P
  | .rg rs, h => ⟨.inl ⟨240, 200, 6, fun r hr => (h.2 r hr).1, h.1, top_sz9 ok l9, by decide, by decide⟩, Nat.le_trans h.1 (by decide), fun r hr => (h.2 r hr).2⟩
  | .cs _ _ p q, h => ⟨h.1.ok ok l9, h.2.ok ok l9⟩
/-- a side as heavy as the bound -/
def Best (W : Web) (P : Pap) (L : List Lk) : Prop := ∃ r s, bndP W P L = some r ∧ (∀ p, s p < 2) ∧ keepsN L s ∧ cutS (rN W.n s) W.ts = r
theorem Best.cs {W : Web} {L : List Lk} {a b : Nat} {p q : Pap} (sat : Sat W.n L) (ha : a < W.n) (hb : b < W.n) (hab : a < b) (hg : (gsOf W.n L).1 a ≠ (gsOf W.n L).1 b) (h1 : Best W p (L ++ [⟨a, b, 0⟩])) (h2 : Best W q (L ++ [⟨a, b, 1⟩])) : Best W (.cs a b p q) L := by
  obtain ⟨r1, s1, e1, z1, k1, c1⟩ := h1
  obtain ⟨r2, s2, e2, z2, k2, c2⟩ := h2
  have e : bndP W (.cs a b p q) L = some (if r1 < r2 then r2 else r1) := by
    simp only [bndP]
    rw [if_pos ⟨sat, ha, hb, hab, hg⟩, e1, e2]; rfl
  by_cases c : r1 < r2
  · rw [if_pos c] at e; exact ⟨r2, s2, e, z2, keeps_less k2, c2⟩
  · rw [if_neg c] at e; exact ⟨r1, s1, e, z1, keeps_less k1, c1⟩
end M

set_option maxHeartbeats 1000000
namespace M
open PySem PySem.Spec L2
local macro_rules | `(tactic| simp_wf) => `(tactic| simp only [wCs, w_asg, w_par, w_aug, w_ex, w_ret, w_retN, w_ite, w_brk, w_cnt, w_pass, w_rais, e_v, e_int, e_bl, e_non, e_str, e_g, e_bin, e_neg, e_cmp, e_chain, e_and, e_or, e_not, e_ife, e_tup, e_lst, e_ix, e_sl, e_rev, e_fld, e_call, e_new, e_meth, e_blt, e_mth, e_isi, e_isiT, e_dK0, e_dT0, e_dT1, e_revT, e_repr, e_ktup, e_lrng1, e_lrng2, e_lrev, e_trev, e_dix, e_dg1, e_dg2, e_dsd, e_dpop, e_din, wEs, wAndV, wOrV, wB, wAnd, wOr, wBs, wP, r_nm, r_tgT, r_tgQ, r_tgW, r_tgt, r_tgr, r_tgp, r_tgd, r_tgi, r_tgs, r_tgs0, wBin, wCmp,
  r_add_ii, r_add_ib, r_add_ss, r_add_tt, r_add_rr, r_sub_ii, r_mul_ii, r_mul_ri, r_mul_ti, r_div_ii, r_mod_ii, r_pow_ii, r_shl_ii, r_shr_ii, r_and_ii, r_xor_ii, r_int, r_is_n, r_is_b, r_tru_b, r_tru_i, r_tru_n, r_tru_t, r_tru_r, r_ix_t, r_ix_r, r_sl_t, r_sl_r, r_len_t, r_len_s, r_abs, r_min2, r_max2, r_int1, r_int1b, r_str1, r_list1, r_tuple1, r_tuple1t, r_tuple1p, r_len_p, r_sorted1t, r_ix_p, r_valD_p, r_ty_p, r_tindex, r_tyM_tindex, r_reverse, r_tyM_reverse, r_remove, r_tyM_remove, r_append, r_pop0, r_pop1, r_insert, r_extend, r_count, r_index, r_sum1, r_sorted1, r_tyM_pop1, r_tyM_insert, r_tyM_extend, r_tyM_count, r_tyM_index, r_fld, r_tgf, r_tyM_append, r_tyM_pop0, r_valD_t, r_valD_r, r_ty_n, r_ty_b, r_ty_i, r_ty_s, r_ty_t, r_is_non_int, r_is_non_bool, r_is_non_str, r_is_non_tuple, r_is_non_list, r_is_non_dict, r_is_bl_int, r_is_bl_bool, r_is_bl_str, r_is_bl_tuple, r_is_bl_list, r_is_bl_dict, r_is_int_int, r_is_int_bool, r_is_int_str, r_is_int_tuple, r_is_int_list, r_is_int_dict, r_is_str_int, r_is_str_bool, r_is_str_str, r_is_str_tuple, r_is_str_list, r_is_str_dict, r_is_ptup_int, r_is_ptup_bool, r_is_ptup_str, r_is_ptup_tuple, r_is_ptup_list, r_is_ptup_dict, r_is_tup_int, r_is_tup_bool, r_is_tup_str, r_is_tup_tuple, r_is_tup_list, r_is_tup_dict, isNon, r_W0, r_W1, r_T0, r_T1, r_T2, r_Q0, r_Q1, r_at0, r_at1, r_at2, r_at3, r_at4, r_at5, r_eq_ii, r_eq_bb,
  List.getElem?_cons_zero, List.getElem?_cons_succ, List.set_cons_zero, List.set_cons_succ, setAll, Option.some.injEq, Val.int.injEq, Val.bl.injEq, Val.tup.injEq, Val.ref.injEq, exists_eq_left', exists_eq_left, exists_eq_right, Bool.false_eq_true, if_true, if_false, List.isEmpty_nil, List.isEmpty_cons, true_and, and_true, ↓reduceIte, List.length_cons, List.length_nil, startL, List.map_cons, List.map_nil, Bool.not_true, Bool.not_false, Nat.reduceAdd, Nat.reduceSub, List.replicate, List.cons_append, List.nil_append, reduceCtorEq, false_and, exists_false, List.cons.injEq, Bool.false_xor, Bool.true_xor, wipeL, Int.reduceNeg, Int.cast_ofNat_Int, decide_true, decide_false, Int.reduceEq, decide_eq_true_eq, r_nd, r_sl0, r_sl1, r_sl2, r_sl3, r_sl4, r_sl5, r_sl6, r_sl7, r_sl8, r_sl9, r_sl10, r_sl11, r_sl12, r_sl13, r_sl14, r_sl15, r_sl16, r_sl17, r_sl18, r_sl19, r_sl20, r_sl21, r_sl22, r_sl23, r_sl24, decide_eq_false_iff_not, not_true_eq_false, not_false_eq_true, Int.not_lt, Int.not_le])
def SdB (n : Nat) (b : List Int) : Prop := b.length = n ∧ ∀ x ∈ b, x = 0 ∨ x = 1
def N_made_sideD : List Str := ["web", "bits", "bit"]
def P_made_sideD : List Str := ["web", "bits"]
def B_made_sideD : List C := [
  .ite (.or [.not (.val (.isiT (.v 1) ["list", "tuple"])), .cmp .NotEq (.blt .len [.v 1]) (.ix (.v 0) (.int 0))]) [.rais "NoSide"] [],
  .loop (.nm 2) (.val (.v 1)) [.ite (.or [.not (.val (.call "is_int" [.v 2])), .not (.chain .LtE .LtE (.int 0) (.v 2) (.int 1))]) [.rais "NoSide"] []],
  .ret (.call "turned" [.v 1])]
end M

set_option maxHeartbeats 1000000
namespace M
open PySem PySem.Spec L2
local macro_rules | `(tactic| simp_wf) => `(tactic| simp only [wCs, w_asg, w_par, w_aug, w_ex, w_ret, w_retN, w_ite, w_brk, w_cnt, w_pass, w_rais, e_v, e_int, e_bl, e_non, e_str, e_g, e_bin, e_neg, e_cmp, e_chain, e_and, e_or, e_not, e_ife, e_tup, e_lst, e_ix, e_sl, e_rev, e_fld, e_call, e_new, e_meth, e_blt, e_mth, e_isi, e_isiT, e_dK0, e_dT0, e_dT1, e_revT, e_repr, e_ktup, e_lrng1, e_lrng2, e_lrev, e_trev, e_dix, e_dg1, e_dg2, e_dsd, e_dpop, e_din, wEs, wAndV, wOrV, wB, wAnd, wOr, wBs, wP, r_nm, r_tgT, r_tgQ, r_tgW, r_tgt, r_tgr, r_tgp, r_tgd, r_tgi, r_tgs, r_tgs0, wBin, wCmp,
  r_add_ii, r_add_ib, r_add_ss, r_add_tt, r_add_rr, r_sub_ii, r_mul_ii, r_mul_ri, r_mul_ti, r_div_ii, r_mod_ii, r_pow_ii, r_shl_ii, r_shr_ii, r_and_ii, r_xor_ii, r_int, r_is_n, r_is_b, r_tru_b, r_tru_i, r_tru_n, r_tru_t, r_tru_r, r_ix_t, r_ix_r, r_sl_t, r_sl_r, r_len_t, r_len_s, r_abs, r_min2, r_max2, r_int1, r_int1b, r_bool1, r_str1, r_list1, r_tuple1, r_tuple1t, r_tuple1p, r_len_p, r_sorted1t, r_ix_p, r_valD_p, r_ty_p, r_tindex, r_tyM_tindex, r_reverse, r_tyM_reverse, r_remove, r_tyM_remove, r_append, r_pop0, r_pop1, r_insert, r_extend, r_count, r_index, r_sum1, r_sorted1, r_tyM_pop1, r_tyM_insert, r_tyM_extend, r_tyM_count, r_tyM_index, r_fld, r_tgf, r_tyM_append, r_tyM_pop0, r_valD_t, r_valD_r, r_ty_n, r_ty_b, r_ty_i, r_ty_s, r_ty_t, r_is_non_int, r_is_non_bool, r_is_non_str, r_is_non_tuple, r_is_non_list, r_is_non_dict, r_is_bl_int, r_is_bl_bool, r_is_bl_str, r_is_bl_tuple, r_is_bl_list, r_is_bl_dict, r_is_int_int, r_is_int_bool, r_is_int_str, r_is_int_tuple, r_is_int_list, r_is_int_dict, r_is_str_int, r_is_str_bool, r_is_str_str, r_is_str_tuple, r_is_str_list, r_is_str_dict, r_is_ptup_int, r_is_ptup_bool, r_is_ptup_str, r_is_ptup_tuple, r_is_ptup_list, r_is_ptup_dict, r_is_tup_int, r_is_tup_bool, r_is_tup_str, r_is_tup_tuple, r_is_tup_list, r_is_tup_dict, isNon, r_W0, r_W1, r_T0, r_T1, r_T2, r_Q0, r_Q1, r_at0, r_at1, r_at2, r_at3, r_at4, r_at5, r_eq_ii, r_eq_bb,
  List.getElem?_cons_zero, List.getElem?_cons_succ, List.set_cons_zero, List.set_cons_succ, setAll, Option.some.injEq, Val.int.injEq, Val.bl.injEq, Val.tup.injEq, Val.ref.injEq, exists_eq_left', exists_eq_left, exists_eq_right, Bool.false_eq_true, if_true, if_false, List.isEmpty_nil, List.isEmpty_cons, true_and, and_true, ↓reduceIte, List.length_cons, List.length_nil, startL, List.map_cons, List.map_nil, Bool.not_true, Bool.not_false, Nat.reduceAdd, Nat.reduceSub, List.replicate, List.cons_append, List.nil_append, reduceCtorEq, false_and, exists_false, List.cons.injEq, Bool.false_xor, Bool.true_xor, wipeL, Int.reduceNeg, Int.cast_ofNat_Int, decide_true, decide_false, Int.reduceEq, decide_eq_true_eq, r_nd, r_sl0, r_sl1, r_sl2, r_sl3, r_sl4, r_sl5, r_sl6, r_sl7, r_sl8, r_sl9, r_sl10, r_sl11, r_sl12, r_sl13, r_sl14, r_sl15, r_sl16, r_sl17, r_sl18, r_sl19, r_sl20, r_sl21, r_sl22, r_sl23, r_sl24, decide_eq_false_iff_not, not_true_eq_false, not_false_eq_true, Int.not_lt, Int.not_le])
def SqV (S : Sto) (v : Val) (xs : List Val) : Prop := v = .tup xs ∨ ∃ a, v = .ref a ∧ S a = some (.lst xs)
theorem SqV.le {S T : Sto} {v : Val} {xs : List Val} (h : SqV S v xs) (l : S.le T) : SqV T v xs := by
  rcases h with h | ⟨a, e, h⟩
  · exact .inl h
  · exact .inr ⟨a, e, l _ _ h⟩
def spTurn3 : Spec
  | [v], S, Q, _ => ∃ b : List Int, SqV S v (vI b) ∧ b ≠ [] ∧ b.length ≤ 1000 ∧ Q (.tup (vI (tnB b))) S
  | _, _, _, _ => False
theorem tn_map (b : List Int) : b.map (fun x => Val.int ((x + b.getD 0 0) % 2)) = vI (tnB b) := by
  unfold vI tnB; rw [List.map_map]; rfl
theorem body_turned3 {G : Gam} : Body G N_turned P_turned B_turned spTurn3 := by
  intro vs S Q X h
  unfold spTurn3 at h
  split at h
  · rename_i v
    obtain ⟨b, hv, hb, hl, h⟩ := h
    refine ⟨rfl, ?_⟩
    simp only [N_turned, B_turned]
    refine wCs_step fun nx hn => ?_
    rcases hv with rfl | ⟨p, rfl, hp⟩
    · simp_wf
      refine ⟨_, atI_0 hb, ?_⟩
      subst hn
      simp_wf
      refine lc_tup_fm (xs := b) (f := Val.int) (fun _ => true) (fun x => .int ((x + b.getD 0 0) % 2)) (fun Q q => by simp_wf; exact q) (by omega) (fun x hx R r1 r0 => ?_) fun q hq => ?_
      · simp_wf
        rw [imod_pos (by decide)]
        exact ⟨by decide, r1 rfl⟩
      · rw [List.filter_eq_self.mpr (fun _ _ => rfl), tn_map]
        simp_wf
        exact ⟨_, rd_upd, _, Sto.le.new .refl hq, h⟩
    · simp_wf
      refine ⟨_, _, .lst hp, atI_0 hb, ?_⟩
      subst hn
      simp_wf
      refine lc_list_fm (xs := b) (f := Val.int) (l := p) (fun _ => true) (fun x => .int ((x + b.getD 0 0) % 2)) (fun Q q => by simp_wf; exact q) (.lst hp) (by omega) (fun x hx R r1 r0 => ?_) fun q hq => ?_
      · simp_wf
        rw [imod_pos (by decide)]
        exact ⟨by decide, r1 rfl⟩
      · rw [List.filter_eq_self.mpr (fun _ _ => rfl), tn_map]
        simp_wf
        exact ⟨_, rd_upd, _, Sto.le.new .refl hq, h⟩
  · exact h.elim
/-- no bit -/
def BadB (S : Sto) (x : Val) : Prop := (okTy x S ∧ isI x = false) ∨ ∃ i : Int, x = .int i ∧ ¬ (0 ≤ i ∧ i ≤ 1)
inductive NoSd (S : Sto) (n : Nat) : Val → Prop
  | oth {v : Val} {nm : String} : tyName v S = some nm → nm ∈ ["NoneType", "int", "str", "dict"] → NoSd S n v
  | len {v : Val} {xs : List Val} : SqV S v xs → xs.length ≠ n → NoSd S n v
  | bad {v : Val} {b : List Int} {x : Val} {r : List Val} : SqV S v (vI b ++ x :: r) → (∀ y ∈ b, y = 0 ∨ y = 1) → BadB S x → NoSd S n v
theorem tyName_le {S T : Sto} {v : Val} {nm : String} (h : tyName v S = some nm) (l : S.le T) : tyName v T = some nm := by
  cases v with
  | ref a =>
    simp only [tyName] at h ⊢
    cases e : S a with
    | none => rw [e] at h; cases h
    | some o => rw [l _ _ e]; rw [e] at h; exact h
  | _ => exact h
theorem okTy_le {S T : Sto} {v : Val} (h : okTy v S) (l : S.le T) : okTy v T := by
  obtain ⟨n, h1, h2⟩ := h
  exact ⟨n, tyName_le h1 l, h2⟩
theorem BadB.le {S T : Sto} {x : Val} (h : BadB S x) (l : S.le T) : BadB T x := by
  rcases h with ⟨h, h2⟩ | h
  · exact .inl ⟨okTy_le h l, h2⟩
  · exact .inr h
theorem NoSd.le {S T : Sto} {n : Nat} {v : Val} (h : NoSd S n v) (l : S.le T) : NoSd T n v := by
  cases h with
  | oth h h2 => exact .oth (tyName_le h l) h2
  | len h h2 => exact .len (h.le l) h2
  | bad h h2 h3 => exact .bad (h.le l) h2 (h3.le l)
def spMade3 : Spec
  | [v, w], S, Q, X => ∃ W : Web, v = vW W ∧ W.Ok ∧ ((∃ b, SqV S w (vI b) ∧ SdB W.n b ∧ Q (.tup (vI (tnB b))) S) ∨ (NoSd S W.n w ∧ X "NoSide" S))
  | _, _, _, _ => False
theorem sq_isi {S : Sto} {Q : Post} {v : Val} {xs : List Val} (h : SqV S v xs) (q : Q (.bl true) S) : vIsiT ["list", "tuple"] v S Q := by
  rcases h with rfl | ⟨a, rfl, h⟩
  · rw [vIsiT_row (k := true) r_ty_t (by decide +kernel) (by decide +kernel)]; exact q
  · rw [vIsiT_row (n := "list") (k := true) (by simp only [tyName, h]) (by decide +kernel) (by decide +kernel)]; exact q
theorem oth_isi {S : Sto} {Q : Post} {v : Val} {nm : String} (h : tyName v S = some nm) (hn : nm ∈ ["NoneType", "int", "str", "dict"]) (q : Q (.bl false) S) : vIsiT ["list", "tuple"] v S Q := by
  simp only [List.mem_cons, List.not_mem_nil, or_false] at hn
  rcases hn with rfl | rfl | rfl | rfl
  all_goals rw [vIsiT_row (k := false) h (by decide +kernel) (by decide +kernel)]; exact q
theorem sq_len {S : Sto} {Q : Post} {v : Val} {xs : List Val} (h : SqV S v xs) (q : Q (.int xs.length) S) : wBlt .len [v] S Q := by
  rcases h with rfl | ⟨a, rfl, h⟩
  · exact q
  · rw [r_len (.lst h)]; exact q
/-- a loop over a list or a tuple -/
theorem loop_sq_ix {G : Gam} {t : T} {p : List C} {D : En} {ρ : Loc} {S : Sto} {a : E} {v : Val} {xs : List Val} (J : Nat → Loc → Sto → Prop) (hv : SqV S v xs) (ha : ∀ Q : Post, Q v S → wE G (fun c S => D.xc c ρ S) a ρ S Q) (hk : ∀ j ρ T, J j ρ T → S.le T) (h0 : J 0 ρ S) (hend : ∀ ρ S, J xs.length ρ S → D.nx ρ S)
    (hst : ∀ (j : Nat) (x : Val), xs[j]? = some x → ∀ ρ S, J j ρ S → ∀ D' : En, (∀ ρ S, J (j + 1) ρ S → D'.nx ρ S) → (∀ ρ S, J (j + 1) ρ S → D'.ct ρ S) → D'.rt = D.rt → D'.bk = D.nx → D'.xc = D.xc → wTg G noX t x ρ S fun ρ2 S3 => wCs G p D' ρ2 S3) : wC G (.loop t (.val a) p) D ρ S := by
  rcases hv with rfl | ⟨q, rfl, hq⟩
  · exact loop_tup_ix (xs := xs) (f := id) (S1 := S) J (fun Q q => by rw [List.map_id] at q; exact ha Q q) h0 hend hst
  · exact loop_list_ix (xs := xs) (f := id) (q := q) (S1 := S) J (fun Q q => ha Q q) (by rw [List.map_id]; exact .lst hq) (fun j ρ T h => by rw [List.map_id]; exact .lst (hk j ρ T h _ _ hq)) h0 hend hst
theorem vI_pre {b : List Int} {x : Val} {r : List Val} {j : Nat} {y : Val} (h : (vI b ++ x :: r)[j]? = some y) (hj : j ≤ b.length) : (j = b.length ∧ y = x) ∨ (j < b.length ∧ ∃ i, i ∈ b ∧ y = .int i) := by
  by_cases e : j = b.length
  · subst e
    rw [List.getElem?_append_right (by rw [vI_len]; exact Nat.le_refl _), vI_len, Nat.sub_self] at h
    exact .inl ⟨rfl, (by simpa using h.symm)⟩
  · rw [List.getElem?_append_left (by rw [vI_len]; omega)] at h
    unfold vI at h
    rw [List.getElem?_map] at h
    cases q : b[j]? with
    | none => rw [q] at h; cases h
    | some i => rw [q] at h; cases h; exact .inr ⟨by omega, i, mem_of_get q, rfl⟩
theorem body_made_side3 {G : Gam} (g : G.fn "is_int" = some spInt) (g2 : G.fn "turned" = some spTurn3) : Body G N_made_sideD P_made_sideD B_made_sideD spMade3 := by
  intro vs S Q X h
  unfold spMade3 at h
  split at h
  · rename_i v w
    obtain ⟨W, rfl, ok, h⟩ := h
    have hn1 := ok.n1
    have hn2 := ok.n2
    refine ⟨rfl, ?_⟩
    simp only [N_made_sideD, B_made_sideD]
    refine wCs_step fun nx hn => ?_
    simp_wf
    rcases h with ⟨b, hw, sd, h⟩ | ⟨nsd, h⟩
    · have hbl := sd.1
      refine sq_isi hw ?_
      simp_wf
      refine sq_len hw ?_
      simp_wf
      rw [vI_len, if_neg (by omega)]
      subst hn
      refine wCs_step fun nx hn => ?_
      refine loop_sq_ix (xs := vI b) (v := w) (fun j ρ T => T = S ∧ ∃ o, ρ = [some (vW W), some w, o]) hw (fun Q q => by simp_wf; exact q) (fun j ρ T ⟨e, _⟩ => e ▸ .refl) ⟨rfl, _, rfl⟩ ?_ ?_
      · rintro ρ T ⟨rfl, o, rfl⟩
        subst hn
        simp_wf
        try simp only [g2, Option.some.injEq, exists_eq_left']
        exact .of ⟨b, hw, fun e => by subst e; simp at hbl; omega, by omega, ⟨_, .refl, h⟩⟩
      · rintro j x hj ρ T ⟨rfl, o, rfl⟩ D' hnx hct hrt hbk hxc
        obtain ⟨i, hi, rfl⟩ := List.mem_map.mp (mem_of_get hj)
        have hx := sd.2 i hi
        simp_wf
        try simp only [g, Option.some.injEq, exists_eq_left']
        refine .of ⟨okTy_i i, ?_⟩
        simp only [isI]
        simp_wf
        rcases hx with rfl | rfl
        · simp_wf
          exact hnx _ _ ⟨rfl, _, rfl⟩
        · simp_wf
          exact hnx _ _ ⟨rfl, _, rfl⟩
    · cases nsd with
      | oth ht hm =>
        refine oth_isi ht hm ?_
        simp_wf
        exact ⟨_, .refl, h⟩
      | len hw hl =>
        refine sq_isi hw ?_
        simp_wf
        refine sq_len hw ?_
        simp_wf
        rw [if_pos (by omega)]
        exact ⟨_, .refl, h⟩
      | bad hw hb hx =>
        rename_i b x r
        refine sq_isi hw ?_
        simp_wf
        refine sq_len hw ?_
        simp_wf
        split
        · exact ⟨_, .refl, h⟩
        · subst hn
          refine wCs_step fun nx hn => ?_
          refine loop_sq_ix (xs := vI b ++ x :: r) (v := w) (fun j ρ T => j ≤ b.length ∧ T = S ∧ ∃ o, ρ = [some (vW W), some w, o]) hw (fun Q q => by simp_wf; exact q) (fun j ρ T ⟨_, e, _⟩ => e ▸ .refl) ⟨Nat.zero_le _, rfl, _, rfl⟩ ?_ ?_
          · rintro ρ T ⟨hl, _⟩
            rw [List.length_append, vI_len, List.length_cons] at hl
            omega
          · rintro j y hj ρ T ⟨hl, rfl, o, rfl⟩ D' hnx hct hrt hbk hxc
            simp_wf
            try simp only [g, Option.some.injEq, exists_eq_left']
            rcases vI_pre hj hl with ⟨e, rfl⟩ | ⟨hlt, i, hi, rfl⟩
            · rcases hx with ⟨h1, h2⟩ | ⟨i, rfl, h2⟩
              · refine .of ⟨h1, ?_⟩
                rw [h2]
                simp_wf
                rw [hxc]
                exact ⟨_, .refl, h⟩
              · refine .of ⟨okTy_i i, ?_⟩
                simp only [isI]
                simp_wf
                by_cases h0 : 0 ≤ i
                · rw [if_pos h0, if_pos (by omega), hxc]
                  exact ⟨_, .refl, h⟩
                · rw [if_neg h0, hxc]
                  exact ⟨_, .refl, h⟩
            · refine .of ⟨okTy_i i, ?_⟩
              simp only [isI]
              simp_wf
              rcases hb i hi with rfl | rfl
              · simp_wf
                exact hnx _ _ ⟨hlt, rfl, _, rfl⟩
              · simp_wf
                exact hnx _ _ ⟨hlt, rfl, _, rfl⟩
  · exact h.elim
def N_Lis_none : List Str := ["_law_web_here", "_law_bits", "error"]
def P_Lis_none : List Str := ["_law_web_here", "_law_bits"]
def B_Lis_none : List C := [
  .tryM [.ex (.call "made_side" [.v 0, .v 1])] [⟨"NoSide", (some 2), (.ret (.and (.is "CutError") (.is "ValueError")))⟩],
  .ret (.bl false)]
structure GX03 (G : Gam) : Prop where
  x : G.exm "NoSide" "NoSide" = some true
  i1 : G.exi "NoSide" "CutError" = some true
  i2 : G.exi "NoSide" "ValueError" = some true
def spNone3 : Spec
  | [v, w], S, Q, _ => ∃ W : Web, v = vW W ∧ W.Ok ∧ NoSd S W.n w ∧ Q (.bl true) S
  | _, _, _, _ => False
theorem body_Lis_none {G : Gam} (g : G.fn "made_side" = some spMade3) (gx : GX03 G) : Body G N_Lis_none P_Lis_none B_Lis_none spNone3 := by
  intro vs S Q X h
  unfold spNone3 at h
  split at h
  · rename_i v w
    obtain ⟨W, rfl, ok, nsd, h⟩ := h
    refine ⟨rfl, ?_⟩
    simp only [N_Lis_none, B_Lis_none]
    refine wCs_step fun nx hn => ?_
    simp only [wC]
    simp_wf
    try simp only [g, Option.some.injEq, exists_eq_left']
    refine .of ⟨W, rfl, ok, .inr ⟨nsd, ?_⟩⟩
    simp only [wHs, gx.x, Option.some.injEq, exists_eq_left']
    simp only [if_true]
    simp only [wHK, hE, gx.i1, gx.i2, Option.some.injEq, exists_eq_left']
    exact ⟨_, .refl, h⟩
  · exact h.elim
section
variable {G : Gam} {X : XPost} {ρ : Loc} {S0 : Sto} {n : Nat}
/-- an expression that gives a new list, or a list that stays, of just these items -/
def GE (G : Gam) (X : XPost) (ρ : Loc) (S0 : Sto) (e : E) (xs : List Val) : Prop := ∀ (S : Sto) (Q : Post), S0.le S → (∀ (T : Sto) (p : Addr), S.le T → T p = some (.lst xs) → Q (.ref p) T) → wE G X e ρ S Q
/-- an expression that gives a thing that is no side -/
def GN (G : Gam) (X : XPost) (ρ : Loc) (S0 : Sto) (n : Nat) (e : E) : Prop := ∀ (S : Sto) (Q : Post), S0.le S → (∀ (T : Sto) (v : Val), S.le T → NoSd T n v → Q v T) → wE G X e ρ S Q
theorem GE.v {i : Nat} {p : Addr} {xs : List Val} (h : ρ[i]? = some (some (.ref p))) (hp : S0 p = some (.lst xs)) : GE G X ρ S0 (.v i) xs := fun S Q l q => by
  simp only [wE]
  exact ⟨_, h, q S p .refl (l _ _ hp)⟩
theorem GE.add {a b : E} {xs ys : List Val} (h : GE G X ρ S0 a xs) (h' : GE G X ρ S0 b ys) (hl : xs.length + ys.length ≤ 1000) : GE G X ρ S0 (.bin .Add a b) (xs ++ ys) := fun S Q l q => by
  simp only [wE]
  refine h S _ l fun T p lT hp => ?_
  refine h' T _ (l.trans lT) fun U r lU hr => ?_
  simp only [wBin, r_add_rr]
  exact ⟨xs, ys, lU _ _ hp, hr, Nat.le_trans hl (by decide), fun k hk => q _ k ((lT.trans lU).new hk) Sto.upd_same⟩
theorem GE.sl {a : E} {lo hi : P} {l1 h1 : Option Int} {xs : List Val} (h : GE G X ρ S0 a xs) (hl : ∀ (S : Sto) (R : Option Int → Sto → Prop), R l1 S → wP G X lo ρ S R) (hh : ∀ (S : Sto) (R : Option Int → Sto → Prop), R h1 S → wP G X hi ρ S R) : GE G X ρ S0 (.sl a lo hi) (M.cut xs l1 h1) := fun S Q l q => by
  simp only [wE]
  refine h S _ l fun T p lT hp => ?_
  refine hl _ _ (hh _ _ ?_)
  simp only [r_sl_r]
  exact ⟨xs, .lst hp, fun k hk => q _ k (lT.new hk) Sto.upd_same⟩
theorem GE.one {a : E} {x : Val} (h : ∀ (S : Sto) (Q : Post), S0.le S → Q x S → wE G X a ρ S Q) : GE G X ρ S0 (.lst [a]) [x] := fun S Q l q => by
  simp only [wE, wEs]
  exact h S _ l ⟨by simp only [List.length_cons, List.length_nil]; decide, fun k hk => q _ k (Sto.le.new .refl hk) Sto.upd_same⟩
theorem GE.nil : GE G X ρ S0 (.lst []) [] := fun S Q l q => by
  simp only [wE, wEs]
  exact ⟨by decide, fun k hk => q _ k (Sto.le.new .refl hk) Sto.upd_same⟩
theorem GE.gn {e : E} {xs : List Val} (h : GE G X ρ S0 e xs) (hx : ∀ (T : Sto) (v : Val), S0.le T → SqV T v xs → NoSd T n v) : GN G X ρ S0 n e := fun S Q l q => h S Q l fun T p lT hp => q T _ lT (hx T _ (l.trans lT) (.inr ⟨p, rfl, hp⟩))
theorem GE.len {e : E} {xs : List Val} (h : GE G X ρ S0 e xs) (hx : xs.length ≠ n) : GN G X ρ S0 n e := h.gn fun T v _ s => .len s hx
theorem GN.all : ∀ {es : List E}, (∀ e ∈ es, GN G X ρ S0 n e) → ∀ (S : Sto) (Q : List Val → Sto → Prop), S0.le S → (∀ (T : Sto) (vs : List Val), S.le T → vs.length = es.length → (∀ v ∈ vs, NoSd T n v) → Q vs T) → wEs G X es ρ S Q
  | [], _, S, Q, l, q => by
    simp only [wEs]
    exact q S [] .refl rfl (fun _ h => nomatch h)
  | e :: es, h, S, Q, l, q => by
    simp only [wEs]
    refine h e (List.mem_cons_self ..) S _ l fun T v lT hv => ?_
    refine GN.all (fun e' he => h e' (List.mem_cons_of_mem _ he)) T _ (l.trans lT) fun U vs lU hl hvs => ?_
    exact q U (v :: vs) (lT.trans lU) (by simp [hl]) fun w hw => by
      rcases List.mem_cons.mp hw with rfl | hw
      · exact hv.le lU
      · exact hvs w hw
end
theorem cut_drop1 {b : List Int} : M.cut (vI b) (some 1) none = vI (b.drop 1) := by
  rw [cut_vI]
  cases b with
  | nil => rfl
  | cons x r =>
    have e1 : HT.sIx (x :: r).length 0 (some 1) = 1 := by simp only [HT.sIx, List.length_cons]; rw [if_neg (by decide)]; omega
    rw [sl_non, e1, List.take_of_length_le (by simp)]
theorem cut_last {b : List Int} (h : 1 ≤ b.length) : M.cut (vI b) none (some (-1)) = vI b.dropLast := by
  rw [cut_vI, sl_non]
  have e1 : HT.sIx b.length b.length (some (-1)) = b.length - 1 := by
    simp only [HT.sIx]
    rw [if_pos (by decide)]
    omega
  rw [e1, List.drop_zero, Nat.sub_zero, ← List.dropLast_eq_take]
def N_Lothers : List Str := ["_law_bits", "_law_some", "_law_bit"]
def P_Lothers : List Str := ["_law_bits"]
def B_Lothers : List C := [
  .asg (.nm 1) (.lst [.bin .Add (.v 0) (.lst [.int 0]), .sl (.v 0) (.at (.int 1)) .no, .bin .Add (.blt .tuple1 [.v 0]) (.tup [.int 1]), .bin .Add (.lst [.int 2]) (.sl (.v 0) (.at (.int 1)) .no), .bin .Add (.sl (.v 0) .no (.at (.neg (.int 1)))) (.lst [.neg (.int 1)]), .bin .Add (.lst [.bl true]) (.sl (.v 0) (.at (.int 1)) .no), .non, .int 0]),
  .asg (.nm 1) (.bin .Add (.v 1) (.lst [.bin .Add (.sl (.v 0) .no (.at (.neg (.int 1)))) (.lst [.bl true]), .bin .Add (.sl (.v 0) .no (.at (.neg (.int 1)))) (.lst [.bl false]), .bin .Add (.lst [.bl false]) (.sl (.v 0) (.at (.int 1)) .no)])),
  .ret (.bin .Add (.v 1) (.lst [.bin .Add (.sl (.v 0) .no (.at (.neg (.int 1)))) (.lst [.str "1"]), .mth .join (.str "") [.lc [("_law_bit", 2)] (.nm 2) (.val (.v 0)) [] (.blt .str1 [.v 2])], .lst [.v 0], .dK0, .bin .Add (.sl (.v 0) .no (.at (.neg (.int 1)))) (.lst [.tup [.int 0]]), .tup [.non], .lst []]))]
def spOth3 : Spec
  | [.ref p], S, Q, _ => ∃ (n : Nat) (b : List Int), S p = some (.lst (vI b)) ∧ SdB n b ∧ 1 ≤ n ∧ n ≤ 60 ∧ ∀ T q vs, S.le T → T q = some (.lst vs) → (∀ v ∈ vs, NoSd T n v) → Q (.ref q) T
  | _, _, _, _ => False
section
variable {G : Gam} {X : XPost} {ρ : Loc} {S0 : Sto} {n : Nat} {p : Addr} {b : List Int}
theorem gn_first {a : E} {x : Val} (h0 : ρ[0]? = some (some (.ref p))) (hp : S0 p = some (.lst (vI b))) (hl : b.length ≤ 60) (h : ∀ (S : Sto) (Q : Post), S0.le S → Q x S → wE G X a ρ S Q) (hx : ∀ T, S0.le T → BadB T x) : GN G X ρ S0 n (.bin .Add (.lst [a]) (.sl (.v 0) (.at (.int 1)) .no)) := by
  refine GE.gn (xs := [x] ++ M.cut (vI b) (some 1) none) (.add (.one h) (.sl (.v h0 hp) (fun S R q => by simp_wf; exact q) (fun S R q => by simp_wf; exact q)) ?_) ?_
  · rw [cut_drop1, vI_len]; simp; omega
  · intro T v l s
    exact .bad (b := []) (x := x) s (fun _ h => nomatch h) (hx T l)
theorem gn_last {a : E} {x : Val} (h0 : ρ[0]? = some (some (.ref p))) (hp : S0 p = some (.lst (vI b))) (h1 : 1 ≤ b.length) (hb : ∀ y ∈ b, y = 0 ∨ y = 1) (hl : b.length ≤ 60) (h : ∀ (S : Sto) (Q : Post), S0.le S → Q x S → wE G X a ρ S Q) (hx : ∀ T, S0.le T → BadB T x) : GN G X ρ S0 n (.bin .Add (.sl (.v 0) .no (.at (.neg (.int 1)))) (.lst [a])) := by
  refine GE.gn (xs := M.cut (vI b) none (some (-1)) ++ [x]) (.add (.sl (.v h0 hp) (fun S R q => by simp_wf; exact q) (fun S R q => by simp_wf; exact q)) (.one h) ?_) ?_
  · rw [cut_last h1, vI_len]; simp; omega
  · intro T v l s
    rw [cut_last h1] at s
    exact .bad (b := b.dropLast) (x := x) (r := []) s (fun y hy => hb y (List.dropLast_subset _ hy)) (hx T l)
end
theorem bad_oth {S : Sto} {x : Val} {nm : String} (h : tyName x S = some nm) (h2 : nm ∈ ["NoneType", "bool", "int", "str", "tuple", "list", "dict"]) (h3 : isPt x = false) (h4 : isI x = false) : BadB S x := .inl ⟨⟨nm, h, h2, h3⟩, h4⟩
theorem join_len {b : List Int} (hb : ∀ y ∈ b, y = 0 ∨ y = 1) : ((b.map fun i => (toString i : Str)).map (·.length)).sum ≤ b.length := by
  induction b with
  | nil => exact Nat.le_refl _
  | cons x r ih =>
    have i := ih fun y hy => hb y (List.mem_cons_of_mem _ hy)
    have hx : ((toString x : Str)).length ≤ 1 := by
      rcases hb x (List.mem_cons_self ..) with rfl | rfl <;> decide +kernel
    simp only [List.map_cons, List.sum_cons, List.length_cons]
    omega
theorem body_Lothers {G : Gam} : Body G N_Lothers P_Lothers B_Lothers spOth3 := by
  intro vs S Q X h
  unfold spOth3 at h
  split at h
  · rename_i p
    obtain ⟨n, b, hp, sd, n1, n60, h⟩ := h
    obtain ⟨hbl, hb⟩ := sd
    have hb1 : 1 ≤ b.length := by omega
    have hb60 : b.length ≤ 60 := by omega
    refine ⟨rfl, ?_⟩
    simp only [N_Lothers, B_Lothers]
    refine wCs_step fun nx hn => ?_
    simp only [w_asg, e_lst]
    have v0 : GE G (fun c S => X c S) [some (.ref p), none, none] S (.v 0) (vI b) := .v rfl hp
    refine GN.all (n := n) (S0 := S) ?_ S _ .refl fun T vs1 lT _ hv1 => ?_
    · intro e he
      simp only [List.mem_cons, List.not_mem_nil, or_false] at he
      rcases he with rfl | rfl | rfl | rfl | rfl | rfl | rfl | rfl
      · refine GE.len (GE.add (.v rfl hp) (.one (x := .int 0) fun S Q _ q => by simp_wf; exact q) ?_) ?_
        · rw [vI_len]; simp; omega
        · rw [List.length_append, vI_len]; simp; omega
      · refine GE.len (GE.sl (.v rfl hp) (fun S R q => by simp_wf; exact q) (fun S R q => by simp_wf; exact q)) ?_
        rw [cut_drop1, vI_len, List.length_drop]; omega
      · intro S1 Q1 l1 q1
        simp_wf
        refine ⟨_, .lst (l1 _ _ hp), ?_⟩
        simp_wf
        refine ⟨by rw [vI_len]; exact Nat.le_trans (show b.length + 1 ≤ 61 by omega) (by decide), q1 _ _ .refl (.len (.inl rfl) ?_)⟩
        rw [List.length_append, vI_len]; simp; omega
      · exact gn_first (x := .int 2) rfl hp hb60 (fun S Q _ q => by simp_wf; exact q) fun T _ => .inr ⟨2, rfl, by decide⟩
      · exact gn_last (x := .int (-1)) rfl hp hb1 hb hb60 (fun S Q _ q => by simp_wf; exact q) fun T _ => .inr ⟨-1, rfl, by decide⟩
      · exact gn_first (x := .bl true) rfl hp hb60 (fun S Q _ q => by simp_wf; exact q) fun T _ => bad_oth (nm := "bool") rfl (by decide) rfl rfl
      · intro S1 Q1 l1 q1
        simp_wf
        exact q1 _ _ .refl (.oth (nm := "NoneType") rfl (by decide))
      · intro S1 Q1 l1 q1
        simp_wf
        exact q1 _ _ .refl (.oth (nm := "int") rfl (by decide))
    subst hn
    refine ⟨by rw [show vs1.length = 8 from ‹_›]; decide, fun q hq => ?_⟩
    have lq : S.le (T.upd q (.lst vs1)) := lT.new hq
    have hv1 : ∀ v ∈ vs1, NoSd (T.upd q (.lst vs1)) n v := fun v hv => (hv1 v hv).le (le_new hq)
    have hqq : (T.upd q (.lst vs1)) q = some (.lst vs1) := Sto.upd_same
    generalize T.upd q (.lst vs1) = S1 at *
    have hp1 := lq _ _ hp
    simp only [r_nm, List.set_cons_succ, List.set_cons_zero]
    refine wCs_step fun nx hn => ?_
    simp only [w_asg, e_bin, e_v]
    refine ⟨_, rfl, ?_⟩
    simp only [e_lst]
    refine GN.all (n := n) (S0 := S1) ?_ S1 _ .refl fun T vs2 lT hl2 hv2 => ?_
    · intro e he
      simp only [List.mem_cons, List.not_mem_nil, or_false] at he
      rcases he with rfl | rfl | rfl
      · exact gn_last (x := .bl true) rfl hp1 hb1 hb hb60 (fun S Q _ q => by simp_wf; exact q) fun T _ => bad_oth (nm := "bool") rfl (by decide) rfl rfl
      · exact gn_last (x := .bl false) rfl hp1 hb1 hb hb60 (fun S Q _ q => by simp_wf; exact q) fun T _ => bad_oth (nm := "bool") rfl (by decide) rfl rfl
      · exact gn_first (x := .bl false) rfl hp1 hb60 (fun S Q _ q => by simp_wf; exact q) fun T _ => bad_oth (nm := "bool") rfl (by decide) rfl rfl
    refine ⟨by rw [hl2]; decide, fun q2 hq2 => ?_⟩
    have lq2 : S1.le (T.upd q2 (.lst vs2)) := lT.new hq2
    have hv2 : ∀ v ∈ vs2, NoSd (T.upd q2 (.lst vs2)) n v := fun v hv => (hv2 v hv).le (le_new hq2)
    have hqq2 : (T.upd q2 (.lst vs2)) q2 = some (.lst vs2) := Sto.upd_same
    generalize T.upd q2 (.lst vs2) = S2 at *
    simp only [wBin, r_add_rr]
    refine ⟨vs1, vs2, lq2 _ _ hqq, hqq2, by rw [hl2, show vs1.length = 8 from ‹_›]; decide, fun q3 hq3 => ?_⟩
    have hp2 := lq2 _ _ hp1
    have l3 : S.le (S2.upd q3 (.lst (vs1 ++ vs2))) := (lq.trans lq2).new hq3
    have hp3 := Sto.old (u := .lst (vs1 ++ vs2)) hp2 hq3
    have hv3 : ∀ v ∈ vs1 ++ vs2, NoSd (S2.upd q3 (.lst (vs1 ++ vs2))) n v := fun v hv => by
      rcases List.mem_append.mp hv with hv | hv
      · exact (hv1 v hv).le (lq2.new hq3)
      · exact (hv2 v hv).le (le_new hq3)
    have hqq3 : (S2.upd q3 (.lst (vs1 ++ vs2))) q3 = some (.lst (vs1 ++ vs2)) := Sto.upd_same
    generalize S2.upd q3 (.lst (vs1 ++ vs2)) = S3 at *
    subst hn
    simp only [r_nm, List.set_cons_succ, List.set_cons_zero]
    simp only [wCs, w_ret, e_bin, e_v]
    refine ⟨_, rfl, ?_⟩
    simp only [e_lst]
    refine GN.all (n := n) (S0 := S3) ?_ S3 _ .refl fun T vs4 lT hl4 hv4 => ?_
    · intro e he
      simp only [List.mem_cons, List.not_mem_nil, or_false] at he
      rcases he with rfl | rfl | rfl | rfl | rfl | rfl | rfl
      · exact gn_last (x := .str "1") rfl hp3 hb1 hb hb60 (fun S Q _ q => by simp_wf; exact q) fun T _ => bad_oth (nm := "str") rfl (by decide) rfl rfl
      · intro S4 Q4 l4 q4
        simp only [e_mth, e_str, r_tyM_join, true_and, wEs]
        refine lc_list_fm (xs := b) (f := Val.int) (l := p) (fun _ => true) (fun x => .str (toString x)) (fun Q q => by simp_wf; exact q) (.lst (l4 _ _ hp3)) (by omega) (fun x hx R r1 r0 => ?_) fun k hk => ?_
        · simp_wf
          refine ⟨?_, r1 rfl⟩
          rcases hb x hx with rfl | rfl <;> decide
        · rw [List.filter_eq_self.mpr (fun _ _ => rfl)]
          rw [r_join]
          refine ⟨b.map fun i => (toString i : Str), ?_, ?_, q4 _ _ (le_new hk) (.oth (nm := "str") rfl (by decide))⟩
          · rw [List.map_map]; exact rd_upd
          · have := join_len hb
            rw [List.length_map]
            show _ + b.length * 0 ≤ _
            omega
      · refine GE.gn (.one (x := .ref p) fun S Q _ q => by simp_wf; exact q) fun T v l s => ?_
        exact .bad (b := []) s (fun _ h => nomatch h) (bad_oth (nm := "list") (by simp only [tyName, l _ _ hp3]) (by decide) rfl rfl)
      · intro S4 Q4 l4 q4
        simp_wf
        intro k hk
        exact q4 _ _ (le_new hk) (.oth (nm := "dict") (by simp only [tyName, Sto.upd_same]) (by decide))
      · exact gn_last (x := .tup [.int 0]) rfl hp3 hb1 hb hb60 (fun S Q _ q => by simp_wf; exact q) fun T _ => bad_oth (nm := "tuple") rfl (by decide) rfl rfl
      · intro S4 Q4 l4 q4
        simp_wf
        exact q4 _ _ .refl (.bad (b := []) (r := []) (.inl rfl) (fun _ h => nomatch h) (bad_oth (nm := "NoneType") rfl (by decide) rfl rfl))
      · exact GE.len .nil (by simp; omega)
    refine ⟨by rw [hl4]; decide, fun q4 hq4 => ?_⟩
    simp only [wBin, r_add_rr]
    have l4 : S3.le (T.upd q4 (.lst vs4)) := lT.new hq4
    have hl12 : (vs1 ++ vs2).length = 11 := by rw [List.length_append, hl2, show vs1.length = 8 from ‹_›]; rfl
    refine ⟨vs1 ++ vs2, vs4, l4 _ _ hqq3, Sto.upd_same, by rw [hl4, hl12]; decide, fun q5 hq5 => ?_⟩
    refine ⟨_, .refl, h _ q5 _ ((l3.trans l4).new hq5) Sto.upd_same fun v hv => ?_⟩
    rcases List.mem_append.mp hv with hv | hv
    · exact (hv3 v hv).le (l4.new hq5)
    · exact ((hv4 v hv).le (le_new hq4)).le (le_new hq5)
  · exact h.elim
def spWo3 : Spec
  | [v, .ref p], S, Q, _ => ∃ (W : Web) (bits : List Int), v = vW W ∧ S p = some (.lst (vI bits)) ∧ W.Ok ∧ bits.length = W.n ∧ Q (vQ (cutS bits W.ts)) S
  | _, _, _, _ => False
theorem body_Lweight_of3 {G : Gam} (g : G.fn "_law_sum" = some spSum) : Body G N_Lweight_of P_Lweight_of B_Lweight_of spWo3 := by
  intro vs S Q X h
  unfold spWo3 at h
  split at h
  · rename_i v p
    obtain ⟨W, bits, rfl, hp, ok, hb, h⟩ := h
    refine ⟨rfl, ?_⟩
    simp only [B_Lweight_of, N_Lweight_of]
    simp_wf
    simp only [g, Option.some.injEq, exists_eq_left']
    have hlen := ok.len
    refine lc_tup_fm (xs := W.ts) (f := vT) (crossB bits) (fun t => vQ t.w) (fun Q q => by simp_wf; exact q) (by omega) (fun t ht R r1 r0 => ?_) fun q hq => ?_
    · obtain ⟨e1, e2⟩ := ok.ends t ht
      simp_wf
      refine ⟨_, _, .lst hp, at_bits (by omega), _, _, .lst hp, at_bits (by omega), ?_⟩
      simp_wf
      split
      · rename_i hne
        exact r1 (by unfold crossB; rw [decide_eq_false hne]; rfl)
      · rename_i hne
        exact r0 (by unfold crossB; rw [decide_eq_true (Decidable.not_not.mp hne)]; decide)
    · refine .of ⟨wts (W.ts.filter (crossB bits)), ?_, ?_, ?_⟩
      · unfold wts
        rw [List.map_map]
        exact rd_upd
      · refine SumOk.of (k := 170) (fun r hr => ?_) ?_ (by decide)
        · unfold wts at hr
          obtain ⟨t, ht, rfl⟩ := List.mem_map.mp hr
          exact (ok.wt t (List.mem_filter.mp ht).1).sz
        · unfold wts
          rw [List.length_map]
          exact Nat.le_trans (List.length_filter_le _ _) hlen
      · exact ⟨_, Sto.le.new .refl hq, h⟩
  · exact h.elim
theorem getD_map0 {b : List Int} {f : Int → Int} {i : Nat} (h : i < b.length) : (b.map f).getD i 0 = f (b.getD i 0) := by
  rw [List.getD_eq_getElem?_getD, List.getD_eq_getElem?_getD, List.getElem?_map, List.getElem?_eq_getElem h]; rfl
theorem bit_getD {n : Nat} {b : List Int} (h : SdB n b) {i : Nat} (hi : i < n) : b.getD i 0 = 0 ∨ b.getD i 0 = 1 := h.2 _ (by
  have := h.1
  rw [List.getD_eq_getElem?_getD, List.getElem?_eq_getElem (by omega)]
  exact List.getElem_mem ..)
theorem cross_tn {n : Nat} {b : List Int} {t : Tie} (h : SdB n b) (h1 : t.a < n) (h2 : t.b < n) : crossB (tnB b) t = crossB b t := by
  have hl := h.1
  have a := bit_getD h h1
  have c := bit_getD h h2
  have d := bit_getD h (i := 0) (by omega)
  unfold crossB tnB
  rw [getD_map0 (by omega), getD_map0 (by omega)]
  congr 1
  rw [decide_eq_decide]
  rcases a with a | a <;> rcases c with c | c <;> rcases d with d | d <;> rw [a, c, d] <;> decide
theorem cutS_tn {W : Web} {b : List Int} (ok : W.Ok) (h : SdB W.n b) : cutS (tnB b) W.ts = cutS b W.ts := by
  unfold cutS
  congr 2
  exact List.filter_congr fun t ht => cross_tn h (by have := ok.ends t ht; omega) (ok.ends t ht).2
theorem sd_tn {n : Nat} {b : List Int} (h : SdB n b) : SdB n (tnB b) := ⟨by unfold tnB; rw [List.length_map]; exact h.1, fun x hx => by
  unfold tnB at hx
  obtain ⟨y, _, rfl⟩ := List.mem_map.mp hx
  omega⟩
theorem tn_0 {n : Nat} {b : List Int} (h : SdB n b) (hn : 1 ≤ n) : (tnB b).getD 0 0 = 0 := by
  unfold tnB
  rw [getD_map0 (by have := h.1; omega)]
  have := bit_getD h (i := 0) (by omega)
  omega
theorem tn_tn {n : Nat} {b : List Int} (h : SdB n b) (hn : 1 ≤ n) : tnB (tnB b) = tnB b := by
  show (tnB b).map (fun x => (x + (tnB b).getD 0 0) % 2) = tnB b
  rw [tn_0 h hn]
  conv => rhs; rw [← List.map_id (tnB b)]
  refine List.map_congr_left fun x hx => ?_
  rcases (sd_tn h).2 x hx with rfl | rfl <;> rfl
theorem sd_flip {n : Nat} {b : List Int} (h : SdB n b) : SdB n (b.map fun x => 1 - x) := ⟨by rw [List.length_map]; exact h.1, fun x hx => by
  obtain ⟨y, hy, rfl⟩ := List.mem_map.mp hx
  rcases h.2 y hy with rfl | rfl <;> simp⟩
theorem tn_flip {n : Nat} {b : List Int} (h : SdB n b) (hn : 1 ≤ n) : tnB (b.map fun x => 1 - x) = tnB b := by
  unfold tnB
  rw [getD_map0 (by have := h.1; omega), List.map_map]
  refine List.map_congr_left fun x hx => ?_
  have := bit_getD h (i := 0) (by omega)
  have := h.2 x hx
  show (1 - x + (1 - b.getD 0 0)) % 2 = (x + b.getD 0 0) % 2
  omega
theorem cut_none {W : Web} (b : List Int) (h : ∀ i, b.getD i 0 = 0) : cutS b W.ts = 0 := by
  unfold cutS
  rw [List.filter_eq_nil_iff.mpr fun t _ => by unfold crossB; rw [h, h]; decide]
  rfl
structure GK03 (G : Gam) : Prop where
  str : G.fn "_law_stream" = some spStream
  cell : G.fn "_law_cell_at" = some spCell
  nx : G.fn "_law_next" = some spNext
  web : G.fn "_law_web" = some spDrawn
  made : G.fn "made_side" = some spMade3
  wo : G.fn "weight_of" = some (spSide fun W bits => vQ (cutS bits W.ts))
  lwo : G.fn "_law_weight_of" = some spWo3
  oth : G.fn "_law_others" = some spOth3
  isn : G.fn "_law_is_none" = some spNone3
def N_law : List Str := ["_law_script", "_law_xs", "_law_web_here", "_law_ys", "_law_bits", "_law_k", "_law_right", "_law_bit", "_law_handed", "_law_thing"]
def P_law : List Str := ["_law_script"]
def B_law : List C := [
  .asg (.nm 1) (.call "_law_stream" [.call "_law_cell_at" [.v 0, .int 0], .int 190]),
  .asg (.nm 2) (.call "_law_web" [.v 1, .int 1, .int 9]),
  .asg (.nm 3) (.call "_law_stream" [.call "_law_cell_at" [.v 0, .int 1], .int 12]),
  .asg (.nm 4) (.lc [("_law_k", 5)] (.nm 5) (.rng1 (.ix (.v 2) (.int 0))) [] (.call "_law_next" [.v 3, .int 2])),
  .asg (.nm 6) (.blt .tuple1 [.lc [("_law_bit", 7)] (.nm 7) (.val (.v 4)) [] (.bin .Mod (.bin .Add (.v 7) (.ix (.v 4) (.int 0))) (.int 2))]),
  .asg (.nm 8) (.blt .list1 [.v 4]),
  .ite (.or [.cmp .NotEq (.call "made_side" [.v 2, .v 8]) (.v 6), .cmp .NotEq (.v 8) (.v 4), .cmp .NotEq (.call "made_side" [.v 2, .blt .tuple1 [.v 4]]) (.v 6)]) [.ret (.bl false)] [],
  .ite (.or [.cmp .NotEq (.call "made_side" [.v 2, .lc [("_law_bit", 7)] (.nm 7) (.val (.v 4)) [] (.bin .Sub (.int 1) (.v 7))]) (.v 6), .cmp .NotEq (.call "made_side" [.v 2, .v 6]) (.v 6), .cmp .NotEq (.ix (.v 6) (.int 0)) (.int 0)]) [.ret (.bl false)] [],
  .ite (.or [.cmp .NotEq (.call "weight_of" [.v 2, .v 6]) (.call "_law_weight_of" [.v 2, .v 4]), .not (.val (.isi (.call "made_side" [.v 2, .v 8]) "tuple"))]) [.ret (.bl false)] [],
  .loop (.nm 9) (.val (.call "_law_others" [.v 4])) [.ite (.not (.val (.call "_law_is_none" [.v 2, .v 9]))) [.ret (.bl false)] []],
  .ret (.cmp .Eq (.call "weight_of" [.v 2, .bin .Mult (.tup [.int 0]) (.ix (.v 2) (.int 0))]) (.tup [.int 0, .int 1]))]
theorem body_law {G : Gam} (g : GK03 G) : Body G N_law P_law B_law spLaw := by
  intro vs S Q X h
  unfold spLaw at h
  split at h
  · rename_i w
    obtain ⟨⟨ns, hl, hw⟩, h⟩ := h
    refine ⟨rfl, ?_⟩
    simp only [N_law, B_law]
    refine wCs_step fun nx hn => ?_
    simp_wf
    try simp only [g.str, g.cell, Option.some.injEq, exists_eq_left']
    refine .of ⟨⟨ns, hw⟩, by decide, fun i => ?_⟩
    refine .of ⟨by decide, by decide, fun p ms hp _ => ?_⟩
    have d0 : DkA (S.upd p (.lst (vI ms))) p := ⟨_, Sto.upd_same⟩
    have l0 : S.le (S.upd p (.lst (vI ms))) := le_new hp
    generalize S.upd p (.lst (vI ms)) = S0 at *
    subst hn
    refine wCs_step fun nx hn => ?_
    simp_wf
    try simp only [g.web, Option.some.injEq, exists_eq_left']
    refine .of ⟨d0, by decide, by decide, by decide, fun W ms2 ok _ w1 w7 => ?_⟩
    have l1 : S.le (S0.upd p (.lst (vI ms2))) := l0.own hp
    generalize S0.upd p (.lst (vI ms2)) = S1 at *
    have hn1 := ok.n1
    have hn2 := ok.n2
    subst hn
    refine wCs_step fun nx hn => ?_
    simp_wf
    try simp only [g.str, g.cell, Option.some.injEq, exists_eq_left']
    refine .of ⟨⟨ns, rd_le hw l1⟩, by decide, fun i2 => ?_⟩
    refine .of ⟨by decide, by decide, fun p2 ms3 hp2 _ => ?_⟩
    have d2 : DkA (S1.upd p2 (.lst (vI ms3))) p2 := ⟨_, Sto.upd_same⟩
    have l2 : S1.le (S1.upd p2 (.lst (vI ms3))) := le_new hp2
    generalize S1.upd p2 (.lst (vI ms3)) = S2 at *
    subst hn
    refine wCs_step fun nx hn => ?_
    simp only [w_asg]
    refine lc_rng1_ix (n := W.n) (S1 := S2) (fun j acc V => Fr p2 S2 V ∧ DkA V p2 ∧ ∃ l : List Int, acc = vI l ∧ l.length = j ∧ ∀ x ∈ l, x = 0 ∨ x = 1) (fun Q q => by simp only [vW]; simp_wf; exact q) (by omega) (fun j acc V ⟨_, _, l, e, e2, _⟩ => by rw [e, vI_len, e2]; exact Nat.le_refl _) ⟨.refl, d2, [], rfl, rfl, fun _ h => nomatch h⟩ ?_ ?_
    · rintro acc V ⟨fV, dV, b, rfl, hl, hb⟩ q hq
      have sd : SdB W.n b := ⟨hl, hb⟩
      have bne : b ≠ [] := fun e => by subst e; simp at hl; omega
      have lS : S.le (V.upd q (.lst (vI b))) := fun a o e => by
        have n1 : a ≠ p2 := fun z => by subst z; have := l1 _ _ e; rw [hp2] at this; cases this
        exact Sto.old (fV _ _ n1 (l2 _ _ (l1 _ _ e))) hq
      have hqq : (V.upd q (.lst (vI b))) q = some (.lst (vI b)) := Sto.upd_same
      generalize V.upd q (.lst (vI b)) = S3 at *
      simp_wf
      subst hn
      refine wCs_step fun nx hn => ?_
      simp_wf
      refine lc_list_fm (xs := b) (f := Val.int) (l := q) (fun _ => true) (fun x => .int ((x + b.getD 0 0) % 2)) (fun Q q => by simp_wf; exact q) (.lst hqq) (by omega) (fun x hx R r1 r0 => ?_) fun k hk => ?_
      · simp_wf
        refine ⟨_, _, .lst hqq, atI_0 bne, ?_⟩
        simp_wf
        rw [imod_pos (by decide)]
        exact ⟨by decide, r1 rfl⟩
      rw [List.filter_eq_self.mpr (fun _ _ => rfl), tn_map]
      simp_wf
      refine ⟨_, rd_upd, ?_⟩
      have lS4 : S.le (S3.upd k (.lst (vI (tnB b)))) := lS.new hk
      have hq4 := Sto.old (u := .lst (vI (tnB b))) hqq hk
      generalize S3.upd k (.lst (vI (tnB b))) = S4 at *
      subst hn
      refine wCs_step fun nx hn => ?_
      simp_wf
      refine ⟨_, .lst hq4, fun q5 hq5 => ?_⟩
      have lS5 : S.le (S4.upd q5 (.lst (vI b))) := lS4.new hq5
      have hqb := Sto.old (u := .lst (vI b)) hq4 hq5
      have hqh : (S4.upd q5 (.lst (vI b))) q5 = some (.lst (vI b)) := Sto.upd_same
      generalize S4.upd q5 (.lst (vI b)) = S5 at *
      subst hn
      refine wCs_step fun nx hn => ?_
      simp_wf
      try simp only [g.made, Option.some.injEq, exists_eq_left']
      refine .of ⟨W, rfl, ok, .inl ⟨b, .inr ⟨_, rfl, hqh⟩, sd, ?_⟩⟩
      simp only [wCmp, eq_vI]
      simp_wf
      refine cEq_ints (.lst hqh) (.lst hqb) ?_
      simp_wf
      refine ⟨_, .lst hqb, ?_⟩
      simp_wf
      try simp only [g.made, Option.some.injEq, exists_eq_left']
      refine .of ⟨W, rfl, ok, .inl ⟨b, .inl rfl, sd, ?_⟩⟩
      simp only [wCmp, eq_vI]
      simp_wf
      refine .inl ?_
      subst hn
      refine wCs_step fun nx hn => ?_
      simp_wf
      try simp only [g.made, Option.some.injEq, exists_eq_left']
      refine lc_list_fm (xs := b) (f := Val.int) (l := q) (fun _ => true) (fun x => .int (1 - x)) (fun Q q => by simp_wf; exact q) (.lst hqb) (by omega) (fun x hx R r1 r0 => ?_) fun k6 hk6 => ?_
      · simp_wf
        exact r1 rfl
      rw [List.filter_eq_self.mpr (fun _ _ => rfl), show b.map (fun x => Val.int (1 - x)) = vI (b.map fun x => 1 - x) by unfold vI; rw [List.map_map]; rfl]
      have lS6 := lS5.new (o := .lst (vI (b.map fun x => 1 - x))) hk6
      have hqb6 := Sto.old (u := .lst (vI (b.map fun x => 1 - x))) hqb hk6
      have hqh6 := Sto.old (u := .lst (vI (b.map fun x => 1 - x))) hqh hk6
      have hk6' : (S5.upd k6 (.lst (vI (b.map fun x => 1 - x)))) k6 = some (.lst (vI (b.map fun x => 1 - x))) := Sto.upd_same
      generalize S5.upd k6 (.lst (vI (b.map fun x => 1 - x))) = S6 at *
      refine .of ⟨W, rfl, ok, .inl ⟨_, .inr ⟨_, rfl, hk6'⟩, sd_flip sd, ?_⟩⟩
      rw [tn_flip sd hn1]
      simp only [wCmp, eq_vI]
      simp_wf
      try simp only [g.made, Option.some.injEq, exists_eq_left']
      refine .of ⟨W, rfl, ok, .inl ⟨_, .inl rfl, sd_tn sd, ?_⟩⟩
      rw [tn_tn sd hn1]
      simp only [wCmp, eq_vI]
      simp_wf
      have a0 : atI (vI (tnB b)) 0 = some (.int 0) := by
        have h9 : (tnB b).length = b.length := tnB_len
        have h8 : tnB b ≠ [] := fun e => by
          rw [e] at h9
          simp only [List.length_nil] at h9
          omega
        have := atI_0 h8
        rw [tn_0 sd hn1] at this; exact this
      refine ⟨_, a0, ?_⟩
      simp_wf
      subst hn
      refine wCs_step fun nx hn => ?_
      simp_wf
      try simp only [g.wo, Option.some.injEq, exists_eq_left']
      refine .of ⟨W, _, rfl, rfl, ok, (sd_tn sd).1, ?_⟩
      try simp only [g.lwo, Option.some.injEq, exists_eq_left']
      refine .of ⟨W, b, rfl, hqb6, ok, hl, ?_⟩
      rw [cutS_tn ok sd]
      simp only [wCmp, eq_vQ]
      simp_wf
      try simp only [g.made, Option.some.injEq, exists_eq_left']
      refine .of ⟨W, rfl, ok, .inl ⟨_, .inr ⟨_, rfl, hqh6⟩, sd, ?_⟩⟩
      simp_wf
      subst hn
      refine wCs_step fun nx hn => ?_
      refine loop_made (fun v U => ∃ y vs, v = .ref y ∧ S6.le U ∧ U y = some (.lst vs) ∧ ∀ x ∈ vs, NoSd U W.n x) ?_ ?_
      · simp_wf
        try simp only [g.oth, Option.some.injEq, exists_eq_left']
        exact .of ⟨W.n, b, hqb6, sd, hn1, hn2, fun T y vs lT hy hv => ⟨y, vs, rfl, lT, hy, hv⟩⟩
      · rintro v U ⟨y, vs, rfl, lU, hy, hv⟩
        refine ⟨y, vs, rfl, .lst hy, ?_⟩
        refine forW_inv (fun r ρ V => (∀ x ∈ r, NoSd U W.n x) ∧ V = U ∧ ∃ o, ρ = [some (.ref w), some (.ref p), some (vW W), some (.ref p2), some (.ref q), none, some (.tup (vI (tnB b))), none, some (.ref q5), o]) (fun r ρ V ⟨_, e, _⟩ => e ▸ .lst hy) ?_ ?_ _ _ _ ⟨hv, rfl, _, rfl⟩
        · rintro ρ V ⟨_, rfl, o, rfl⟩
          subst hn
          simp only [vW]
          simp_wf
          refine ⟨_, g.wo, by omega, by omega, by decide, ?_⟩
          have e0 : (List.replicate W.n [Val.int 0]).flatten = vI (List.replicate W.n 0) := by
            unfold vI
            rw [List.map_replicate]
            generalize W.n = m
            induction m with
            | zero => rfl
            | succ m ih => rw [List.replicate_succ, List.flatten_cons, ih, List.replicate_succ]; rfl
          try simp only [Int.toNat_natCast]
          rw [e0]
          refine .of ⟨W, _, rfl, rfl, ok, by simp, ?_⟩
          have e2 : cutS (List.replicate W.n 0) W.ts = 0 := cut_none _ fun i => by
            rw [List.getD_eq_getElem?_getD, List.getElem?_replicate]
            split <;> rfl
          show cEq false (vQ (cutS (List.replicate W.n 0) W.ts)) _ V _
          rw [e2]
          have e1 : Val.tup [.int 0, .int 1] = vQ 0 := rfl
          rw [e1]
          simp only [wCmp, eq_vQ]
          simp_wf
          exact ⟨_, lS6.trans lU, h⟩
        · rintro x r ρ V ⟨hr, rfl, o, rfl⟩ D' hnx hct hrt hbk hxc
          simp_wf
          try simp only [g.isn, Option.some.injEq, exists_eq_left']
          refine .of ⟨W, rfl, ok, hr x List.mem_cons_self, ?_⟩
          simp_wf
          exact hnx _ _ ⟨fun z hz => hr z (List.mem_cons_of_mem _ hz), rfl, _, rfl⟩
    · rintro j acc V hj ⟨fV, dV, l, rfl, hl, hb⟩ R r0 r1
      simp_wf
      try simp only [g.nx, Option.some.injEq, exists_eq_left']
      refine nxA_app (by decide) dV fun z V2 z0 z1 d3 f2 => ?_
      exact r1 _ _ ⟨fV.trans f2, d3, l ++ [z], vI_app, by simp [hl], fun x hx => by
        rcases List.mem_append.mp hx with hx | hx
        · exact hb x hx
        · rw [List.mem_singleton.mp hx]; omega⟩
  · exact h.elim
theorem lawB_of3 {G : Gam} {N P : List Str} {B : List C} (h : Body G N P B spLaw) : Body G N P B spLawB := fun vs S Q X hb => h vs S Q X (by
  unfold spLawB at hb
  unfold spLaw
  split at hb
  · obtain ⟨⟨ns, h1, _, h2⟩, h3⟩ := hb
    exact ⟨⟨ns, h1, h2⟩, h3⟩
  · exact hb.elim)
theorem body_lawB {G : Gam} (g : GK03 G) : Body G N_law P_law B_law spLawB := lawB_of3 (body_law g)
end M

set_option maxHeartbeats 0
namespace M
open PySem PySem.Spec PyProof.Rows L2
end M
namespace M
open MH PySem PySem.Spec PyProof.Rows L2
theorem sc_common_divisor : FnScope N_common_divisor P_common_divisor d_common_divisor.scope := ⟨rfl, rfl, rfl, by decide +kernel, rfl, by decide +kernel, by decide +kernel⟩
theorem mc_common_divisor : mCs N_common_divisor d_common_divisor.scope [] B_common_divisor d_common_divisor.body = true := by decide +kernel
theorem sc_is_int : FnScope N_is_int P_is_int d_is_int.scope := ⟨rfl, rfl, rfl, by decide +kernel, rfl, by decide +kernel, by decide +kernel⟩
theorem mc_is_int : mCs N_is_int d_is_int.scope [] B_is_int d_is_int.body = true := by decide +kernel
theorem sc_as_fraction : FnScope N_as_fraction P_as_fraction d_as_fraction.scope := ⟨rfl, rfl, rfl, by decide +kernel, rfl, by decide +kernel, by decide +kernel⟩
theorem mc_as_fraction : mCs N_as_fraction d_as_fraction.scope [] B_as_fraction d_as_fraction.body = true := by decide +kernel
theorem sc_plus : FnScope N_plus P_plus d_plus.scope := ⟨rfl, rfl, rfl, by decide +kernel, rfl, by decide +kernel, by decide +kernel⟩
theorem mc_plus : mCs N_plus d_plus.scope [] B_plus d_plus.body = true := by decide +kernel
theorem sc_turned : FnScope N_turned P_turned d_turned.scope := ⟨rfl, rfl, rfl, by decide +kernel, rfl, by decide +kernel, by decide +kernel⟩
theorem mc_turned : mCs N_turned d_turned.scope [] B_turned d_turned.body = true := by decide +kernel
theorem sc_made_sideD : FnScope N_made_sideD P_made_sideD d_made_sideD.scope := ⟨rfl, rfl, rfl, by decide +kernel, rfl, by decide +kernel, by decide +kernel⟩
theorem mc_made_sideD : mCs N_made_sideD d_made_sideD.scope ["NoSide"] B_made_sideD d_made_sideD.body = true := by decide +kernel
theorem sc_is_cut : FnScope N_is_cut P_is_cut d_is_cut.scope := ⟨rfl, rfl, rfl, by decide +kernel, rfl, by decide +kernel, by decide +kernel⟩
theorem mc_is_cut : mCs N_is_cut d_is_cut.scope [] B_is_cut d_is_cut.body = true := by decide +kernel
theorem sc_cut_ties : FnScope N_cut_ties P_cut_ties d_cut_ties.scope := ⟨rfl, rfl, rfl, by decide +kernel, rfl, by decide +kernel, by decide +kernel⟩
theorem mc_cut_ties : mCs N_cut_ties d_cut_ties.scope [] B_cut_ties d_cut_ties.body = true := by decide +kernel
theorem sc_weight_of : FnScope N_weight_of P_weight_of d_weight_of.scope := ⟨rfl, rfl, rfl, by decide +kernel, rfl, by decide +kernel, by decide +kernel⟩
theorem mc_weight_of : mCs N_weight_of d_weight_of.scope [] B_weight_of d_weight_of.body = true := by decide +kernel
theorem sc_Lcell_at : FnScope N_Lcell_at P_Lcell_at d_Lcell_at.scope := ⟨rfl, rfl, rfl, by decide +kernel, rfl, by decide +kernel, by decide +kernel⟩
theorem mc_Lcell_at : mCs N_Lcell_at d_Lcell_at.scope [] B_Lcell_at d_Lcell_at.body = true := by decide +kernel
theorem sc_LstreamA : FnScope N_LstreamA P_LstreamA d_LstreamA.scope := ⟨rfl, rfl, rfl, by decide +kernel, rfl, by decide +kernel, by decide +kernel⟩
theorem mc_LstreamA : mCs N_LstreamA d_LstreamA.scope [] B_LstreamA d_LstreamA.body = true := by decide +kernel
theorem sc_Lnext : FnScope N_Lnext P_Lnext d_Lnext.scope := ⟨rfl, rfl, rfl, by decide +kernel, rfl, by decide +kernel, by decide +kernel⟩
theorem mc_Lnext : mCs N_Lnext d_Lnext.scope [] B_Lnext d_Lnext.body = true := by decide +kernel
theorem sc_Ldivisor : FnScope N_Ldivisor P_Ldivisor d_Ldivisor.scope := ⟨rfl, rfl, rfl, by decide +kernel, rfl, by decide +kernel, by decide +kernel⟩
theorem mc_Ldivisor : mCs N_Ldivisor d_Ldivisor.scope [] B_Ldivisor d_Ldivisor.body = true := by decide +kernel
theorem sc_Lfraction : FnScope N_Lfraction P_Lfraction d_Lfraction.scope := ⟨rfl, rfl, rfl, by decide +kernel, rfl, by decide +kernel, by decide +kernel⟩
theorem mc_Lfraction : mCs N_Lfraction d_Lfraction.scope [] B_Lfraction d_Lfraction.body = true := by decide +kernel
theorem sc_Lweight : FnScope N_Lweight P_Lweight d_Lweight.scope := ⟨rfl, rfl, rfl, by decide +kernel, rfl, by decide +kernel, by decide +kernel⟩
theorem mc_Lweight : mCs N_Lweight d_Lweight.scope [] B_Lweight d_Lweight.body = true := by decide +kernel
theorem sc_Lweb : FnScope N_Lweb P_Lweb d_Lweb.scope := ⟨rfl, rfl, rfl, by decide +kernel, rfl, by decide +kernel, by decide +kernel⟩
theorem mc_Lweb : mCs N_Lweb d_Lweb.scope [] B_Lweb d_Lweb.body = true := by decide +kernel
theorem sc_Lsum : FnScope N_Lsum P_Lsum d_Lsum.scope := ⟨rfl, rfl, rfl, by decide +kernel, rfl, by decide +kernel, by decide +kernel⟩
theorem mc_Lsum : mCs N_Lsum d_Lsum.scope [] B_Lsum d_Lsum.body = true := by decide +kernel
theorem sc_Lweight_of : FnScope N_Lweight_of P_Lweight_of d_Lweight_of.scope := ⟨rfl, rfl, rfl, by decide +kernel, rfl, by decide +kernel, by decide +kernel⟩
theorem mc_Lweight_of : mCs N_Lweight_of d_Lweight_of.scope [] B_Lweight_of d_Lweight_of.body = true := by decide +kernel
theorem sc_Lis_none : FnScope N_Lis_none P_Lis_none d_Lis_none.scope := ⟨rfl, rfl, rfl, by decide +kernel, rfl, by decide +kernel, by decide +kernel⟩
theorem mc_Lis_none : mCs N_Lis_none d_Lis_none.scope ["NoSide"] B_Lis_none d_Lis_none.body = true := by decide +kernel
theorem sc_Lothers : FnScope N_Lothers P_Lothers d_Lothers.scope := ⟨rfl, rfl, rfl, by decide +kernel, rfl, by decide +kernel, by decide +kernel⟩
theorem mc_Lothers : mCs N_Lothers d_Lothers.scope [] B_Lothers d_Lothers.body = true := by decide +kernel
theorem sc_law : FnScope N_law P_law d_law.scope := ⟨rfl, rfl, rfl, by decide +kernel, rfl, by decide +kernel, by decide +kernel⟩
theorem mc_law : mCs N_law d_law.scope [] B_law d_law.body = true := by decide +kernel
def excL : List Str := ["NoSide"]
def G0 (K : PySem.W.Frag) : Gam := { fn := fun _ => none, cst := fun _ => none, new := fun _ => none, mt := fun _ _ => none, fo := fun _ _ => false, exm := fun x y => if (x == "NoSide" && y == "NoSide") = true then some true else none, exi := fun cc yy => if (cc == "NoSide" && yy == "CutError") = true then some true else if (cc == "NoSide" && yy == "ValueError") = true then some true else none, ecls := fun x => if excL.contains x = true then some (He.ga K x) else none }
section
variable {P : Program} {w : World} {K : PySem.W.Frag} {mg : Str → Option Value} {base h : Heap}
theorem blt0 (c : He.SaysD fa fn K) (X : K.In h) (GG : h.Ns mainGlobals mg) : ∀ x ∈ bltNames, mg x = none := by
    intro x hx
    simp only [bltNames, List.mem_cons, List.not_mem_nil, or_false] at hx
    rcases hx with rfl | rfl | rfl | rfl | rfl | rfl | rfl | rfl | rfl | rfl | rfl | rfl | rfl | rfl | rfl | rfl | rfl | rfl | rfl
    · exact He.free_ok X GG (c.fact 21 rfl)
    · exact He.free_ok X GG (c.fact 22 rfl)
    · exact He.free_ok X GG (c.fact 23 rfl)
    · exact He.free_ok X GG (c.fact 24 rfl)
    · exact He.free_ok X GG (c.fact 25 rfl)
    · exact He.free_ok X GG (c.fact 26 rfl)
    · exact He.free_ok X GG (c.fact 27 rfl)
    · exact He.free_ok X GG (c.fact 28 rfl)
    · exact He.free_ok X GG (c.fact 29 rfl)
    · exact He.free_ok X GG (c.fact 30 rfl)
    · exact He.free_ok X GG (c.fact 31 rfl)
    · exact He.free_ok X GG (c.fact 32 rfl)
    · exact He.free_ok X GG (c.fact 33 rfl)
    · exact He.free_ok X GG (c.fact 34 rfl)
    · exact He.free_ok X GG (c.fact 35 rfl)
    · exact He.free_ok X GG (c.fact 36 rfl)
    · exact He.free_ok X GG (c.fact 37 rfl)
    · exact He.free_ok X GG (c.fact 38 rfl)
    · exact He.free_ok X GG (c.fact 39 rfl)

theorem base0 (c : He.SaysD fa fn K) (X : K.In h) (GG : h.Ns mainGlobals mg) (ct : tc.all (tupM K) = true) (cx : xi.all (Xi.ok K) = true) : Base K mg (G0 K) := ⟨(fun _ _ h => by cases h), fun _ v h => (by have h : (none : Option Val) = some v := h; cases h), blt0 c X GG, rfl, (fun x y b h => by
    have h : (if (x == "NoSide" && y == "NoSide") = true then some true else none) = some b := h
    split at h
    · rename_i e
      cases h
      rw [Bool.and_eq_true, beq_iff_eq, beq_iff_eq] at e
      obtain ⟨rfl, rfl⟩ := e
      exact ⟨_, _, (show (if excL.contains "NoSide" = true then some (He.ga K "NoSide") else none) = some (He.ga K "NoSide") from if_pos (by decide +kernel)), (show (if excL.contains "NoSide" = true then some (He.ga K "NoSide") else none) = some (He.ga K "NoSide") from if_pos (by decide +kernel)), of_decide_eq_true (c.fact 42 rfl)⟩
    · cases h), (fun cc yy bb hh => by
    have hh : (if (cc == "NoSide" && yy == "CutError") = true then some true else if (cc == "NoSide" && yy == "ValueError") = true then some true else none) = some bb := hh
    split at hh
    · rename_i e
      cases hh
      rw [Bool.and_eq_true, beq_iff_eq, beq_iff_eq] at e
      obtain ⟨rfl, rfl⟩ := e
      have q := List.all_eq_true.mp cx (.own "NoSide" "CutError" true) (by decide +kernel)
      obtain ⟨q1, q2⟩ := Bool.and_eq_true_iff.mp q
      exact ⟨_, (show (if excL.contains "NoSide" = true then some (He.ga K "NoSide") else none) = some (He.ga K "NoSide") from if_pos (by decide +kernel)), excD_ok q1, .inl ⟨_, He.glo_ok X GG (c.fact 43 rfl), of_decide_eq_true q2⟩⟩
    · split at hh
      · rename_i e
        cases hh
        rw [Bool.and_eq_true, beq_iff_eq, beq_iff_eq] at e
        obtain ⟨rfl, rfl⟩ := e
        have q := List.all_eq_true.mp cx (.blt "NoSide" "ValueError" true) (by decide +kernel)
        obtain ⟨q1, q2⟩ := Bool.and_eq_true_iff.mp q
        exact ⟨_, (show (if excL.contains "NoSide" = true then some (He.ga K "NoSide") else none) = some (He.ga K "NoSide") from if_pos (by decide +kernel)), excD_ok q1, .inr ⟨He.free_ok X GG (c.fact 44 rfl), _, rfl, of_decide_eq_true q2⟩⟩
      · cases hh)⟩
theorem rk_NoSide (c : He.SaysD fa fn K) (X : K.In h) (GG : h.Ns mainGlobals mg) : RaisK K mg (G0 K).ecls "NoSide" (He.ga K "NoSide") := by
  obtain ⟨a, b, d, e⟩ := He.exc_ok (c.fact 40 rfl)
  have e0 : (G0 K).ecls "NoSide" = some (He.ga K "NoSide") := by
    show (if excL.contains "NoSide" = true then some (He.ga K "NoSide") else none) = _
    exact if_pos (by decide +kernel)
  exact ⟨e0, He.glo_ok X GG (c.fact 41 rfl), b, d, e, _, _, _, _, PySem.F.excBase_ValueError, a⟩
def tab0 : Tabs := {}
theorem tab_0 (c : He.SaysD fa fn K) (X : K.In h) (GG : h.Ns mainGlobals mg) (ct : tc.all (tupM K) = true) (cx : xi.all (Xi.ok K) = true) : TT P w K mg base (G0 K).ecls 0 tab0 := .nil
def tab1 : Tabs := { tab0 with fn := ("common_divisor", spCd) :: tab0.fn }
theorem tab_1 (c : He.SaysD fa fn K) (X : K.In h) (GG : h.Ns mainGlobals mg) (ct : tc.all (tupM K) = true) (cx : xi.all (Xi.ok K) = true) : TT P w K mg base (G0 K).ecls 1 tab1 :=
  .cons (G := G0 K) (base0 c X GG ct cx) (tab_0 c X GG ct cx) c X GG (d := d_common_divisor) 0 rfl 0 rfl rfl rfl rfl sc_common_divisor (fun _ h => by cases h) mc_common_divisor (fun _ _ _ _ _ _ _ us hl => match us, hl with | [_, _], _ => rfl) body_common_divisor
def tab2 : Tabs := { tab1 with fn := ("is_int", spInt) :: tab1.fn }
theorem tab_2 (c : He.SaysD fa fn K) (X : K.In h) (GG : h.Ns mainGlobals mg) (ct : tc.all (tupM K) = true) (cx : xi.all (Xi.ok K) = true) : TT P w K mg base (G0 K).ecls 2 tab2 :=
  .cons (G := G0 K) (base0 c X GG ct cx) (tab_1 c X GG ct cx) c X GG (d := d_is_int) 1 rfl 1 rfl rfl rfl rfl sc_is_int (fun _ h => by cases h) mc_is_int (fun _ _ _ _ _ _ _ us hl => match us, hl with | [_], _ => rfl) body_is_int
def tab3 : Tabs := { tab2 with fn := ("as_fraction", spAs) :: tab2.fn }
theorem tab_3 (c : He.SaysD fa fn K) (X : K.In h) (GG : h.Ns mainGlobals mg) (ct : tc.all (tupM K) = true) (cx : xi.all (Xi.ok K) = true) : TT P w K mg base (G0 K).ecls 3 tab3 :=
  .cons (G := G0 K) (base0 c X GG ct cx) (tab_2 c X GG ct cx) c X GG (d := d_as_fraction) 2 rfl 2 rfl rfl rfl rfl sc_as_fraction (fun _ h => by cases h) mc_as_fraction (fun _ _ _ _ _ _ _ us hl => match us, hl with | [_, _], _ => rfl) (body_as_fraction rfl)
def tab4 : Tabs := { tab3 with fn := ("plus", (spQ2 fun a b => vQ (a + b))) :: tab3.fn }
theorem tab_4 (c : He.SaysD fa fn K) (X : K.In h) (GG : h.Ns mainGlobals mg) (ct : tc.all (tupM K) = true) (cx : xi.all (Xi.ok K) = true) : TT P w K mg base (G0 K).ecls 4 tab4 :=
  .cons (G := G0 K) (base0 c X GG ct cx) (tab_3 c X GG ct cx) c X GG (d := d_plus) 3 rfl 3 rfl rfl rfl rfl sc_plus (fun _ h => by cases h) mc_plus (fun _ _ _ _ _ _ _ us hl => match us, hl with | [_, _], _ => rfl) (body_plusQ rfl)
def tab5 : Tabs := { tab4 with fn := ("turned", spTurn3) :: tab4.fn }
theorem tab_5 (c : He.SaysD fa fn K) (X : K.In h) (GG : h.Ns mainGlobals mg) (ct : tc.all (tupM K) = true) (cx : xi.all (Xi.ok K) = true) : TT P w K mg base (G0 K).ecls 5 tab5 :=
  .cons (G := G0 K) (base0 c X GG ct cx) (tab_4 c X GG ct cx) c X GG (d := d_turned) 4 rfl 4 rfl rfl rfl rfl sc_turned (fun _ h => by cases h) mc_turned (fun _ _ _ _ _ _ _ us hl => match us, hl with | [_], _ => rfl) body_turned3
def tab6 : Tabs := { tab5 with fn := ("made_side", spMade3) :: tab5.fn }
theorem tab_6 (c : He.SaysD fa fn K) (X : K.In h) (GG : h.Ns mainGlobals mg) (ct : tc.all (tupM K) = true) (cx : xi.all (Xi.ok K) = true) : TT P w K mg base (G0 K).ecls 6 tab6 :=
  .cons (G := G0 K) (base0 c X GG ct cx) (tab_5 c X GG ct cx) c X GG (d := d_made_sideD) 5 rfl 5 rfl rfl rfl rfl sc_made_sideD (fun x hx => by
    simp only [List.mem_cons, List.not_mem_nil, or_false] at hx
    rcases hx with rfl
    · exact ⟨_, rk_NoSide c X GG⟩) mc_made_sideD (fun _ _ _ _ _ _ _ us hl => match us, hl with | [_, _], _ => rfl) (body_made_side3 rfl rfl)
def tab7 : Tabs := { tab6 with fn := ("is_cut", (spCut fun _ b => .bl b)) :: tab6.fn }
theorem tab_7 (c : He.SaysD fa fn K) (X : K.In h) (GG : h.Ns mainGlobals mg) (ct : tc.all (tupM K) = true) (cx : xi.all (Xi.ok K) = true) : TT P w K mg base (G0 K).ecls 7 tab7 :=
  .cons (G := G0 K) (base0 c X GG ct cx) (tab_6 c X GG ct cx) c X GG (d := d_is_cut) 6 rfl 6 rfl rfl rfl rfl sc_is_cut (fun _ h => by cases h) mc_is_cut (fun _ _ _ _ _ _ _ us hl => match us, hl with | [_, _, _], _ => rfl) body_is_cut
def tab8 : Tabs := { tab7 with fn := ("cut_ties", (spSide fun W bits => .tup (vN (ixF (crossB bits) 0 W.ts)))) :: tab7.fn }
theorem tab_8 (c : He.SaysD fa fn K) (X : K.In h) (GG : h.Ns mainGlobals mg) (ct : tc.all (tupM K) = true) (cx : xi.all (Xi.ok K) = true) : TT P w K mg base (G0 K).ecls 8 tab8 :=
  .cons (G := G0 K) (base0 c X GG ct cx) (tab_7 c X GG ct cx) c X GG (d := d_cut_ties) 7 rfl 7 rfl rfl rfl rfl sc_cut_ties (fun _ h => by cases h) mc_cut_ties (fun _ _ _ _ _ _ _ us hl => match us, hl with | [_, _], _ => rfl) (body_cut_ties rfl)
def tab9 : Tabs := { tab8 with fn := ("weight_of", (spSide fun W bits => vQ (cutS bits W.ts))) :: tab8.fn }
theorem tab_9 (c : He.SaysD fa fn K) (X : K.In h) (GG : h.Ns mainGlobals mg) (ct : tc.all (tupM K) = true) (cx : xi.all (Xi.ok K) = true) : TT P w K mg base (G0 K).ecls 9 tab9 :=
  .cons (G := G0 K) (base0 c X GG ct cx) (tab_8 c X GG ct cx) c X GG (d := d_weight_of) 8 rfl 8 rfl rfl rfl rfl sc_weight_of (fun _ h => by cases h) mc_weight_of (fun _ _ _ _ _ _ _ us hl => match us, hl with | [_, _], _ => rfl) (body_weight_of rfl rfl)
def tab10 : Tabs := { tab9 with fn := ("_law_cell_at", spCell) :: tab9.fn }
theorem tab_10 (c : He.SaysD fa fn K) (X : K.In h) (GG : h.Ns mainGlobals mg) (ct : tc.all (tupM K) = true) (cx : xi.all (Xi.ok K) = true) : TT P w K mg base (G0 K).ecls 10 tab10 :=
  .cons (G := G0 K) (base0 c X GG ct cx) (tab_9 c X GG ct cx) c X GG (d := d_Lcell_at) 9 rfl 9 rfl rfl rfl rfl sc_Lcell_at (fun _ h => by cases h) mc_Lcell_at (fun _ _ _ _ _ _ _ us hl => match us, hl with | [_, _], _ => rfl) body_Lcell_at
def tab11 : Tabs := { tab10 with fn := ("_law_stream", spStream) :: tab10.fn }
theorem tab_11 (c : He.SaysD fa fn K) (X : K.In h) (GG : h.Ns mainGlobals mg) (ct : tc.all (tupM K) = true) (cx : xi.all (Xi.ok K) = true) : TT P w K mg base (G0 K).ecls 11 tab11 :=
  .cons (G := G0 K) (base0 c X GG ct cx) (tab_10 c X GG ct cx) c X GG (d := d_LstreamA) 10 rfl 10 rfl rfl rfl rfl sc_LstreamA (fun _ h => by cases h) mc_LstreamA (fun _ _ _ _ _ _ _ us hl => match us, hl with | [_, _], _ => rfl) body_LstreamA
def tab12 : Tabs := { tab11 with fn := ("_law_next", spNext) :: tab11.fn }
theorem tab_12 (c : He.SaysD fa fn K) (X : K.In h) (GG : h.Ns mainGlobals mg) (ct : tc.all (tupM K) = true) (cx : xi.all (Xi.ok K) = true) : TT P w K mg base (G0 K).ecls 12 tab12 :=
  .cons (G := G0 K) (base0 c X GG ct cx) (tab_11 c X GG ct cx) c X GG (d := d_Lnext) 11 rfl 11 rfl rfl rfl rfl sc_Lnext (fun _ h => by cases h) mc_Lnext (fun _ _ _ _ _ _ _ us hl => match us, hl with | [_, _], _ => rfl) body_Lnext
def tab13 : Tabs := { tab12 with fn := ("_law_divisor", spCd) :: tab12.fn }
theorem tab_13 (c : He.SaysD fa fn K) (X : K.In h) (GG : h.Ns mainGlobals mg) (ct : tc.all (tupM K) = true) (cx : xi.all (Xi.ok K) = true) : TT P w K mg base (G0 K).ecls 13 tab13 :=
  .cons (G := G0 K) (base0 c X GG ct cx) (tab_12 c X GG ct cx) c X GG (d := d_Ldivisor) 12 rfl 12 rfl rfl rfl rfl sc_Ldivisor (fun _ h => by cases h) mc_Ldivisor (fun _ _ _ _ _ _ _ us hl => match us, hl with | [_, _], _ => rfl) body_Ldivisor
def tab14 : Tabs := { tab13 with fn := ("_law_fraction", spFr) :: tab13.fn }
theorem tab_14 (c : He.SaysD fa fn K) (X : K.In h) (GG : h.Ns mainGlobals mg) (ct : tc.all (tupM K) = true) (cx : xi.all (Xi.ok K) = true) : TT P w K mg base (G0 K).ecls 14 tab14 :=
  .cons (G := G0 K) (base0 c X GG ct cx) (tab_13 c X GG ct cx) c X GG (d := d_Lfraction) 13 rfl 13 rfl rfl rfl rfl sc_Lfraction (fun _ h => by cases h) mc_Lfraction (fun _ _ _ _ _ _ _ us hl => match us, hl with | [_, _], _ => rfl) (body_Lfraction rfl)
def tab15 : Tabs := { tab14 with fn := ("_law_weight", spWeight) :: tab14.fn }
theorem tab_15 (c : He.SaysD fa fn K) (X : K.In h) (GG : h.Ns mainGlobals mg) (ct : tc.all (tupM K) = true) (cx : xi.all (Xi.ok K) = true) : TT P w K mg base (G0 K).ecls 15 tab15 :=
  .cons (G := G0 K) (base0 c X GG ct cx) (tab_14 c X GG ct cx) c X GG (d := d_Lweight) 14 rfl 14 rfl rfl rfl rfl sc_Lweight (fun _ h => by cases h) mc_Lweight (fun _ _ _ _ _ _ _ us hl => match us, hl with | [_, _], _ => rfl) (body_Lweight rfl rfl)
def tab16 : Tabs := { tab15 with fn := ("_law_web", spDrawn) :: tab15.fn }
theorem tab_16 (c : He.SaysD fa fn K) (X : K.In h) (GG : h.Ns mainGlobals mg) (ct : tc.all (tupM K) = true) (cx : xi.all (Xi.ok K) = true) : TT P w K mg base (G0 K).ecls 16 tab16 :=
  .cons (G := G0 K) (base0 c X GG ct cx) (tab_15 c X GG ct cx) c X GG (d := d_Lweb) 15 rfl 15 rfl rfl rfl rfl sc_Lweb (fun _ h => by cases h) mc_Lweb (fun _ _ _ _ _ _ _ us hl => match us, hl with | [_, _, _], _ => rfl) (body_Lweb rfl rfl)
def tab17 : Tabs := { tab16 with fn := ("_law_sum", spSum) :: tab16.fn }
theorem tab_17 (c : He.SaysD fa fn K) (X : K.In h) (GG : h.Ns mainGlobals mg) (ct : tc.all (tupM K) = true) (cx : xi.all (Xi.ok K) = true) : TT P w K mg base (G0 K).ecls 17 tab17 :=
  .cons (G := G0 K) (base0 c X GG ct cx) (tab_16 c X GG ct cx) c X GG (d := d_Lsum) 16 rfl 16 rfl rfl rfl rfl sc_Lsum (fun _ h => by cases h) mc_Lsum (fun _ _ _ _ _ _ _ us hl => match us, hl with | [_], _ => rfl) (body_Lsum rfl)
def tab18 : Tabs := { tab17 with fn := ("_law_weight_of", spWo3) :: tab17.fn }
theorem tab_18 (c : He.SaysD fa fn K) (X : K.In h) (GG : h.Ns mainGlobals mg) (ct : tc.all (tupM K) = true) (cx : xi.all (Xi.ok K) = true) : TT P w K mg base (G0 K).ecls 18 tab18 :=
  .cons (G := G0 K) (base0 c X GG ct cx) (tab_17 c X GG ct cx) c X GG (d := d_Lweight_of) 17 rfl 17 rfl rfl rfl rfl sc_Lweight_of (fun _ h => by cases h) mc_Lweight_of (fun _ _ _ _ _ _ _ us hl => match us, hl with | [_, _], _ => rfl) (body_Lweight_of3 rfl)
def tab19 : Tabs := { tab18 with fn := ("_law_is_none", spNone3) :: tab18.fn }
theorem tab_19 (c : He.SaysD fa fn K) (X : K.In h) (GG : h.Ns mainGlobals mg) (ct : tc.all (tupM K) = true) (cx : xi.all (Xi.ok K) = true) : TT P w K mg base (G0 K).ecls 19 tab19 :=
  .cons (G := G0 K) (base0 c X GG ct cx) (tab_18 c X GG ct cx) c X GG (d := d_Lis_none) 18 rfl 18 rfl rfl rfl rfl sc_Lis_none (fun x hx => by
    simp only [List.mem_cons, List.not_mem_nil, or_false] at hx
    rcases hx with rfl
    · exact ⟨_, rk_NoSide c X GG⟩) mc_Lis_none (fun _ _ _ _ _ _ _ us hl => match us, hl with | [_, _], _ => rfl) (body_Lis_none rfl ⟨rfl, rfl, rfl⟩)
def tab20 : Tabs := { tab19 with fn := ("_law_others", spOth3) :: tab19.fn }
theorem tab_20 (c : He.SaysD fa fn K) (X : K.In h) (GG : h.Ns mainGlobals mg) (ct : tc.all (tupM K) = true) (cx : xi.all (Xi.ok K) = true) : TT P w K mg base (G0 K).ecls 20 tab20 :=
  .cons (G := G0 K) (base0 c X GG ct cx) (tab_19 c X GG ct cx) c X GG (d := d_Lothers) 19 rfl 19 rfl rfl rfl rfl sc_Lothers (fun _ h => by cases h) mc_Lothers (fun _ _ _ _ _ _ _ us hl => match us, hl with | [_], _ => rfl) body_Lothers
theorem ends (c : He.SaysD fa fn K) (X : K.In h) (GG : h.Ns mainGlobals mg) (ct : tc.all (tupM K) = true) (cx : xi.all (Xi.ok K) = true) {f : Addr} (hf : mg "law" = some (.ref f)) : ∃ (fd : FuncData) (ec : Str → Option Addr), (∀ (s : Shared) (us : List Value), us.length = 1 → BindsTo s fd ⟨us, []⟩ (P_law.zip us)) ∧
    ∀ base : Heap, K.In base → base.Ns mainGlobals mg → FnOk P w K mg base (L2.CX P w) 21 f fd P_law (lSp K ec spLawB) := by
  obtain ⟨fd, F⟩ := c.def_ 20 (d := d_law) rfl
  have e := hf.symm.trans (He.glo_ok X GG (c.fact 20 (f := .glo "law") rfl))
  cases e
  have b := FunD.bindsA (ps := P_law) F fun _ _ _ _ _ _ us hl => match us, hl with | [_], _ => rfl
  exact ⟨fd, (G0 K).ecls, fun s us hl => b s us hl, fun base _ _ => defM (G := (G0 K).with tab20) F sc_law (TT.gok (base0 c X GG ct cx) (tab_20 c X GG ct cx)) (fun _ h => by cases h) mc_law (body_lawB ⟨rfl, rfl, rfl, rfl, rfl, rfl, rfl, rfl, rfl⟩) (base0 c X GG ct cx).rp⟩
end
end M
open PySem PySem.W PySem.Calls PyProof.Rows
theorem PySem.Challenge.cw_heavycut_k03_sides_and_weights_holds : PySem.Challenge.rw_heavycut_k03_sides_and_weights.Holds := by
  w_on; o_law
  refine HandSHeadRun.head_any (r := OpenLaw.row PySem.Challenge.rw_heavycut_k03_sides_and_weights) (q := view (OpenLaw.row PySem.Challenge.rw_heavycut_k03_sides_and_weights).prog [26]) (H := M.hookU 4 MH.fa MH.fn MH.tc MH.xi) (ob := M.obsU 4 MH.fa MH.fn MH.tc MH.xi) (M := 4000) (loose := MH.nms) (d := HandSHeadRun.topDef (OpenLaw.row PySem.Challenge.rw_heavycut_k03_sides_and_weights).prog 26) (kwd := []) M.obsU_eq
    (by kernel_rfl) (fun s => by kernel_rfl) MH.run (by kernel_rfl) (by kernel_rfl) (by kernel_rfl) (by rfl) (by first | assumption | decide +kernel) (by decide +kernel) ⟨rfl, rfl, rfl, rfl, rfl, by decide +kernel⟩ ?hw ?hc
  case hw => w_witness2
  case hc =>
    refine M.law_U (k := 21) (x := "_law_script") rfl (by kernel_rfl) ⟨rfl, by decide, by decide⟩ ?F
    intro w mg f h K X GG c ct cx hf
    have e : (HandSHeadRun.topDef (OpenLaw.row PySem.Challenge.rw_heavycut_k03_sides_and_weights).prog 26).name = ("law" : PySem.Str) := by kernel_rfl
    rw [e] at hf
    exact M.ends c X GG ct cx hf

