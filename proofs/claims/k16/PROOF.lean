import PyProof.Rows.All
import Wide.All
import OpenK.AllK
import Wide.FinOn
import HandS.ForMost
import HandS.ForExc
import HandS.ExcIs
import HandS.TryOnly
import HandS.Style
import HandS.IsInst
import HandS.Flow
import HandS.Deep
import HandS.TupAny
import HandS.TupMul
import HandS.Wide
import HandS.WideBits
import HandS.SortOrd
import HandS.TupLe
import HandS.Rev
import HandS.RevRange
import HandS.NoneIn
import HandS.CallSlots
import HandS.SortInts
import HandS.SetFor
import HandS.More
import HandS.HeadHook1
import PyProof.ListMulRoad
import PyProof.FactsAll.tuple_2
import HandS.Strs
import HandS.TupLen
import HandS.Conv
import HandS.Zip
import HandS.DictTup
import HandS.Small
import HandS.SetKeys
import PyProof.Rows.SeqMore
import KE.KRevSl
import KE.KDictDisplayH
import HandS.Dict
import HandS.SortRule
import HandS.TupSets
import HandS.HeadWalk
import HandS.Exc
import HandS.Defaults
import HandS.Head0
import HandS.Head1
import HandS.Head2
import HandS.HeadEnd
import HandS.HeadHook2
import PySem.Challenge.RW_heavycut_k16_whole_groups_against_all_si
set_option Elab.async false
set_option linter.all false
set_option maxRecDepth 100000
namespace M
open PySem PySem.Spec PyProof.Rows L2

/-- values: tuples are data, lists and dicts and instances stand at addresses -/
inductive Val where
  | non | bl (b : Bool) | int (i : Int) | str (x : Str) | tup (xs : List Val) | ref (a : Addr) | ptup (xs : List Val)
/-- a dict's key as a value -/
def kval : Key → Val
  | .inl i => .int i
  | .inr x => .str x

/-- what stands at an address -/
inductive MO where
  | lst (xs : List Val)
  | ro (xs : List Val)
  | dK (kvs : List (Key × Val))
  | dT (kvs : List (List Key × Val))
  | ins (C : Str) (fs : List (Str × Val))
  | fK (kvs : List (Key × Val))
  | fT (kvs : List (List Key × Val))
  | exo (c : Str)

abbrev Sto := Addr → Option MO
def Sto.upd (S : Sto) (a : Addr) (o : MO) : Sto := fun b => if b = a then some o else S b
theorem Sto.upd_same {S : Sto} {a : Addr} {o : MO} : S.upd a o a = some o := by unfold Sto.upd; rw [if_pos rfl]
theorem Sto.upd_ne {S : Sto} {a b : Addr} {o : MO} (h : b ≠ a) : S.upd a o b = S b := by unfold Sto.upd; rw [if_neg h]

abbrev Loc := List (Option Val)
abbrev Post := Val → Sto → Prop
abbrev XPost := Str → Sto → Prop
abbrev Spec := List Val → Sto → Post → XPost → Prop
/-- a call by its promise, weakened -/
def app (sp : Spec) (vs : List Val) (S : Sto) (Q : Post) (X : XPost) : Prop :=
  ∃ (Q1 : Post) (X1 : XPost), sp vs S Q1 X1 ∧ (∀ v S', Q1 v S' → Q v S') ∧ ∀ c S', X1 c S' → X c S'
theorem app.mk {sp : Spec} {vs : List Val} {S : Sto} {Q : Post} {X : XPost} (h : sp vs S Q X) : app sp vs S Q X := ⟨Q, X, h, fun _ _ q => q, fun _ _ q => q⟩
theorem app.mono {sp : Spec} {vs : List Val} {S : Sto} {Q Q' : Post} {X X' : XPost} (h : app sp vs S Q X) (hq : ∀ v S', Q v S' → Q' v S') (hx : ∀ c S', X c S' → X' c S') : app sp vs S Q' X' := by
  obtain ⟨Q1, X1, h, a, b⟩ := h
  exact ⟨Q1, X1, h, fun v S' q => hq v S' (a v S' q), fun c S' q => hx c S' (b c S' q)⟩

/-- what a body knows: defs, constants, classes, makers, methods -/
structure Gam where
  fn : Str → Option Spec
  cst : Str → Option Val
  new : Str → Option Spec
  mt : Str → Str → Option Spec
  fo : Str → Str → Bool
  rp : Bool := false
  ecls : Str → Option Addr
  exm : Str → Str → Option Bool := fun _ _ => none
  exi : Str → Str → Option Bool := fun _ _ => none

mutual
def toD : Val → PyData
  | .non => .none
  | .bl b => .bool b
  | .int i => .int i
  | .str x => .str x
  | .tup xs => .tuple (toDs xs)
  | .ref _ => .none
  | .ptup xs => .tuple (toDs xs)
def toDs : List Val → List PyData
  | [] => []
  | v :: vs => toD v :: toDs vs
end
mutual
def isPure : Val → Bool
  | .tup xs => arePure xs
  | .ptup xs => arePure xs
  | .ref _ => false
  | _ => true
def arePure : List Val → Bool
  | [] => true
  | v :: vs => isPure v && arePure vs
end
def okD (v : Val) : Bool := isPure v && SeqAt.shaped (toD v)
/-- a list that may be read -/
def lstAt (S : Sto) (a : Addr) : Option (List Val) := match S a with
  | some (.lst xs) => some xs
  | some (.ro xs) => some xs
  | _ => none
def rdL (S : Sto) (a : Addr) (xs : List Val) : Prop := lstAt S a = some xs
theorem rdL.cases {S : Sto} {a : Addr} {xs : List Val} (h : rdL S a xs) : S a = some (.lst xs) ∨ S a = some (.ro xs) := by
  unfold rdL lstAt at h
  split at h
  · rename_i e; cases h; exact .inl e
  · rename_i e; cases h; exact .inr e
  · cases h
theorem rdL.lst {S : Sto} {a : Addr} {xs : List Val} (h : S a = some (.lst xs)) : rdL S a xs := by unfold rdL lstAt; rw [h]
theorem rdL.ro {S : Sto} {a : Addr} {xs : List Val} (h : S a = some (.ro xs)) : rdL S a xs := by unfold rdL lstAt; rw [h]
mutual
inductive Dv (S : Sto) : Val → PyData → Prop
  | non : Dv S .non .none
  | bl (b : Bool) : Dv S (.bl b) (.bool b)
  | int (i : Int) : Dv S (.int i) (.int i)
  | str (x : Str) : Dv S (.str x) (.str x)
  | tup {xs : List Val} {ds : List PyData} : DvAll S xs ds → Dv S (.tup xs) (.tuple ds)
  | lst {a : Addr} {xs : List Val} {ds : List PyData} : rdL S a xs → DvAll S xs ds → Dv S (.ref a) (.list ds)
  | ptup {xs : List Val} {ds : List PyData} : DvAll S xs ds → Dv S (.ptup xs) (.tuple ds)
inductive DvAll (S : Sto) : List Val → List PyData → Prop
  | nil : DvAll S [] []
  | cons {v : Val} {vs : List Val} {d : PyData} {ds : List PyData} : Dv S v d → DvAll S vs ds → DvAll S (v :: vs) (d :: ds)
end

def idiv (i j : Int) : Int := if 0 < j then i / j else i.fdiv j
def imod (i j : Int) : Int := if 0 < j then i % j else i.fmod j
/-- sizes of ints -/
abbrev bits (i : Int) : Nat := Builtin.Int.intBits i
def MulOk (i j : Int) : Prop := bits i + bits j ≤ 134217728
def DivOk (i j : Int) : Prop := j ≠ 0 ∧ Builtin.divisionGoesByPylong i j = false

def bAdd : Val → Val → Sto → Post → Prop
  | .int i, .int j, S, Q => Q (.int (i + j)) S
  | .int i, .bl b, S, Q => Q (.int (i + b2i b)) S
  | .str x, .str y, S, Q => x.length + y.length ≤ sizeLine ∧ Q (.str (x ++ y)) S
  | .tup xs, .tup ys, S, Q => xs.length + ys.length ≤ sizeLine ∧ Q (.tup (xs ++ ys)) S
  | .ref a, .ref b, S, Q => ∃ xs ys, S a = some (.lst xs) ∧ S b = some (.lst ys) ∧ xs.length + ys.length ≤ sizeLine ∧ ∀ p, S p = none → Q (.ref p) (S.upd p (.lst (xs ++ ys)))
  | _, _, _, _ => False
def bSub : Val → Val → Sto → Post → Prop
  | .int i, .int j, S, Q => Q (.int (i - j)) S
  | _, _, _, _ => False
def bMul : Val → Val → Sto → Post → Prop
  | .int i, .int j, S, Q => MulOk i j ∧ Q (.int (i * j)) S
  | .ref a, .int k, S, Q => ∃ xs, S a = some (.lst xs) ∧ -(2 ^ 63) ≤ k ∧ k < 2 ^ 63 ∧ xs.length * k.toNat ≤ sizeLine ∧ ∀ p, S p = none → Q (.ref p) (S.upd p (.lst (List.replicate k.toNat xs).flatten))
  | .tup xs, .int k, S, Q => 1 ≤ k ∧ k ≤ 1000 ∧ xs.length ≤ 1000 ∧ Q (.tup (List.replicate k.toNat xs).flatten) S
  | _, _, _, _ => False
def bDiv : Val → Val → Sto → Post → Prop
  | .int i, .int j, S, Q => DivOk i j ∧ Q (.int (idiv i j)) S
  | _, _, _, _ => False
def bMod : Val → Val → Sto → Post → Prop
  | .int i, .int j, S, Q => j ≠ 0 ∧ Q (.int (imod i j)) S
  | _, _, _, _ => False
def bPow : Val → Val → Sto → Post → Prop
  | .int i, .int j, S, Q => (0 ≤ j ∧ j ≤ 1000000 ∧ i.natAbs < 2 ^ 64) ∧ Q (.int (i ^ j.toNat)) S
  | _, _, _, _ => False
def bShl : Val → Val → Sto → Post → Prop
  | .int i, .int j, S, Q => (0 ≤ j ∧ (bits i : Int) + j ≤ 2 ^ 27) ∧ Q (.int (i * 2 ^ j.toNat)) S
  | _, _, _, _ => False
def bShr : Val → Val → Sto → Post → Prop
  | .int i, .int j, S, Q => 0 ≤ j ∧ Q (.int (i / 2 ^ j.toNat)) S
  | _, _, _, _ => False
def bAnd : Val → Val → Sto → Post → Prop
  | .int i, .int j, S, Q => Q (.int (Builtin.bitAnd i j)) S
  | _, _, _, _ => False
def bXor : Val → Val → Sto → Post → Prop
  | .int i, .int j, S, Q => Q (.int (Builtin.bitXor i j)) S
  | _, _, _, _ => False
def wBin : Operator → Val → Val → Sto → Post → Prop
  | .Add => bAdd | .Sub => bSub | .Mult => bMul | .FloorDiv => bDiv | .Mod => bMod | .Pow => bPow | .LShift => bShl | .RShift => bShr | .BitAnd => bAnd | .BitXor => bXor
  | _ => fun _ _ _ _ => False
/-- == : by data -/
def cEq (neg : Bool) (v w : Val) (S : Sto) (Q : Post) : Prop :=
  if (okD v && okD w) = true then Q (.bl (neg ^^ PyData.eqv (toD v) (toD w))) S
  else (∃ x y, v = .str x ∧ w = .str y ∧ Q (.bl (neg ^^ decide (x = y))) S) ∨ ∃ d e, Dv S v d ∧ Dv S w e ∧ SeqAt.shaped d = true ∧ SeqAt.shaped e = true ∧ Q (.bl (neg ^^ PyData.eqv d e)) S
def cInt (f : Int → Int → Bool) : Val → Val → Sto → Post → Prop
  | .int i, .int j, S, Q => Q (.bl (f i j)) S
  | _, _, _, _ => False
def valD (S : Sto) : Val → List Val → Prop
  | .tup xs, ys => ys = xs
  | .ref a, ys => rdL S a ys
  | .ptup xs, ys => ys = xs
  | _, _ => False
def flat : Val → Bool
  | .non => true | .bl _ => true | .int _ => true | .str _ => true | _ => false
/-- x in xs: the items flat, or data -/
def cIn (neg : Bool) (v w : Val) (S : Sto) (Q : Post) : Prop :=
  match w with
  | .ref a => ∃ xs d ds, rdL S a xs ∧ Dv S v d ∧ DvAll S xs ds ∧ SeqAt.shaped d = true ∧ SeqAt.shaped (.list ds) = true ∧ Q (.bl (neg ^^ ds.any fun z => PyData.eqv z d)) S
  | .tup xs => flat v = true ∧ xs.all flat = true ∧ Q (.bl (neg ^^ (toDs xs).any fun z => PyData.eqv z (toD v))) S
  | _ => False
def isNon : Val → Bool
  | .non => true
  | _ => false
def cIs (neg : Bool) : Val → Val → Sto → Post → Prop
  | v, .non, S, Q => Q (.bl (neg ^^ isNon v)) S
  | .bl a, .bl b, S, Q => Q (.bl (neg ^^ decide (a = b))) S
  | _, _, _, _ => False
def wCmp : CmpOp → Val → Val → Sto → Post → Prop
  | .Eq => cEq false
  | .NotEq => cEq true
  | .Lt => cInt fun i j => decide (i < j)
  | .LtE => cInt fun i j => decide (i ≤ j)
  | .Gt => cInt fun i j => decide (j < i)
  | .GtE => cInt fun i j => decide (j ≤ i)
  | .In => cIn false
  | .NotIn => cIn true
  | .Is => cIs false
  | .IsNot => cIs true
/-- truth -/
def wTru : Val → Sto → (Bool → Sto → Prop) → Prop
  | .bl b, S, Q => Q b S
  | .int i, S, Q => Q (i != 0) S
  | .non, S, Q => Q false S
  | .tup xs, S, Q => Q (!xs.isEmpty) S
  | .ref a, S, Q => ∃ xs, rdL S a xs ∧ Q (!xs.isEmpty) S
  | _, _, _ => False
def vIx : Val → Val → Sto → Post → Prop
  | .tup xs, .int i, S, Q => ∃ v, atI xs i = some v ∧ Q v S
  | .ref a, .int i, S, Q => ∃ xs v, rdL S a xs ∧ atI xs i = some v ∧ Q v S
  | .str z, .int i, S, Q => ∃ c, z.length ≤ sizeLine ∧ atI z.cps.toList i = some c ∧ Q (.str ⟨#[c]⟩) S
  | .ptup xs, .int i, S, Q => ∃ v, atI xs i = some v ∧ Q v S
  | _, _, _, _ => False
/-- what dicts hold -/
def rdK (S : Sto) (a : Addr) (kvs : List (Key × Val)) : Prop := S a = some (.dK kvs) ∨ S a = some (.fK kvs)
def rdT (S : Sto) (a : Addr) (kvs : List (List Key × Val)) : Prop := S a = some (.dT kvs) ∨ S a = some (.fT kvs)
section
variable {κ : Type} [DecidableEq κ]
def vlK (kvs : List (κ × Val)) (k : κ) : Option Val := (kvs.find? fun kv => decide (kv.1 = k)).map (·.2)
def ptK (kvs : List (κ × Val)) (k : κ) (v : Val) : List (κ × Val) := if (kvs.any fun kv => decide (kv.1 = k)) = true then kvs.map fun kv => if kv.1 = k then (kv.1, v) else kv else kvs ++ [(k, v)]
def drK (kvs : List (κ × Val)) (k : κ) : List (κ × Val) := kvs.filter fun kv => decide (kv.1 ≠ k)
end
/-- what the dict at a holds at a key -/
def DG (S : Sto) (a : Addr) (w : Val) (o : Option Val) : Prop := (∃ kvs k, rdK S a kvs ∧ w = kval k ∧ o = vlK kvs k) ∨ ∃ kvs ks, rdT S a kvs ∧ w = .ptup (ks.map kval) ∧ o = vlK kvs ks
def isD (S : Sto) (a : Addr) : Prop := (∃ kvs, rdK S a kvs) ∨ ∃ kvs, rdT S a kvs
/-- a[w] = v -/
def DP (S : Sto) (a : Addr) (w v : Val) (Q : Sto → Prop) : Prop := (∃ kvs k, S a = some (.dK kvs) ∧ w = kval k ∧ kvs.length < sizeLine ∧ Q (S.upd a (.dK (ptK kvs k v)))) ∨ ∃ kvs ks, S a = some (.dT kvs) ∧ w = .ptup (ks.map kval) ∧ kvs.length < sizeLine ∧ Q (S.upd a (.dT (ptK kvs ks v)))
/-- a list and a list, any that may be read -/
def lAdd : Val → Val → Sto → Post → Prop
  | .ref p, .ref q, S, Q => ∃ xs ys, rdL S p xs ∧ rdL S q ys ∧ xs.length + ys.length ≤ sizeLine ∧ ∀ r, S r = none → Q (.ref r) (S.upd r (.lst (xs ++ ys)))
  | _, _, _, _ => False
/-- xs[lo:hi] -/
def cut (xs : List Val) (lo hi : Option Int) : List Val := (xs.drop (HT.sIx xs.length 0 lo)).take (HT.sIx xs.length xs.length hi - HT.sIx xs.length 0 lo)
def vSl : Val → Option Int → Option Int → Sto → Post → Prop
  | .tup xs, lo, hi, S, Q => Q (.tup (cut xs lo hi)) S
  | .ref a, lo, hi, S, Q => ∃ xs, rdL S a xs ∧ ∀ p, S p = none → Q (.ref p) (S.upd p (.lst (cut xs lo hi)))
  | .str z, lo, hi, S, Q => z.length ≤ sizeLine ∧ Q (.str (cutS z lo hi)) S
  | _, _, _, _, _ => False
def vFld (fo : Str → Str → Bool) (f : Str) : Val → Sto → Post → Prop
  | .ref a, S, Q => ∃ C fs v, S a = some (.ins C fs) ∧ fo C f = true ∧ fs.lookup f = some v ∧ Q v S
  | _, _, _ => False
end M

namespace M
open PySem PySem.Spec PyProof.Rows L2

/-- built-in functions -/
inductive Blt where
  | len | abs | min2 | max2 | int1 | str1 | list1 | tuple1 | sorted1 | set1 | sum1 | min1 | max1 | bool1 | sortT | sortD
  deriving DecidableEq
/-- built-in methods -/
inductive Mth where
  | append | pop0 | pop1 | extend | insert | remove | reverse | index | count | dget1 | dget2 | dkeys | split | join | sindex | dsetd | tindex | tcount
  deriving DecidableEq

mutual
inductive E where
  | v (i : Nat) | int (i : Int) | bl (b : Bool) | non | str (x : Str) | g (x : Str)
  | bin (op : Operator) (a b : E) | neg (a : E)
  | cmp (op : CmpOp) (a b : E) | chain (op op' : CmpOp) (a b c : E)
  | and (es : List E) | or (es : List E) | not (a : E)
  | ife (t : B) (a b : E)
  | tup (es : List E) | lst (es : List E)
  | ix (a i : E) | sl (a : E) (lo hi : P) | rev (a : E)
  | fld (a : E) (f : Str)
  | call (f : Str) (es : List E) | new (C : Str) (es : List E) | meth (o : E) (m : Str) (es : List E)
  | blt (b : Blt) (es : List E) | mth (m : Mth) (o : E) (es : List E)
  | isx (a : E) (y : Str)
  | isi (a : E) (t : String) | isiT (a : E) (ts : List String)
  | lc (own : List (Str × Nat)) (t : T) (it : I) (ifs : List B) (e : E)
  | dK0 | dT0 | repr (a : E) | dT1 (k v : E) | revT (a : E) | addL (a b : E)
  | ktup (es : List E) | lrng1 (a : E) | lrng2 (a b : E) | lrev (a : E) | trev (a : E) | sset (a : E) | ssetL (a : E) | trevT (a : E)
  | dix (d k : E) | dg1 (d k : E) | dg2 (d k x : E) | dsd (d k x : E) | dpop (d k : E) | din (neg : Bool) (k d : E) | lockE (e : E)
/-- tests -/
inductive B where
  | val (e : E) | cmp (op : CmpOp) (a b : E) | chain (op op' : CmpOp) (a b c : E) | chain3 (op op' op'' : CmpOp) (a b c d : E)
  | not (b : B) | and (bs : List B) | or (bs : List B) | din (neg : Bool) (k d : E)
/-- an optional part of a slice -/
inductive P where
  | no | at (e : E)
/-- targets -/
inductive T where
  | nm (i : Nat) | tup (ts : List T) | ix (a i : E) | fld (a : E) (f : Str) | dix (a k : E)
/-- what is walked -/
inductive I where
  | val (e : E) | rng1 (a : E) | rng2 (a b : E) | rng3 (a b c : E) | zip (a b : E) | zip3 (a b c : E) | rvs (a : E) | rvs1 (a : E) | rvs2 (a b : E) | enum (a : E) | keys (e : E) | keysM (e : E)
end

/-- a comprehension's turns -/
def compW (keep : Sto → Prop) (turn : Val → Sto → (Option Val → Sto → Prop) → Prop) : List Val → List Val → Sto → Post → Prop
  | [], acc, S, Q => keep S ∧ ∀ p, S p = none → Q (.ref p) (S.upd p (.lst acc))
  | x :: xs, acc, S, Q => keep S ∧ turn x S fun o S' => match o with
    | none => compW keep turn xs acc S' Q
    | some v => acc.length < sizeLine ∧ compW keep turn xs (acc ++ [v]) S' Q
/-- items of three, in triples -/
def zip3V (xs ys zs : List Val) : List Val := List.zipWith (fun x (p : Val × Val) => .ptup [x, p.1, p.2]) xs (ys.zip zs)
/-- own slots forgotten -/
def wipeL (ρ : Loc) : List Nat → Loc
  | [] => ρ
  | v :: vs => (wipeL ρ vs).set v none
def rngV (lo : Int) (n : Nat) : List Val := (List.range n).map fun (i : Nat) => .int (lo + (i : Int))
/-- a field stored -/
def putV (f : Str) (v : Val) : List (Str × Val) → List (Str × Val)
  | [] => [(f, v)]
  | (g, w) :: r => if g = f then (g, v) :: r else (g, w) :: putV f v r
def small62 (i : Int) : Prop := -(2 ^ 62) ≤ i ∧ i < 2 ^ 62

mutual
def flV : Val → List Int
  | .int i => [i]
  | .tup xs => flVs xs
  | .ptup xs => flVs xs
  | _ => []
def flVs : List Val → List Int
  | [] => []
  | v :: vs => flV v ++ flVs vs
end
mutual
/-- of one form: ints, tuples of the like -/
def shV : Val → Val → Bool
  | .int _, w => match w with
    | .int _ => true
    | _ => false
  | .tup xs, w => match w with
    | .tup ys => shVs xs ys
    | _ => false
  | .ptup xs, w => match w with
    | .ptup ys => shVs xs ys
    | _ => false
  | _, _ => false
def shVs : List Val → List Val → Bool
  | [], w => match w with
    | [] => true
    | _ => false
  | x :: xs, w => match w with
    | [] => false
    | y :: ys => shV x y && shVs xs ys
end
def lexL : List Int → List Int → Bool
  | [], [] => false
  | [], _ :: _ => true
  | _ :: _, [] => false
  | a :: as, b :: bs => decide (a < b) || (decide (a = b) && lexL as bs)
/-- a tuple that begins with an int, data -/
def tup1 : Val → Bool
  | .tup (.int _ :: _) => true
  | .ptup (.int _ :: _) => true
  | _ => false
/-- may be sorted -/
def SrtOk (vs : List Val) : Prop := (∀ v ∈ vs, tup1 v = true ∧ okD v = true) ∧ ∀ v ∈ vs, ∀ w ∈ vs, shV v w = true
def SrtV (vs : List Val) : Prop := vs.Pairwise fun x y => lexL (flV y) (flV x) = false

/-- built-in functions by values -/
def wBlt : Blt → List Val → Sto → Post → Prop
  | .len, [.tup xs], S, Q => Q (.int xs.length) S
  | .len, [.ref a], S, Q => match S a with
    | some (.lst xs) => Q (.int xs.length) S
    | some (.ro xs) => Q (.int xs.length) S
    | some (.dK kvs) => Q (.int kvs.length) S
    | some (.dT kvs) => Q (.int kvs.length) S
    | _ => False
  | .len, [.str z], S, Q => z.length ≤ sizeLine ∧ Q (.int z.length) S
  | .abs, [.int i], S, Q => Q (.int (if i < 0 then -i else i)) S
  | .min2, [.int i, .int j], S, Q => Q (.int (if j < i then j else i)) S
  | .max2, [.int i, .int j], S, Q => Q (.int (if j > i then j else i)) S
  | .int1, [.int i], S, Q => Q (.int i) S
  | .int1, [.bl b], S, Q => Q (.int (if b then 1 else 0)) S
  | .bool1, [.int i], S, Q => Q (.bl (i != 0)) S
  | .str1, [.int i], S, Q => i.natAbs.log2 < 1920 ∧ Q (.str (toString i)) S
  | .list1, [v], S, Q => ∃ xs, valD S v xs ∧ ∀ p, S p = none → Q (.ref p) (S.upd p (.lst xs))
  | .tuple1, [.ptup xs], S, Q => Q (.ptup xs) S
  | .tuple1, [.tup xs], S, Q => Q (.tup xs) S
  | .tuple1, [.ref a], S, Q => ∃ xs, rdL S a xs ∧ Q (.tup xs) S
  | .max1, [.tup xs], S, Q => ∃ ns : List Int, xs = ns.map .int ∧ 0 < ns.length ∧ ∀ m : Int, m ∈ ns → (∀ y ∈ ns, y ≤ m) → Q (.int m) S
  | .max1, [.ref a], S, Q => ∃ ns : List Int, rdL S a (ns.map .int) ∧ 0 < ns.length ∧ ∀ m : Int, m ∈ ns → (∀ y ∈ ns, y ≤ m) → Q (.int m) S
  | .min1, [.ref a], S, Q => ∃ ns : List Int, rdL S a (ns.map .int) ∧ 0 < ns.length ∧ ∀ m : Int, m ∈ ns → (∀ y ∈ ns, m ≤ y) → Q (.int m) S
  | .sum1, [.ref a], S, Q => ∃ ns : List Int, rdL S a (ns.map .int) ∧ Q (.int ns.sum) S
  | .sorted1, [.ref a], S, Q => ∃ ns : List Int, rdL S a (ns.map .int) ∧ ∀ ns' : List Int, ns'.Perm ns → ns'.Pairwise (· ≤ ·) → ∀ p, S p = none → Q (.ref p) (S.upd p (.lst (ns'.map .int)))
  | .sortT, [.ref a], S, Q => ∃ vs, rdL S a vs ∧ SrtOk vs ∧ ∀ us : List Val, us.Perm vs → SrtV us → ∀ p, S p = none → Q (.ref p) (S.upd p (.lst us))
  | .sortD, [.ref a], S, Q => ∃ kvs, S a = some (.dT kvs) ∧ SrtOk (kvs.map fun kv => .ptup (kv.1.map kval)) ∧ ∀ us : List Val, us.Perm (kvs.map fun kv => .ptup (kv.1.map kval)) → SrtV us → ∀ p, S p = none → Q (.ref p) (S.upd p (.lst us))
  | .sorted1, [.tup xs], S, Q => ∃ ns : List Int, xs = ns.map .int ∧ ∀ ns' : List Int, ns'.Perm ns → ns'.Pairwise (· ≤ ·) → ∀ p, S p = none → Q (.ref p) (S.upd p (.lst (ns'.map .int)))
  | .len, [.ptup xs], S, Q => Q (.int xs.length) S
  | _, _, _, _ => False
/-- built-in methods by values -/
def wMth : Mth → Val → List Val → Sto → Post → Prop
  | .append, .ref a, [v], S, Q => ∃ xs, S a = some (.lst xs) ∧ xs.length < sizeLine ∧ Q .non (S.upd a (.lst (xs ++ [v])))
  | .pop0, .ref a, [], S, Q => ∃ xs v, S a = some (.lst xs) ∧ xs.getLast? = some v ∧ Q v (S.upd a (.lst xs.dropLast))
  | .pop1, .ref a, [.int i], S, Q => ∃ xs v, S a = some (.lst xs) ∧ 0 ≤ i ∧ i < 2 ^ 62 ∧ xs[i.toNat]? = some v ∧ Q v (S.upd a (.lst (xs.eraseIdx i.toNat)))
  | .insert, .ref a, [.int i, y], S, Q => ∃ xs, S a = some (.lst xs) ∧ xs.length < sizeLine ∧ 0 ≤ i ∧ i < 2 ^ 62 ∧ Q .non (S.upd a (.lst (xs.take i.toNat ++ [y] ++ xs.drop i.toNat)))
  | .extend, .ref a, [.ref b], S, Q => ∃ xs ys, S a = some (.lst xs) ∧ S b = some (.lst ys) ∧ xs.length + ys.length ≤ sizeLine ∧ Q .non (S.upd a (.lst (xs ++ ys)))
  | .count, .ref a, [.int k], S, Q => ∃ ns : List Int, rdL S a (ns.map .int) ∧ Q (.int (ns.count k : Nat)) S
  | .index, .ref a, [.int k], S, Q => ∃ (ns : List Int) (j : Nat), rdL S a (ns.map .int) ∧ ns[j]? = some k ∧ (∀ m : Nat, m < j → ns[m]? ≠ some k) ∧ Q (.int j) S
  | .tindex, .tup xs, [.int k], S, Q => ∃ (ns : List Int) (j : Nat), xs = ns.map .int ∧ ns[j]? = some k ∧ (∀ m : Nat, m < j → ns[m]? ≠ some k) ∧ Q (.int j) S
  | .reverse, .ref a, [], S, Q => ∃ xs, S a = some (.lst xs) ∧ Q .non (S.upd a (.lst xs.reverse))
  | .remove, .ref a, [.int k], S, Q => ∃ (ns : List Int) (j : Nat), S a = some (.lst (ns.map .int)) ∧ ns[j]? = some k ∧ (∀ m : Nat, m < j → ns[m]? ≠ some k) ∧ Q .non (S.upd a (.lst ((ns.eraseIdx j).map .int)))
  | .join, .str x, [.ref a], S, Q => ∃ ys : List Str, rdL S a (ys.map .str) ∧ (ys.map (·.length)).sum + ys.length * x.length ≤ 16777216 ∧ Q (.str (Txt.join x ys)) S
  | _, _, _, _, _ => False

/-- repr(data) -/
def vRepr (v : Val) (S : Sto) (Q : Post) : Prop := ∃ d, Dv S v d ∧ PyData.showable d = true ∧ d.shown.length ≤ sizeLine ∧ d.depth ≤ 64 ∧ d.hasDict = false ∧ Q (.str d.shown) S
/-- what a method is of -/
def tyM : Mth → Val → Sto → Prop
  | .split, .str _, _ => True
  | .join, .str _, _ => True
  | .sindex, .str _, _ => True
  | .append, .ref a, S => ∃ xs, rdL S a xs
  | .pop0, .ref a, S => ∃ xs, rdL S a xs
  | .pop1, .ref a, S => ∃ xs, rdL S a xs
  | .extend, .ref a, S => ∃ xs, rdL S a xs
  | .insert, .ref a, S => ∃ xs, rdL S a xs
  | .remove, .ref a, S => ∃ xs, rdL S a xs
  | .reverse, .ref a, S => ∃ xs, rdL S a xs
  | .index, .ref a, S => ∃ xs, rdL S a xs
  | .count, .ref a, S => ∃ xs, rdL S a xs
  | .tindex, .tup _, _ => True
  | _, _, _ => False
/-- isinstance against a built-in type, by a value -/
def tyName : Val → Sto → Option String
  | .non, _ => some "NoneType"
  | .bl _, _ => some "bool"
  | .int _, _ => some "int"
  | .str _, _ => some "str"
  | .tup _, _ => some "tuple"
  | .ref a, S => match S a with
    | some (.lst _) => some "list"
    | some (.ro _) => some "list"
    | some (.dK _) => some "dict"
    | some (.dT _) => some "dict"
    | _ => none
  | .ptup _, _ => some "tuple"

/-- what may leave from inside a comprehension -/
abbrev noX : XPost := fun _ _ => False

mutual
def wE (G : Gam) (X : XPost) : E → Loc → Sto → Post → Prop
  | .v i, ρ, S, Q => ∃ v, ρ[i]? = some (some v) ∧ Q v S
  | .int i, _, S, Q => Q (.int i) S
  | .bl b, _, S, Q => Q (.bl b) S
  | .non, _, S, Q => Q .non S
  | .str x, _, S, Q => Q (.str x) S
  | .g x, _, S, Q => ∃ v, G.cst x = some v ∧ Q v S
  | .bin op a b, ρ, S, Q => wE G X a ρ S fun v S1 => wE G X b ρ S1 fun w S2 => wBin op v w S2 Q
  | .neg a, ρ, S, Q => wE G X a ρ S fun v S1 => ∃ i, v = .int i ∧ Q (.int (-i)) S1
  | .cmp op a b, ρ, S, Q => wE G X a ρ S fun v S1 => wE G X b ρ S1 fun w S2 => wCmp op v w S2 Q
  | .chain op op' a b c, ρ, S, Q => wE G X a ρ S fun v S1 => wE G X b ρ S1 fun w S2 => wCmp op v w S2 fun r S3 => ∃ k, r = .bl k ∧ if k = true then wE G X c ρ S3 fun u S4 => wCmp op' w u S4 Q else Q (.bl false) S3
  | .and es, ρ, S, Q => wAndV G X es ρ S Q
  | .or es, ρ, S, Q => wOrV G X es ρ S Q
  | .not a, ρ, S, Q => wE G X a ρ S fun v S1 => ∃ b, v = .bl b ∧ Q (.bl (!b)) S1
  | .ife t a b, ρ, S, Q => wB G X t ρ S fun k S1 => if k = true then wE G X a ρ S1 Q else wE G X b ρ S1 Q
  | .tup es, ρ, S, Q => wEs G X es ρ S fun vs S1 => vs.length ≤ sizeLine ∧ Q (.tup vs) S1
  | .lst es, ρ, S, Q => wEs G X es ρ S fun vs S1 => vs.length ≤ sizeLine ∧ ∀ p, S1 p = none → Q (.ref p) (S1.upd p (.lst vs))
  | .ix a i, ρ, S, Q => wE G X a ρ S fun v S1 => wE G X i ρ S1 fun w S2 => vIx v w S2 Q
  | .sl a lo hi, ρ, S, Q => wE G X a ρ S fun v S1 => wP G X lo ρ S1 fun l S2 => wP G X hi ρ S2 fun h S3 => vSl v l h S3 Q
  | .rev a, ρ, S, Q => wE G X a ρ S fun v S1 => ∃ a xs, v = .ref a ∧ rdL S1 a xs ∧ ∀ p, S1 p = none → Q (.ref p) (S1.upd p (.lst xs.reverse))
  | .fld a f, ρ, S, Q => wE G X a ρ S fun v S1 => vFld G.fo f v S1 Q
  | .call f es, ρ, S, Q => ∃ sp, G.fn f = some sp ∧ wEs G X es ρ S fun vs S1 => app sp vs S1 Q X
  | .new C es, ρ, S, Q => ∃ sp, G.new C = some sp ∧ wEs G X es ρ S fun vs S1 => ∀ p, S1 p = none → app sp (.ref p :: vs) (S1.upd p (.ins C [])) (fun r S2 => r = .non ∧ Q (.ref p) S2) X
  | .meth o m es, ρ, S, Q => wE G X o ρ S fun v S1 => ∃ a C fs sp, v = .ref a ∧ S1 a = some (.ins C fs) ∧ fs.lookup m = none ∧ G.mt C m = some sp ∧ wEs G X es ρ S1 fun vs S2 => app sp (.ref a :: vs) S2 Q X
  | .blt b es, ρ, S, Q => wEs G X es ρ S fun vs S1 => wBlt b vs S1 Q
  | .mth m o es, ρ, S, Q => wE G X o ρ S fun v S1 => tyM m v S1 ∧ wEs G X es ρ S1 fun vs S2 => wMth m v vs S2 Q
  | .isx a y, ρ, S, Q => wE G X a ρ S fun v S1 => ∃ p c b, v = .ref p ∧ S1 p = some (.exo c) ∧ G.exi c y = some b ∧ Q (.bl b) S1
  | .isi a t, ρ, S, Q => wE G X a ρ S fun v S1 => ∃ n k, tyName v S1 = some n ∧ kitB n t = some k ∧ Q (.bl k) S1
  | .isiT a ts, ρ, S, Q => wE G X a ρ S fun v S1 => ∃ n, tyName v S1 = some n ∧ (ts.all fun t => (kitB n t).isSome) = true ∧ Q (.bl (ts.any fun t => kitB n t == some true)) S1
  | .lc own t it ifs e, ρ, S, Q => wI G X it ρ S fun xs keep S1 => compW keep (fun x S2 R => wTg G noX t x (wipeL ρ (own.map (·.2))) S2 fun ρ' S3 => wBs G noX ifs ρ' S3 fun k S4 =>
      if k = true then wE G noX e ρ' S4 fun v S5 => R (some v) S5 else R none S4) xs [] S1 Q
  | .dK0, _, S, Q => ∀ p, S p = none → Q (.ref p) (S.upd p (.dK []))
  | .dT0, _, S, Q => ∀ p, S p = none → Q (.ref p) (S.upd p (.dT []))
  | .dT1 k v, ρ, S, Q => ∀ p, S p = none → wE G X k ρ (S.upd p (.dT [])) fun w S1 => wE G X v ρ S1 fun u S2 => ∃ ks, w = .ptup (ks.map kval) ∧ S2 p = some (.dT []) ∧ Q (.ref p) (S2.upd p (.dT [(ks, u)]))
  | .addL a b, ρ, S, Q => wE G X a ρ S fun v S1 => wE G X b ρ S1 fun w S2 => lAdd v w S2 Q
  | .revT a, ρ, S, Q => wE G X a ρ S fun v S1 => ∃ xs, v = .tup xs ∧ Q (.tup xs.reverse) S1
  | .repr a, ρ, S, Q => G.rp = true ∧ wE G X a ρ S fun v S1 => vRepr v S1 Q
  | .ktup es, ρ, S, Q => wEs G X es ρ S fun vs S1 => vs.length ≤ sizeLine ∧ Q (.ptup vs) S1
  | .lrng1 a, ρ, S, Q => wE G X a ρ S fun v S1 => ∃ n, v = .int n ∧ -(2 ^ 62) ≤ n ∧ n ≤ 2 ^ 24 ∧ ∀ p, S1 p = none → Q (.ref p) (S1.upd p (.lst (rngV 0 n.toNat)))
  | .lrng2 a b, ρ, S, Q => wE G X a ρ S fun v S1 => wE G X b ρ S1 fun w S2 => ∃ i j, v = .int i ∧ w = .int j ∧ small62 i ∧ small62 j ∧ (j - i).toNat ≤ 2 ^ 24 ∧ ∀ p, S2 p = none → Q (.ref p) (S2.upd p (.lst (rngV i (j - i).toNat)))
  | .lrev a, ρ, S, Q => wE G X a ρ S fun v S1 => ∃ a xs, v = .ref a ∧ rdL S1 a xs ∧ ∀ p, S1 p = none → Q (.ref p) (S1.upd p (.lst xs.reverse))
  | .trev a, ρ, S, Q => wE G X a ρ S fun v S1 => ∃ a xs, v = .ref a ∧ rdL S1 a xs ∧ Q (.tup xs.reverse) S1
  | .sset a, ρ, S, Q => wE G X a ρ S fun v S1 => ∃ ns : List Int, v = .tup (ns.map .int) ∧ ns.length ≤ 1000 ∧ ∀ ns' : List Int, ns'.Pairwise (· < ·) → (∀ k : Int, k ∈ ns' ↔ k ∈ ns) → ∀ p, S1 p = none → Q (.ref p) (S1.upd p (.lst (ns'.map .int)))
  | .ssetL a, ρ, S, Q => wE G X a ρ S fun v S1 => ∃ (r : Addr) (ns : List Int), v = .ref r ∧ rdL S1 r (ns.map .int) ∧ ns.length ≤ 1000 ∧ ∀ ns' : List Int, ns'.Pairwise (· < ·) → (∀ k : Int, k ∈ ns' ↔ k ∈ ns) → ∀ p, S1 p = none → Q (.ref p) (S1.upd p (.lst (ns'.map .int)))
  | .trevT a, ρ, S, Q => wE G X a ρ S fun v S1 => ∃ xs, v = .tup xs ∧ Q (.tup xs.reverse) S1
  | .dix d k, ρ, S, Q => wE G X d ρ S fun v S1 => wE G X k ρ S1 fun w S2 => ∃ a x, v = .ref a ∧ DG S2 a w (some x) ∧ Q x S2
  | .dg1 d k, ρ, S, Q => wE G X d ρ S fun v S1 => ∃ a, v = .ref a ∧ isD S1 a ∧ wE G X k ρ S1 fun w S2 => ∃ o, DG S2 a w o ∧ Q (o.getD .non) S2
  | .dg2 d k x, ρ, S, Q => wE G X d ρ S fun v S1 => ∃ a, v = .ref a ∧ isD S1 a ∧ wE G X k ρ S1 fun w S2 => wE G X x ρ S2 fun u S3 => ∃ o, DG S3 a w o ∧ Q (o.getD u) S3
  | .dsd d k x, ρ, S, Q => wE G X d ρ S fun v S1 => ∃ a, v = .ref a ∧ isD S1 a ∧ wE G X k ρ S1 fun w S2 => wE G X x ρ S2 fun u S3 => ∃ kvs key, S3 a = some (.dK kvs) ∧ w = kval key ∧ kvs.length < sizeLine ∧ (∀ y, vlK kvs key = some y → Q y S3) ∧ (vlK kvs key = none → Q u (S3.upd a (.dK (ptK kvs key u))))
  | .dpop d k, ρ, S, Q => wE G X d ρ S fun v S1 => ∃ a, v = .ref a ∧ isD S1 a ∧ wE G X k ρ S1 fun w S2 => ∃ kvs key x, S2 a = some (.dK kvs) ∧ w = kval key ∧ vlK kvs key = some x ∧ Q x (S2.upd a (.dK (drK kvs key)))
  | .din neg k d, ρ, S, Q => wE G X k ρ S fun w S1 => wE G X d ρ S1 fun v S2 => ∃ a o, v = .ref a ∧ DG S2 a w o ∧ Q (.bl (neg ^^ o.isSome)) S2
  | .lockE e, ρ, S, Q => ∃ a, (∃ kvs, S a = some (.dK kvs) ∧ wE G noX e ρ (S.upd a (.fK kvs)) fun v S1 => S1 a = some (.fK kvs) ∧ Q v (S1.upd a (.dK kvs))) ∨ ∃ kvs, S a = some (.dT kvs) ∧ wE G noX e ρ (S.upd a (.fT kvs)) fun v S1 => S1 a = some (.fT kvs) ∧ Q v (S1.upd a (.dT kvs))
def wEs (G : Gam) (X : XPost) : List E → Loc → Sto → (List Val → Sto → Prop) → Prop
  | [], _, S, Q => Q [] S
  | e :: es, ρ, S, Q => wE G X e ρ S fun v S1 => wEs G X es ρ S1 fun vs S2 => Q (v :: vs) S2
def wAndV (G : Gam) (X : XPost) : List E → Loc → Sto → Post → Prop
  | [], _, S, Q => False
  | e :: es, ρ, S, Q => wE G X e ρ S fun v S1 => if es.isEmpty = true then Q v S1 else ∃ b, v = .bl b ∧ if b = true then wAndV G X es ρ S1 Q else Q (.bl false) S1
def wOrV (G : Gam) (X : XPost) : List E → Loc → Sto → Post → Prop
  | [], _, S, Q => False
  | e :: es, ρ, S, Q => wE G X e ρ S fun v S1 => if es.isEmpty = true then Q v S1 else ∃ b, v = .bl b ∧ if b = true then Q (.bl true) S1 else wOrV G X es ρ S1 Q
def wB (G : Gam) (X : XPost) : B → Loc → Sto → (Bool → Sto → Prop) → Prop
  | .val e, ρ, S, Q => wE G X e ρ S fun v S1 => wTru v S1 Q
  | .cmp op a b, ρ, S, Q => wE G X a ρ S fun v S1 => wE G X b ρ S1 fun w S2 => wCmp op v w S2 fun r S3 => ∃ k, r = .bl k ∧ Q k S3
  | .chain op op' a b c, ρ, S, Q => wE G X a ρ S fun v S1 => wE G X b ρ S1 fun w S2 => wCmp op v w S2 fun r S3 => ∃ k, r = .bl k ∧ if k = true then wE G X c ρ S3 fun u S4 => wCmp op' w u S4 fun r' S5 => ∃ k', r' = .bl k' ∧ Q k' S5 else Q false S3
  | .chain3 op op' op'' a b c d, ρ, S, Q => wE G X a ρ S fun v S1 => wE G X b ρ S1 fun w S2 => wCmp op v w S2 fun r S3 => ∃ k, r = .bl k ∧ if k = true then wE G X c ρ S3 fun u S4 => wCmp op' w u S4 fun r' S5 => ∃ k', r' = .bl k' ∧ if k' = true then wE G X d ρ S5 fun u2 S6 => wCmp op'' u u2 S6 fun r'' S7 => ∃ k'', r'' = .bl k'' ∧ Q k'' S7 else Q false S5 else Q false S3
  | .not b, ρ, S, Q => wB G X b ρ S fun k S1 => Q (!k) S1
  | .and bs, ρ, S, Q => wAnd G X bs ρ S Q
  | .or bs, ρ, S, Q => wOr G X bs ρ S Q
  | .din neg k d, ρ, S, Q => wE G X k ρ S fun w S1 => wE G X d ρ S1 fun v S2 => ∃ a o, v = .ref a ∧ DG S2 a w o ∧ Q (neg ^^ o.isSome) S2
def wAnd (G : Gam) (X : XPost) : List B → Loc → Sto → (Bool → Sto → Prop) → Prop
  | [], _, S, Q => Q true S
  | b :: bs, ρ, S, Q => wB G X b ρ S fun k S1 => if k = true then wAnd G X bs ρ S1 Q else Q false S1
def wOr (G : Gam) (X : XPost) : List B → Loc → Sto → (Bool → Sto → Prop) → Prop
  | [], _, S, Q => Q false S
  | b :: bs, ρ, S, Q => wB G X b ρ S fun k S1 => if k = true then Q true S1 else wOr G X bs ρ S1 Q
/-- a comprehension's tests, one after another -/
def wBs (G : Gam) (X : XPost) : List B → Loc → Sto → (Bool → Sto → Prop) → Prop
  | [], _, S, Q => Q true S
  | b :: bs, ρ, S, Q => wB G X b ρ S fun k S1 => if k = true then wBs G X bs ρ S1 Q else Q false S1
def wP (G : Gam) (X : XPost) : P → Loc → Sto → (Option Int → Sto → Prop) → Prop
  | .no, _, S, Q => Q none S
  | .at e, ρ, S, Q => wE G X e ρ S fun v S1 => ∃ i, v = .int i ∧ Q (some i) S1
def wTg (G : Gam) (X : XPost) : T → Val → Loc → Sto → (Loc → Sto → Prop) → Prop
  | .nm i, v, ρ, S, Q => Q (ρ.set i (some v)) S
  | .tup ts, v, ρ, S, Q => ∃ xs, valD S v xs ∧ xs.length = ts.length ∧ wTgs G X ts xs ρ S Q
  | .ix a i, v, ρ, S, Q => wE G X a ρ S fun o S1 => wE G X i ρ S1 fun k S2 => ∃ p xs j n, o = .ref p ∧ k = .int n ∧ S2 p = some (.lst xs) ∧ ixN xs.length n = some j ∧ Q ρ (S2.upd p (.lst (xs.set j v)))
  | .fld a f, v, ρ, S, Q => wE G X a ρ S fun o S1 => ∃ p C fs, o = .ref p ∧ S1 p = some (.ins C fs) ∧ G.fo C f = true ∧ fs.length < 1000 ∧ Q ρ (S1.upd p (.ins C (putV f v fs)))
  | .dix a i, v, ρ, S, Q => wE G X a ρ S fun o S1 => wE G X i ρ S1 fun k S2 => ∃ p, o = .ref p ∧ DP S2 p k v fun S3 => Q ρ S3
def wTgs (G : Gam) (X : XPost) : List T → List Val → Loc → Sto → (Loc → Sto → Prop) → Prop
  | [], vs, ρ, S, Q => vs = [] ∧ Q ρ S
  | t :: ts, vs, ρ, S, Q => ∃ v r, vs = v :: r ∧ wTg G X t v ρ S fun ρ' S' => wTgs G X ts r ρ' S' Q
def wI (G : Gam) (X : XPost) : I → Loc → Sto → (List Val → (Sto → Prop) → Sto → Prop) → Prop
  | .val e, ρ, S, R => wE G X e ρ S fun v S1 => match v with
    | .tup xs => R xs (fun _ => True) S1
    | .ref a => ∃ xs, rdL S1 a xs ∧ R xs (fun S' => rdL S' a xs) S1
    | .str z => R (z.cps.toList.map fun c => .str ⟨#[c]⟩) (fun _ => True) S1
    | _ => False
  | .rng1 a, ρ, S, R => wE G X a ρ S fun v S1 => ∃ j, v = .int j ∧ small62 j ∧ R (rngV 0 j.toNat) (fun _ => True) S1
  | .rvs1 a, ρ, S, R => wE G X a ρ S fun v S1 => ∃ j, v = .int j ∧ small62 j ∧ R (rngV 0 j.toNat).reverse (fun _ => True) S1
  | .rng2 a b, ρ, S, R => wE G X a ρ S fun v S1 => wE G X b ρ S1 fun w S2 => ∃ i j, v = .int i ∧ w = .int j ∧ small62 i ∧ small62 j ∧ R (rngV i (j - i).toNat) (fun _ => True) S2
  | .keys e, ρ, S, R => wE G X e ρ S fun v S1 => ∃ a, v = .ref a ∧ ((∃ kvs, S1 a = some (.fK kvs) ∧ R (kvs.map fun kv => kval kv.1) (fun S' => S' a = some (.fK kvs)) S1) ∨ ∃ kvs, S1 a = some (.fT kvs) ∧ R (kvs.map fun kv => .ptup (kv.1.map kval)) (fun S' => S' a = some (.fT kvs)) S1)
  | .keysM e, ρ, S, R => wE G X e ρ S fun v S1 => ∃ a kvs, v = .ref a ∧ S1 a = some (.fK kvs) ∧ R (kvs.map fun kv => kval kv.1) (fun S' => S' a = some (.fK kvs)) S1
  | .zip a b, ρ, S, R => wE G X a ρ S fun v S1 => wE G X b ρ S1 fun w S2 => match v, w with
    | .tup xs, .tup ys => R (List.zipWith (fun x y => .ptup [x, y]) xs ys) (fun _ => True) S2
    | .ref a, .ref b => ∃ xs ys, rdL S2 a xs ∧ rdL S2 b ys ∧ R (List.zipWith (fun x y => .ptup [x, y]) xs ys) (fun S' => rdL S' a xs ∧ rdL S' b ys) S2
    | _, _ => False
  | .zip3 a b c, ρ, S, R => wE G X a ρ S fun v S1 => wE G X b ρ S1 fun w S2 => wE G X c ρ S2 fun u S3 => ∃ xs ys zs, v = .tup xs ∧ w = .tup ys ∧ u = .tup zs ∧ xs.length = ys.length ∧ xs.length = zs.length ∧ R (zip3V xs ys zs) (fun _ => True) S3
  | .rvs a, ρ, S, R => wE G X a ρ S fun v S1 => match v with
    | .tup xs => R xs.reverse (fun _ => True) S1
    | .ref a => ∃ xs, rdL S1 a xs ∧ R xs.reverse (fun S' => rdL S' a xs) S1
    | _ => False
  | _, _, _, _ => False
end

/-- what is wanted behind a statement; xc: an error of a class by its name -/
structure En where
  nx : Loc → Sto → Prop
  rt : Post
  bk : Loc → Sto → Prop := fun _ _ => False
  ct : Loc → Sto → Prop := fun _ _ => False
  xc : Str → Loc → Sto → Prop := fun _ _ _ => False

/-- a for's turns -/
def forW (keep : Sto → Prop) (turn : Val → Loc → Sto → En → Prop) (D : En) : List Val → Loc → Sto → Prop
  | [], ρ, S => keep S ∧ D.nx ρ S
  | x :: xs, ρ, S => keep S ∧ turn x ρ S { D with nx := forW keep turn D xs, ct := forW keep turn D xs, bk := D.nx }

/-- tests of a caught error -/
inductive HE where
  | bl (b : Bool) | is (y : Str) | v (i : Nat) | not (a : HE) | and (a b : HE) | and3 (a b c : HE)
/-- what a clause's suite does -/
inductive HK where
  | ret (h : HE) | setB (i : Nat) (h : HE) | setN (i : Nat) | setS (i : Nat) (x : Str)
/-- a clause: its class, its name's slot, its suite -/
structure Hd where
  y : Str
  n : Option Nat
  k : HK
  more : List Str
def hE (f : Str → Option Bool) (ρ : Loc) : HE → Option Bool
  | .bl b => some b
  | .is y => f y
  | .v i => match ρ[i]? with
    | some (some (.bl b)) => some b
    | _ => none
  | .not a => (hE f ρ a).map (!·)
  | .and a b => match hE f ρ a with
    | some true => hE f ρ b
    | some false => some false
    | none => none
  | .and3 a b c => match hE f ρ a with
    | some true => (match hE f ρ b with
      | some true => hE f ρ c
      | some false => some false
      | none => none)
    | some false => some false
    | none => none
/-- what stands behind an except -/
inductive Hk where
  | retB (b : Bool)
  deriving DecidableEq
/-- what is done with a caught error that is kept: named, given back -/
inductive KK where
  | set (i : Nat) | ret
inductive C where
  | asg (t : T) (e : E) | par (is : List Nat) (es : List E) | aug (i : Nat) (op : Operator) (e : E)
  | ex (e : E) | ret (e : E) | retN
  | ite (c : B) (p q : List C) | whil (c : B) (p : List C) | loop (t : T) (it : I) (p : List C)
  | brk | cnt | pass
  | rais (x : Str)
  | lock (c : C)
  | augI (a i : E) (op : Operator) (e : E)
  | tryR (p : List C) (y : Str) (h : Hk)
  | tryM (p : List C) (hs : List Hd)
  | tryK (p : List C) (y : Str) (n : Nat) (k : KK)

def setAll (ρ : Loc) : List Nat → List Val → Loc
  | i :: is, v :: vs => setAll (ρ.set i (some v)) is vs
  | _, _ => ρ
/-- name op= e -/
def aAdd : Val → Val → Sto → Post → Prop
  | .int i, .int j, S, Q => Q (.int (i + j)) S
  | .ref a, .ref b, S, Q => ∃ xs ys, S a = some (.lst xs) ∧ S b = some (.lst ys) ∧ xs.length + ys.length ≤ sizeLine ∧ Q (.ref a) (S.upd a (.lst (xs ++ ys)))
  | _, _, _, _ => False
def wAug : Operator → Val → Val → Sto → Post → Prop
  | .Add => aAdd | .Sub => bSub
  | _ => fun _ _ _ _ => False
def wHK (f : Str → Option Bool) (D : En) (ρ : Loc) (S : Sto) : HK → Prop
  | .ret h => ∃ b, hE f ρ h = some b ∧ D.rt (.bl b) S
  | .setB i h => ∃ b, hE f ρ h = some b ∧ D.nx (ρ.set i (some (.bl b))) S
  | .setN i => D.nx (ρ.set i (some .non)) S
  | .setS i x => D.nx (ρ.set i (some (.str x))) S
/-- an error of the class c before a clause of one class or of more -/
def exmS (G : Gam) (c : Str) : Str → List Str → Option Bool
  | y, [] => G.exm c y
  | y, m :: ms => match G.exm c y, exmS G c m ms with
    | some a, some b => some (a || b)
    | _, _ => none
/-- a caught error kept at q, n the name's slot -/
def wKK (D : En) (n : Nat) (ρ : Loc) (q : Addr) (S : Sto) : KK → Prop
  | .set i => D.nx ((ρ.set i (some (.ref q))).set n none) S
  | .ret => D.rt (.ref q) S
/-- the clauses, one after another, for an error of the class c -/
def wHs (G : Gam) (D : En) (c : Str) (ρ : Loc) (S : Sto) : List Hd → Prop
  | [] => D.xc c ρ S
  | h :: hs => ∃ b, exmS G c h.y h.more = some b ∧ if b = true then (match h.n with
      | none => wHK (fun _ => none) D ρ S h.k
      | some n => wHK (G.exi c) { D with nx := fun ρ' S' => D.nx (ρ'.set n none) S' } (ρ.set n none) S h.k) else wHs G D c ρ S hs
mutual
def wC (G : Gam) : C → En → Loc → Sto → Prop
  | .asg t e, D, ρ, S => wE G (fun c S => D.xc c ρ S) e ρ S fun v S1 => wTg G noX t v ρ S1 D.nx
  | .par is es, D, ρ, S => wEs G (fun c S => D.xc c ρ S) es ρ S fun vs S1 => D.nx (setAll ρ is vs) S1
  | .aug i op e, D, ρ, S => ∃ v, ρ[i]? = some (some v) ∧ wE G (fun c S => D.xc c ρ S) e ρ S fun w S1 => wAug op v w S1 fun r S2 => D.nx (ρ.set i (some r)) S2
  | .ex e, D, ρ, S => wE G (fun c S => D.xc c ρ S) e ρ S fun _ S1 => D.nx ρ S1
  | .ret e, D, ρ, S => wE G (fun c S => D.xc c ρ S) e ρ S D.rt
  | .retN, D, ρ, S => D.rt .non S
  | .ite c p q, D, ρ, S => wB G (fun c S => D.xc c ρ S) c ρ S fun k S1 => if k = true then wCs G p D ρ S1 else wCs G q D ρ S1
  | .whil c p, D, ρ, S => ∃ W : Nat → Loc → Sto → Prop, (∃ m, W m ρ S) ∧ ∀ m ρ S, W m ρ S → wB G (fun c S => D.xc c ρ S) c ρ S fun k S1 =>
      if k = true then wCs G p { D with nx := fun ρ' S' => ∃ m', m' < m ∧ W m' ρ' S', ct := fun ρ' S' => ∃ m', m' < m ∧ W m' ρ' S', bk := D.nx } ρ S1 else D.nx ρ S1
  | .loop t it p, D, ρ, S => wI G (fun c S => D.xc c ρ S) it ρ S fun xs keep S1 => forW keep (fun x ρ1 S2 D' => wTg G noX t x ρ1 S2 fun ρ2 S3 => wCs G p D' ρ2 S3) D xs ρ S1
  | .brk, D, ρ, S => D.bk ρ S
  | .cnt, D, ρ, S => D.ct ρ S
  | .pass, D, ρ, S => D.nx ρ S
  | .rais x, D, ρ, S => D.xc x ρ S
  | .lock c, D, ρ, S => ∃ a, (∃ kvs, S a = some (.dK kvs) ∧ wC G c { nx := fun ρ' S' => S' a = some (.fK kvs) ∧ D.nx ρ' (S'.upd a (.dK kvs)), rt := fun v S' => S' a = some (.fK kvs) ∧ D.rt v (S'.upd a (.dK kvs)), bk := fun ρ' S' => S' a = some (.fK kvs) ∧ D.bk ρ' (S'.upd a (.dK kvs)), ct := fun ρ' S' => S' a = some (.fK kvs) ∧ D.ct ρ' (S'.upd a (.dK kvs)) } ρ (S.upd a (.fK kvs)))
      ∨ ∃ kvs, S a = some (.dT kvs) ∧ wC G c { nx := fun ρ' S' => S' a = some (.fT kvs) ∧ D.nx ρ' (S'.upd a (.dT kvs)), rt := fun v S' => S' a = some (.fT kvs) ∧ D.rt v (S'.upd a (.dT kvs)), bk := fun ρ' S' => S' a = some (.fT kvs) ∧ D.bk ρ' (S'.upd a (.dT kvs)), ct := fun ρ' S' => S' a = some (.fT kvs) ∧ D.ct ρ' (S'.upd a (.dT kvs)) } ρ (S.upd a (.fT kvs))
  | .augI a i op e, D, ρ, S => wE G noX a ρ S fun o S1 => wE G noX i ρ S1 fun k S2 => ∃ p xs j n x, o = .ref p ∧ k = .int n ∧ rdL S2 p xs ∧ ixN xs.length n = some j ∧ xs[j]? = some x ∧ wE G noX e ρ S2 fun w S3 => wAug op x w S3 fun r S4 => ∃ ys j', S4 p = some (.lst ys) ∧ ixN ys.length n = some j' ∧ D.nx ρ (S4.upd p (.lst (ys.set j' r)))
  | .tryM p hs, D, ρ, S => wCs G p { D with xc := fun c ρ' S' => wHs G D c ρ' S' hs } ρ S
  | .tryK p y n k, D, ρ, S => wCs G p { D with xc := fun c ρ' S' => ∃ b, G.exm c y = some b ∧ if b = true then (∀ q, S' q = none → wKK D n ρ' q (S'.upd q (.exo c)) k) else D.xc c ρ' S' } ρ S
  | .tryR p y h, D, ρ, S => wCs G p { D with xc := fun c ρ' S' => ∃ b, G.exm c y = some b ∧ if b = true then (match h with | .retB k => D.rt (.bl k) S') else D.xc c ρ' S' } ρ S
def wCs (G : Gam) : List C → En → Loc → Sto → Prop
  | [], D, ρ, S => D.nx ρ S
  | c :: cs, D, ρ, S => wC G c { D with nx := fun ρ' S' => wCs G cs D ρ' S' } ρ S
end
end M

namespace M
open PySem PySem.Spec PyProof.Rows L2
section
variable {S : Sto} {Q Q' : Post}
theorem lAdd_mono (h : ∀ v S', Q v S' → Q' v S') (v w : Val) (S : Sto) : lAdd v w S Q → lAdd v w S Q' := by
  unfold lAdd; split
  · exact fun ⟨xs, ys, a, b, c, q⟩ => ⟨xs, ys, a, b, c, fun p hp => h _ _ (q p hp)⟩
  · exact fun z => z
theorem bAdd_mono (h : ∀ v S', Q v S' → Q' v S') (v w : Val) (S : Sto) : bAdd v w S Q → bAdd v w S Q' := by
  unfold bAdd; split
  · exact h _ _
  · exact h _ _
  · exact fun q => ⟨q.1, h _ _ q.2⟩
  · exact fun q => ⟨q.1, h _ _ q.2⟩
  · exact fun ⟨xs, ys, a, b, c, q⟩ => ⟨xs, ys, a, b, c, fun p hp => h _ _ (q p hp)⟩
  · exact id
theorem bSub_mono (h : ∀ v S', Q v S' → Q' v S') (v w : Val) (S : Sto) : bSub v w S Q → bSub v w S Q' := by
  unfold bSub; split
  · exact h _ _
  · exact id
theorem bMul_mono (h : ∀ v S', Q v S' → Q' v S') (v w : Val) (S : Sto) : bMul v w S Q → bMul v w S Q' := by
  unfold bMul; split
  · exact fun q => ⟨q.1, h _ _ q.2⟩
  · exact fun ⟨xs, a, b, c, d, q⟩ => ⟨xs, a, b, c, d, fun p hp => h _ _ (q p hp)⟩
  · exact fun ⟨a, b, c, q⟩ => ⟨a, b, c, h _ _ q⟩
  · exact id
theorem wBin_mono (h : ∀ v S', Q v S' → Q' v S') (op : Operator) (v w : Val) (S : Sto) : wBin op v w S Q → wBin op v w S Q' := by
  cases op <;> simp only [wBin]
  case Add => exact bAdd_mono h v w S
  case Sub => exact bSub_mono h v w S
  case Mult => exact bMul_mono h v w S
  case FloorDiv => unfold bDiv; split <;> first | exact id | exact fun q => ⟨q.1, h _ _ q.2⟩
  case Mod => unfold bMod; split <;> first | exact id | exact fun q => ⟨q.1, h _ _ q.2⟩
  case Pow => unfold bPow; split <;> first | exact id | exact fun q => ⟨q.1, h _ _ q.2⟩
  case LShift => unfold bShl; split <;> first | exact id | exact fun q => ⟨q.1, h _ _ q.2⟩
  case RShift => unfold bShr; split <;> first | exact id | exact fun q => ⟨q.1, h _ _ q.2⟩
  case BitAnd => unfold bAnd; split <;> first | exact id | exact h _ _
  case BitXor => unfold bXor; split <;> first | exact id | exact h _ _
  all_goals exact id
theorem aAdd_mono (h : ∀ v S', Q v S' → Q' v S') (v w : Val) (S : Sto) : aAdd v w S Q → aAdd v w S Q' := by
  unfold aAdd; split
  · exact h _ _
  · exact fun ⟨xs, ys, a, b, c, q⟩ => ⟨xs, ys, a, b, c, h _ _ q⟩
  · exact id
theorem wAug_mono (h : ∀ v S', Q v S' → Q' v S') (op : Operator) (v w : Val) (S : Sto) : wAug op v w S Q → wAug op v w S Q' := by
  cases op <;> simp only [wAug]
  case Add => exact aAdd_mono h v w S
  case Sub => exact bSub_mono h v w S
  all_goals exact id
theorem cEq_mono (n : Bool) (h : ∀ v S', Q v S' → Q' v S') (v w : Val) (S : Sto) : cEq n v w S Q → cEq n v w S Q' := by
  unfold cEq; split
  · exact h _ _
  · rintro (⟨x, y, a, b, q⟩ | ⟨d, e, a, b, c, f, q⟩)
    · exact .inl ⟨x, y, a, b, h _ _ q⟩
    · exact .inr ⟨d, e, a, b, c, f, h _ _ q⟩
theorem cInt_mono (f : Int → Int → Bool) (h : ∀ v S', Q v S' → Q' v S') (v w : Val) (S : Sto) : cInt f v w S Q → cInt f v w S Q' := by
  unfold cInt; split
  · exact h _ _
  · exact id
theorem cIn_mono (n : Bool) (h : ∀ v S', Q v S' → Q' v S') (v w : Val) (S : Sto) : cIn n v w S Q → cIn n v w S Q' := by
  unfold cIn; split
  · exact fun ⟨xs, d, e, l, a, b, c, f, q⟩ => ⟨xs, d, e, l, a, b, c, f, h _ _ q⟩
  · exact fun ⟨a, b, q⟩ => ⟨a, b, h _ _ q⟩
  · exact id
theorem cIs_mono (n : Bool) (h : ∀ v S', Q v S' → Q' v S') (v w : Val) (S : Sto) : cIs n v w S Q → cIs n v w S Q' := by
  unfold cIs; split <;> first | exact h _ _ | exact id
theorem wCmp_mono (h : ∀ v S', Q v S' → Q' v S') (op : CmpOp) (v w : Val) (S : Sto) : wCmp op v w S Q → wCmp op v w S Q' := by
  cases op <;> simp only [wCmp]
  case Eq => exact cEq_mono _ h v w S
  case NotEq => exact cEq_mono _ h v w S
  case In => exact cIn_mono _ h v w S
  case NotIn => exact cIn_mono _ h v w S
  case Is => exact cIs_mono _ h v w S
  case IsNot => exact cIs_mono _ h v w S
  all_goals exact cInt_mono _ h v w S
theorem wTru_mono {Q Q' : Bool → Sto → Prop} (h : ∀ v S', Q v S' → Q' v S') (v : Val) (S : Sto) : wTru v S Q → wTru v S Q' := by
  unfold wTru; split <;> first | exact h _ _ | exact id | exact fun ⟨xs, a, q⟩ => ⟨xs, a, h _ _ q⟩
theorem vIx_mono (h : ∀ v S', Q v S' → Q' v S') (v w : Val) (S : Sto) : vIx v w S Q → vIx v w S Q' := by
  unfold vIx; split
  · exact fun ⟨x, a, q⟩ => ⟨x, a, h _ _ q⟩
  · exact fun ⟨xs, x, a, b, q⟩ => ⟨xs, x, a, b, h _ _ q⟩
  · exact fun ⟨x, a, b, q⟩ => ⟨x, a, b, h _ _ q⟩
  · exact fun ⟨x, a, q⟩ => ⟨x, a, h _ _ q⟩
  · exact id
theorem vSl_mono (h : ∀ v S', Q v S' → Q' v S') (v : Val) (l u : Option Int) (S : Sto) : vSl v l u S Q → vSl v l u S Q' := by
  unfold vSl; split
  · exact h _ _
  · exact fun ⟨xs, a, q⟩ => ⟨xs, a, fun p hp => h _ _ (q p hp)⟩
  · exact fun ⟨a, q⟩ => ⟨a, h _ _ q⟩
  · exact id
theorem vFld_mono (fo : Str → Str → Bool) (f : Str) (h : ∀ v S', Q v S' → Q' v S') (v : Val) (S : Sto) : vFld fo f v S Q → vFld fo f v S Q' := by
  unfold vFld; split
  · exact fun ⟨C, fs, x, a, b, c, q⟩ => ⟨C, fs, x, a, b, c, h _ _ q⟩
  · exact id
theorem wBlt_mono (h : ∀ v S', Q v S' → Q' v S') (b : Blt) (vs : List Val) (S : Sto) : wBlt b vs S Q → wBlt b vs S Q' := by
  unfold wBlt; split
  case h_2 => split <;> first | exact h _ _ | exact id
  all_goals first | exact h _ _ | exact id | exact fun ⟨a, q⟩ => ⟨a, h _ _ q⟩ | exact fun ⟨xs, a, q⟩ => ⟨xs, a, h _ _ q⟩ | exact fun ⟨xs, a, q⟩ => ⟨xs, a, fun p hp => h _ _ (q p hp)⟩ | exact fun ⟨ns, a, q⟩ => ⟨ns, a, fun ns' b c p hp => h _ _ (q ns' b c p hp)⟩ | exact fun ⟨ns, a, k, q⟩ => ⟨ns, a, k, fun ns' b c p hp => h _ _ (q ns' b c p hp)⟩ | exact fun ⟨ns, a, k, q⟩ => ⟨ns, a, k, fun m b c => h _ _ (q m b c)⟩
theorem wMth_mono (h : ∀ v S', Q v S' → Q' v S') (m : Mth) (v : Val) (vs : List Val) (S : Sto) : wMth m v vs S Q → wMth m v vs S Q' := by
  unfold wMth; split
  · exact fun ⟨xs, a, b, q⟩ => ⟨xs, a, b, h _ _ q⟩
  · exact fun ⟨xs, x, a, b, q⟩ => ⟨xs, x, a, b, h _ _ q⟩
  · exact fun ⟨xs, x, a, b, c, d, q⟩ => ⟨xs, x, a, b, c, d, h _ _ q⟩
  · exact fun ⟨xs, a, b, c, d, q⟩ => ⟨xs, a, b, c, d, h _ _ q⟩
  · exact fun ⟨xs, ys, a, b, c, q⟩ => ⟨xs, ys, a, b, c, h _ _ q⟩
  · exact fun ⟨xs, a, q⟩ => ⟨xs, a, h _ _ q⟩
  · exact fun ⟨xs, j, a, b, c, q⟩ => ⟨xs, j, a, b, c, h _ _ q⟩
  · exact fun ⟨xs, j, a, b, c, q⟩ => ⟨xs, j, a, b, c, h _ _ q⟩
  · exact fun ⟨xs, a, q⟩ => ⟨xs, a, h _ _ q⟩
  · exact fun ⟨xs, j, a, b, c, q⟩ => ⟨xs, j, a, b, c, h _ _ q⟩
  · exact fun ⟨ys, a, b, q⟩ => ⟨ys, a, b, h _ _ q⟩
  · exact id
theorem DP_mono {Q Q' : Sto → Prop} {S : Sto} {a : Addr} {w v : Val} (h : ∀ S', Q S' → Q' S') : DP S a w v Q → DP S a w v Q' := by
  rintro (⟨kvs, k, a, b, c, q⟩ | ⟨kvs, k, a, b, c, q⟩)
  · exact .inl ⟨kvs, k, a, b, c, h _ q⟩
  · exact .inr ⟨kvs, k, a, b, c, h _ q⟩
theorem compW_mono {keep : Sto → Prop} {turn turn' : Val → Sto → (Option Val → Sto → Prop) → Prop} (ht : ∀ x S R R', (∀ o S', R o S' → R' o S') → turn x S R → turn' x S R') (h : ∀ v S', Q v S' → Q' v S') :
    ∀ (xs acc : List Val) (S : Sto), compW keep turn xs acc S Q → compW keep turn' xs acc S Q'
  | [], acc, S, q => ⟨q.1, fun p hp => h _ _ (q.2 p hp)⟩
  | x :: xs, acc, S, q => by
    refine ⟨q.1, ht x S _ _ (fun o S' r => ?_) q.2⟩
    cases o with
    | none => exact compW_mono ht h xs acc S' r
    | some v => exact ⟨r.1, compW_mono ht h xs _ S' r.2⟩
end

mutual
theorem wE_mono (G : Gam) (X : XPost) : ∀ (e : E) {ρ : Loc} {S : Sto} {Q Q' : Post}, (∀ v S', Q v S' → Q' v S') → wE G X e ρ S Q → wE G X e ρ S Q'
  | .v i, _, _, _, _, h, q => by simp only [wE] at q ⊢; exact let ⟨v, a, q⟩ := q; ⟨v, a, h _ _ q⟩
  | .int i, _, _, _, _, h, q => by simp only [wE] at q ⊢; exact h _ _ q
  | .bl i, _, _, _, _, h, q => by simp only [wE] at q ⊢; exact h _ _ q
  | .non, _, _, _, _, h, q => by simp only [wE] at q ⊢; exact h _ _ q
  | .str i, _, _, _, _, h, q => by simp only [wE] at q ⊢; exact h _ _ q
  | .g x, _, _, _, _, h, q => by simp only [wE] at q ⊢; exact let ⟨v, a, q⟩ := q; ⟨v, a, h _ _ q⟩
  | .bin op a b, _, _, _, _, h, q => by
    simp only [wE] at q ⊢
    exact wE_mono G X a (fun v S1 q => wE_mono G X b (fun w S2 q => wBin_mono h op v w S2 q) q) q
  | .neg a, _, _, _, _, h, q => by
    simp only [wE] at q ⊢
    exact wE_mono G X a (fun v S1 ⟨i, e, q⟩ => ⟨i, e, h _ _ q⟩) q
  | .cmp op a b, _, _, _, _, h, q => by
    simp only [wE] at q ⊢
    exact wE_mono G X a (fun v S1 q => wE_mono G X b (fun w S2 q => wCmp_mono h op v w S2 q) q) q
  | .chain op op' a b c, _, _, _, _, h, q => by
    simp only [wE] at q ⊢
    refine wE_mono G X a (fun v S1 q => wE_mono G X b (fun w S2 q => wCmp_mono (fun r S3 ⟨k, e, q⟩ => ⟨k, e, ?_⟩) op v w S2 q) q) q
    cases k with
    | true => simp only [if_true] at q ⊢; exact wE_mono G X c (fun u S4 q => wCmp_mono h op' w u S4 q) q
    | false => simp only [Bool.false_eq_true, if_false] at q ⊢; exact h _ _ q
  | .and es, _, _, _, _, h, q => by simp only [wE] at q ⊢; exact wAndV_mono G X es h q
  | .or es, _, _, _, _, h, q => by simp only [wE] at q ⊢; exact wOrV_mono G X es h q
  | .not a, _, _, _, _, h, q => by
    simp only [wE] at q ⊢
    exact wE_mono G X a (fun v S1 ⟨i, e, q⟩ => ⟨i, e, h _ _ q⟩) q
  | .ife t a b, _, _, _, _, h, q => by
    simp only [wE] at q ⊢
    refine wB_mono G X t (fun k S1 q => ?_) q
    cases k with
    | true => simp only [if_true] at q ⊢; exact wE_mono G X a h q
    | false => simp only [Bool.false_eq_true, if_false] at q ⊢; exact wE_mono G X b h q
  | .tup es, _, _, _, _, h, q => by simp only [wE] at q ⊢; exact wEs_mono G X es (fun vs S1 ⟨a, q⟩ => ⟨a, h _ _ q⟩) q
  | .lst es, _, _, _, _, h, q => by simp only [wE] at q ⊢; exact wEs_mono G X es (fun vs S1 ⟨a, q⟩ => ⟨a, fun p hp => h _ _ (q p hp)⟩) q
  | .ix a i, _, _, _, _, h, q => by
    simp only [wE] at q ⊢
    exact wE_mono G X a (fun v S1 q => wE_mono G X i (fun w S2 q => vIx_mono h v w S2 q) q) q
  | .sl a lo hi, _, _, _, _, h, q => by
    simp only [wE] at q ⊢
    exact wE_mono G X a (fun v S1 q => wP_mono G X lo (fun l S2 q => wP_mono G X hi (fun u S3 q => vSl_mono h v l u S3 q) q) q) q
  | .rev a, _, _, _, _, h, q => by
    simp only [wE] at q ⊢
    exact wE_mono G X a (fun v S1 ⟨a, xs, e, f, q⟩ => ⟨a, xs, e, f, fun p hp => h _ _ (q p hp)⟩) q
  | .fld a f, _, _, _, _, h, q => by
    simp only [wE] at q ⊢
    exact wE_mono G X a (fun v S1 q => vFld_mono _ f h v S1 q) q
  | .call f es, _, _, _, _, h, q => by
    simp only [wE] at q ⊢
    exact let ⟨sp, e, q⟩ := q; ⟨sp, e, wEs_mono G X es (fun vs S1 q => q.mono h fun _ _ x => x) q⟩
  | .new f es, _, _, _, _, h, q => by
    simp only [wE] at q ⊢
    exact let ⟨sp, e, q⟩ := q; ⟨sp, e, wEs_mono G X es (fun vs S1 q p hp => (q p hp).mono (fun v S2 z => ⟨z.1, h _ _ z.2⟩) fun _ _ x => x) q⟩
  | .meth o m es, _, _, _, _, h, q => by
    simp only [wE] at q ⊢
    exact wE_mono G X o (fun v S0 ⟨a, C, fs, sp, e1, e2, e3, e4, q⟩ => ⟨a, C, fs, sp, e1, e2, e3, e4, wEs_mono G X es (fun vs S1 q => q.mono h fun _ _ x => x) q⟩) q
  | .blt b es, _, _, _, _, h, q => by simp only [wE] at q ⊢; exact wEs_mono G X es (fun vs S1 q => wBlt_mono h b vs S1 q) q
  | .mth m o es, _, _, _, _, h, q => by
    simp only [wE] at q ⊢
    exact wE_mono G X o (fun v S1 ⟨t, q⟩ => ⟨t, wEs_mono G X es (fun vs S2 q => wMth_mono h m v vs S2 q) q⟩) q
  | .isx a y, _, _, _, _, h, q => by
    simp only [wE] at q ⊢
    exact wE_mono G X a (fun v S1 ⟨p, c, b, e1, e2, e3, q⟩ => ⟨p, c, b, e1, e2, e3, h _ _ q⟩) q
  | .isi a t, _, _, _, _, h, q => by
    simp only [wE] at q ⊢
    exact wE_mono G X a (fun v S1 ⟨n, k, e1, e2, q⟩ => ⟨n, k, e1, e2, h _ _ q⟩) q
  | .isiT a ts, _, _, _, _, h, q => by
    simp only [wE] at q ⊢
    exact wE_mono G X a (fun v S1 ⟨n, e1, e2, q⟩ => ⟨n, e1, e2, h _ _ q⟩) q
  | .lc own t it ifs e, _, _, _, _, h, q => by
    simp only [wE] at q ⊢
    refine wI_mono G X it (fun xs keep S1 q => compW_mono (fun x S2 R R' hR q => ?_) h xs [] S1 q) q
    refine wTg_mono G _ t (fun ρ' S3 q => wBs_mono G _ ifs (fun k S4 q => ?_) q) q
    cases k with
    | true => simp only [if_true] at q ⊢; exact wE_mono G _ e (fun v S5 q => hR _ _ q) q
    | false => simp only [Bool.false_eq_true, if_false] at q ⊢; exact hR _ _ q
  | .dK0, _, _, _, _, h, q => by simp only [wE] at q ⊢; exact fun p hp => h _ _ (q p hp)
  | .dT0, _, _, _, _, h, q => by simp only [wE] at q ⊢; exact fun p hp => h _ _ (q p hp)
  | .dT1 k v, _, _, _, _, h, q => by
    simp only [wE] at q ⊢
    exact fun p hp => wE_mono G X k (fun w S1 q => wE_mono G X v (fun u S2 ⟨ks, e1, e2, q⟩ => ⟨ks, e1, e2, h _ _ q⟩) q) (q p hp)
  | .addL a b, _, _, _, _, h, q => by
    simp only [wE] at q ⊢
    exact wE_mono G X a (fun v S1 q => wE_mono G X b (fun w S2 q => lAdd_mono h v w S2 q) q) q
  | .revT a, _, _, _, _, h, q => by simp only [wE] at q ⊢; exact wE_mono G X a (fun v S1 ⟨xs, e, q⟩ => ⟨xs, e, h _ _ q⟩) q
  | .repr a, _, _, _, _, h, q => by
    simp only [wE, vRepr] at q ⊢
    exact ⟨q.1, wE_mono G X a (fun v S1 ⟨d, a, b, c, e, f, q⟩ => ⟨d, a, b, c, e, f, h _ _ q⟩) q.2⟩
  | .ktup es, _, _, _, _, h, q => by simp only [wE] at q ⊢; exact wEs_mono G X es (fun vs S1 ⟨a, q⟩ => ⟨a, h _ _ q⟩) q
  | .lrng1 a, _, _, _, _, h, q => by simp only [wE] at q ⊢; exact wE_mono G X a (fun v S1 ⟨n, a, b, c, q⟩ => ⟨n, a, b, c, fun p hp => h _ _ (q p hp)⟩) q
  | .lrng2 a b, _, _, _, _, h, q => by simp only [wE] at q ⊢; exact wE_mono G X a (fun v S1 q => wE_mono G X b (fun w S2 ⟨i, j, a, b, c, d, e, q⟩ => ⟨i, j, a, b, c, d, e, fun p hp => h _ _ (q p hp)⟩) q) q
  | .lrev a, _, _, _, _, h, q => by simp only [wE] at q ⊢; exact wE_mono G X a (fun v S1 ⟨a, xs, e, f, q⟩ => ⟨a, xs, e, f, fun p hp => h _ _ (q p hp)⟩) q
  | .trev a, _, _, _, _, h, q => by simp only [wE] at q ⊢; exact wE_mono G X a (fun v S1 ⟨a, xs, e, f, q⟩ => ⟨a, xs, e, f, h _ _ q⟩) q
  | .ssetL a, _, _, _, _, h, q => by simp only [wE] at q ⊢; exact wE_mono G X a (fun v S1 ⟨r, ns, a, b, c, q⟩ => ⟨r, ns, a, b, c, fun n1 h1 h2 p hp => h _ _ (q n1 h1 h2 p hp)⟩) q
  | .trevT a, _, _, _, _, h, q => by simp only [wE] at q ⊢; exact wE_mono G X a (fun v S1 ⟨xs, a, q⟩ => ⟨xs, a, h _ _ q⟩) q
  | .sset a, _, _, _, _, h, q => by simp only [wE] at q ⊢; exact wE_mono G X a (fun v S1 ⟨ns, a, b, q⟩ => ⟨ns, a, b, fun n1 h1 h2 p hp => h _ _ (q n1 h1 h2 p hp)⟩) q
  | .dix d k, _, _, _, _, h, q => by simp only [wE] at q ⊢; exact wE_mono G X d (fun v S1 q => wE_mono G X k (fun w S2 ⟨a, x, e1, e2, q⟩ => ⟨a, x, e1, e2, h _ _ q⟩) q) q
  | .dg1 d k, _, _, _, _, h, q => by simp only [wE] at q ⊢; exact wE_mono G X d (fun v S1 ⟨a, e1, e2, q⟩ => ⟨a, e1, e2, wE_mono G X k (fun w S2 ⟨o, e3, q⟩ => ⟨o, e3, h _ _ q⟩) q⟩) q
  | .dg2 d k x, _, _, _, _, h, q => by simp only [wE] at q ⊢; exact wE_mono G X d (fun v S1 ⟨a, e1, e2, q⟩ => ⟨a, e1, e2, wE_mono G X k (fun w S2 q => wE_mono G X x (fun u S3 ⟨o, e3, q⟩ => ⟨o, e3, h _ _ q⟩) q) q⟩) q
  | .dsd d k x, _, _, _, _, h, q => by simp only [wE] at q ⊢; exact wE_mono G X d (fun v S1 ⟨a, e1, e2, q⟩ => ⟨a, e1, e2, wE_mono G X k (fun w S2 q => wE_mono G X x (fun u S3 ⟨kvs, key, e3, e4, e5, q1, q2⟩ => ⟨kvs, key, e3, e4, e5, fun y hy => h _ _ (q1 y hy), fun hn => h _ _ (q2 hn)⟩) q) q⟩) q
  | .dpop d k, _, _, _, _, h, q => by simp only [wE] at q ⊢; exact wE_mono G X d (fun v S1 ⟨a, e1, e2, q⟩ => ⟨a, e1, e2, wE_mono G X k (fun w S2 ⟨kvs, key, x, e3, e4, e5, q⟩ => ⟨kvs, key, x, e3, e4, e5, h _ _ q⟩) q⟩) q
  | .din neg k d, _, _, _, _, h, q => by simp only [wE] at q ⊢; exact wE_mono G X k (fun v S1 q => wE_mono G X d (fun w S2 ⟨a, x, e1, e2, q⟩ => ⟨a, x, e1, e2, h _ _ q⟩) q) q
  | .lockE e, _, _, _, _, h, q => by
    simp only [wE] at q ⊢
    obtain ⟨a, ⟨kvs, hs, q⟩ | ⟨kvs, hs, q⟩⟩ := q
    · exact ⟨a, .inl ⟨kvs, hs, wE_mono G _ e (fun v S1 q => ⟨q.1, h _ _ q.2⟩) q⟩⟩
    · exact ⟨a, .inr ⟨kvs, hs, wE_mono G _ e (fun v S1 q => ⟨q.1, h _ _ q.2⟩) q⟩⟩
theorem wEs_mono (G : Gam) (X : XPost) : ∀ (es : List E) {ρ : Loc} {S : Sto} {Q Q' : List Val → Sto → Prop}, (∀ v S', Q v S' → Q' v S') → wEs G X es ρ S Q → wEs G X es ρ S Q'
  | [], _, _, _, _, h, q => by simp only [wEs] at q ⊢; exact h _ _ q
  | e :: es, _, _, _, _, h, q => by simp only [wEs] at q ⊢; exact wE_mono G X e (fun v S1 q => wEs_mono G X es (fun vs S2 q => h _ _ q) q) q
theorem wAndV_mono (G : Gam) (X : XPost) : ∀ (es : List E) {ρ : Loc} {S : Sto} {Q Q' : Post}, (∀ v S', Q v S' → Q' v S') → wAndV G X es ρ S Q → wAndV G X es ρ S Q'
  | [], _, _, _, _, h, q => by simp only [wAndV] at q
  | e :: es, _, _, _, _, h, q => by
    simp only [wAndV] at q ⊢
    refine wE_mono G X e (fun v S1 q => ?_) q
    split at q
    · rename_i c; rw [if_pos c]; exact h _ _ q
    · rename_i c; rw [if_neg c]
      obtain ⟨b, e, q⟩ := q
      refine ⟨b, e, ?_⟩
      cases b with
      | true => simp only [if_true] at q ⊢; exact wAndV_mono G X es h q
      | false => simp only [Bool.false_eq_true, if_false] at q ⊢; exact h _ _ q
theorem wOrV_mono (G : Gam) (X : XPost) : ∀ (es : List E) {ρ : Loc} {S : Sto} {Q Q' : Post}, (∀ v S', Q v S' → Q' v S') → wOrV G X es ρ S Q → wOrV G X es ρ S Q'
  | [], _, _, _, _, h, q => by simp only [wOrV] at q
  | e :: es, _, _, _, _, h, q => by
    simp only [wOrV] at q ⊢
    refine wE_mono G X e (fun v S1 q => ?_) q
    split at q
    · rename_i c; rw [if_pos c]; exact h _ _ q
    · rename_i c; rw [if_neg c]
      obtain ⟨b, e, q⟩ := q
      refine ⟨b, e, ?_⟩
      cases b with
      | false => simp only [Bool.false_eq_true, if_false] at q ⊢; exact wOrV_mono G X es h q
      | true => simp only [if_true] at q ⊢; exact h _ _ q
theorem wB_mono (G : Gam) (X : XPost) : ∀ (b : B) {ρ : Loc} {S : Sto} {Q Q' : Bool → Sto → Prop}, (∀ v S', Q v S' → Q' v S') → wB G X b ρ S Q → wB G X b ρ S Q'
  | .val e, _, _, _, _, h, q => by simp only [wB] at q ⊢; exact wE_mono G X e (fun v S1 q => wTru_mono h v S1 q) q
  | .cmp op a b, _, _, _, _, h, q => by
    simp only [wB] at q ⊢
    exact wE_mono G X a (fun v S1 q => wE_mono G X b (fun w S2 q => wCmp_mono (fun r S3 ⟨k, e, q⟩ => ⟨k, e, h _ _ q⟩) op v w S2 q) q) q
  | .chain op op' a b c, _, _, _, _, h, q => by
    simp only [wB] at q ⊢
    refine wE_mono G X a (fun v S1 q => wE_mono G X b (fun w S2 q => wCmp_mono (fun r S3 ⟨k, e, q⟩ => ⟨k, e, ?_⟩) op v w S2 q) q) q
    cases k with
    | true => simp only [if_true] at q ⊢; exact wE_mono G X c (fun u S4 q => wCmp_mono (fun r S5 ⟨k, e, q⟩ => ⟨k, e, h _ _ q⟩) op' w u S4 q) q
    | false => simp only [Bool.false_eq_true, if_false] at q ⊢; exact h _ _ q
  | .chain3 op op' op'' a b c d, _, _, _, _, h, q => by
    simp only [wB] at q ⊢
    refine wE_mono G X a (fun v S1 q => wE_mono G X b (fun w S2 q => wCmp_mono (fun r S3 ⟨k, e, q⟩ => ⟨k, e, ?_⟩) op v w S2 q) q) q
    cases k with
    | true =>
      simp only [if_true] at q ⊢
      refine wE_mono G X c (fun u S4 q => wCmp_mono (fun r S5 ⟨k2, e2, q⟩ => ⟨k2, e2, ?_⟩) op' w u S4 q) q
      cases k2 with
      | true => simp only [if_true] at q ⊢; exact wE_mono G X d (fun u2 S6 q => wCmp_mono (fun r S7 ⟨k3, e3, q⟩ => ⟨k3, e3, h _ _ q⟩) op'' u u2 S6 q) q
      | false => simp only [Bool.false_eq_true, if_false] at q ⊢; exact h _ _ q
    | false => simp only [Bool.false_eq_true, if_false] at q ⊢; exact h _ _ q
  | .not b, _, _, _, _, h, q => by simp only [wB] at q ⊢; exact wB_mono G X b (fun k S1 q => h _ _ q) q
  | .and bs, _, _, _, _, h, q => by simp only [wB] at q ⊢; exact wAnd_mono G X bs h q
  | .or bs, _, _, _, _, h, q => by simp only [wB] at q ⊢; exact wOr_mono G X bs h q
  | .din neg k d, _, _, _, _, h, q => by simp only [wB] at q ⊢; exact wE_mono G X k (fun v S1 q => wE_mono G X d (fun w S2 ⟨a, x, e1, e2, q⟩ => ⟨a, x, e1, e2, h _ _ q⟩) q) q
theorem wAnd_mono (G : Gam) (X : XPost) : ∀ (bs : List B) {ρ : Loc} {S : Sto} {Q Q' : Bool → Sto → Prop}, (∀ v S', Q v S' → Q' v S') → wAnd G X bs ρ S Q → wAnd G X bs ρ S Q'
  | [], _, _, _, _, h, q => by simp only [wAnd] at q ⊢; exact h _ _ q
  | b :: bs, _, _, _, _, h, q => by
    simp only [wAnd] at q ⊢
    refine wB_mono G X b (fun k S1 q => ?_) q
    cases k with
    | true => simp only [if_true] at q ⊢; exact wAnd_mono G X bs h q
    | false => simp only [Bool.false_eq_true, if_false] at q ⊢; exact h _ _ q
theorem wOr_mono (G : Gam) (X : XPost) : ∀ (bs : List B) {ρ : Loc} {S : Sto} {Q Q' : Bool → Sto → Prop}, (∀ v S', Q v S' → Q' v S') → wOr G X bs ρ S Q → wOr G X bs ρ S Q'
  | [], _, _, _, _, h, q => by simp only [wOr] at q ⊢; exact h _ _ q
  | b :: bs, _, _, _, _, h, q => by
    simp only [wOr] at q ⊢
    refine wB_mono G X b (fun k S1 q => ?_) q
    cases k with
    | false => simp only [Bool.false_eq_true, if_false] at q ⊢; exact wOr_mono G X bs h q
    | true => simp only [if_true] at q ⊢; exact h _ _ q
theorem wBs_mono (G : Gam) (X : XPost) : ∀ (bs : List B) {ρ : Loc} {S : Sto} {Q Q' : Bool → Sto → Prop}, (∀ v S', Q v S' → Q' v S') → wBs G X bs ρ S Q → wBs G X bs ρ S Q'
  | [], _, _, _, _, h, q => by simp only [wBs] at q ⊢; exact h _ _ q
  | b :: bs, _, _, _, _, h, q => by
    simp only [wBs] at q ⊢
    refine wB_mono G X b (fun k S1 q => ?_) q
    cases k with
    | true => simp only [if_true] at q ⊢; exact wBs_mono G X bs h q
    | false => simp only [Bool.false_eq_true, if_false] at q ⊢; exact h _ _ q
theorem wP_mono (G : Gam) (X : XPost) : ∀ (p : P) {ρ : Loc} {S : Sto} {Q Q' : Option Int → Sto → Prop}, (∀ v S', Q v S' → Q' v S') → wP G X p ρ S Q → wP G X p ρ S Q'
  | .no, _, _, _, _, h, q => by simp only [wP] at q ⊢; exact h _ _ q
  | .at e, _, _, _, _, h, q => by simp only [wP] at q ⊢; exact wE_mono G X e (fun v S1 ⟨i, e, q⟩ => ⟨i, e, h _ _ q⟩) q
theorem wTg_mono (G : Gam) (X : XPost) : ∀ (t : T) {v : Val} {ρ : Loc} {S : Sto} {Q Q' : Loc → Sto → Prop}, (∀ v S', Q v S' → Q' v S') → wTg G X t v ρ S Q → wTg G X t v ρ S Q'
  | .nm i, _, _, _, _, _, h, q => by simp only [wTg] at q ⊢; exact h _ _ q
  | .tup ts, _, _, _, _, _, h, q => by simp only [wTg] at q ⊢; exact let ⟨xs, a, b, q⟩ := q; ⟨xs, a, b, wTgs_mono G X ts h q⟩
  | .ix a i, _, _, _, _, _, h, q => by
    simp only [wTg] at q ⊢
    exact wE_mono G X a (fun o S1 q => wE_mono G X i (fun k S2 ⟨p, xs, j, n, a, b, c, d, q⟩ => ⟨p, xs, j, n, a, b, c, d, h _ _ q⟩) q) q
  | .fld a f, _, _, _, _, _, h, q => by
    simp only [wTg] at q ⊢
    exact wE_mono G X a (fun o S1 ⟨p, C, fs, a, b, c, d, q⟩ => ⟨p, C, fs, a, b, c, d, h _ _ q⟩) q
  | .dix a i, _, _, _, _, _, h, q => by
    simp only [wTg] at q ⊢
    exact wE_mono G X a (fun o S1 q => wE_mono G X i (fun k S2 ⟨p, e, q⟩ => ⟨p, e, DP_mono (fun S3 q => h _ _ q) q⟩) q) q
theorem wTgs_mono (G : Gam) (X : XPost) : ∀ (ts : List T) {vs : List Val} {ρ : Loc} {S : Sto} {Q Q' : Loc → Sto → Prop}, (∀ v S', Q v S' → Q' v S') → wTgs G X ts vs ρ S Q → wTgs G X ts vs ρ S Q'
  | [], _, _, _, _, _, h, q => by simp only [wTgs] at q ⊢; exact ⟨q.1, h _ _ q.2⟩
  | t :: ts, _, _, _, _, _, h, q => by simp only [wTgs] at q ⊢; exact let ⟨v, r, a, q⟩ := q; ⟨v, r, a, wTg_mono G X t (fun ρ' S' q => wTgs_mono G X ts h q) q⟩
theorem wI_mono (G : Gam) (X : XPost) : ∀ (it : I) {ρ : Loc} {S : Sto} {R R' : List Val → (Sto → Prop) → Sto → Prop}, (∀ xs k S', R xs k S' → R' xs k S') → wI G X it ρ S R → wI G X it ρ S R'
  | .val e, _, _, _, _, h, q => by
    simp only [wI] at q ⊢
    refine wE_mono G X e (fun v S1 q => ?_) q
    split at q
    · exact h _ _ _ q
    · exact let ⟨xs, a, q⟩ := q; ⟨xs, a, h _ _ _ q⟩
    · exact h _ _ _ q
    · exact q
  | .rng1 a, _, _, _, _, h, q => by simp only [wI] at q ⊢; exact wE_mono G X a (fun v S1 ⟨j, a, b, q⟩ => ⟨j, a, b, h _ _ _ q⟩) q
  | .rng2 a b, _, _, _, _, h, q => by simp only [wI] at q ⊢; exact wE_mono G X a (fun v S1 q => wE_mono G X b (fun v S1 ⟨i, j, a, b, c, d, q⟩ => ⟨i, j, a, b, c, d, h _ _ _ q⟩) q) q
  | .rng3 .., _, _, _, _, h, q => by simp only [wI] at q
  | .zip a b, _, _, _, _, h, q => by
    simp only [wI] at q ⊢
    refine wE_mono G X a (fun v S1 q => wE_mono G X b (fun w S2 q => ?_) q) q
    split at q
    · exact h _ _ _ q
    · obtain ⟨xs, ys, l1, l2, q⟩ := q; exact ⟨xs, ys, l1, l2, h _ _ _ q⟩
    · exact q
  | .zip3 a b c, _, _, _, _, h, q => by
    simp only [wI] at q ⊢
    exact wE_mono G X a (fun v S1 q => wE_mono G X b (fun w S2 q => wE_mono G X c (fun u S3 ⟨xs, ys, zs, e1, e2, e3, l1, l2, q⟩ => ⟨xs, ys, zs, e1, e2, e3, l1, l2, h _ _ _ q⟩) q) q) q
  | .rvs a, _, _, _, _, h, q => by
    simp only [wI] at q ⊢
    refine wE_mono G X a (fun v S1 q => ?_) q
    split at q
    · exact h _ _ _ q
    · obtain ⟨xs, l1, q⟩ := q; exact ⟨xs, l1, h _ _ _ q⟩
    · exact q
  | .rvs1 a, _, _, _, _, h, q => by simp only [wI] at q ⊢; exact wE_mono G X a (fun v S1 ⟨j, a, b, q⟩ => ⟨j, a, b, h _ _ _ q⟩) q
  | .rvs2 .., _, _, _, _, h, q => by simp only [wI] at q
  | .enum .., _, _, _, _, h, q => by simp only [wI] at q
  | .keys e, _, _, _, _, h, q => by
    simp only [wI] at q ⊢
    refine wE_mono G X e (fun v S1 ⟨a, e1, q⟩ => ⟨a, e1, ?_⟩) q
    rcases q with ⟨kvs, hs, q⟩ | ⟨kvs, hs, q⟩
    · exact .inl ⟨kvs, hs, h _ _ _ q⟩
    · exact .inr ⟨kvs, hs, h _ _ _ q⟩
  | .keysM e, _, _, _, _, h, q => by
    simp only [wI] at q ⊢
    exact wE_mono G X e (fun v S1 ⟨a, kvs, e1, e2, q⟩ => ⟨a, kvs, e1, e2, h _ _ _ q⟩) q
end
end M

namespace M
open PySem PySem.Spec PyProof.Rows L2
/-- a tuple without a dict of its own -/
def SqN (K : PySem.W.Frag) (H : Hp) (p : Addr) (xs : List V) : Prop :=
  (∃ o : Obj, H p = some (.frz o (.tup xs)) ∧ o.dict = none) ∨ ∃ (o : Obj) (its : Array Value) (n : Nat), K.lookup p = some o ∧ o.cls = .type "tuple" ∧ o.data = .seq its n ∧ its.size ≤ sizeLine ∧ Vals xs its.toList ∧ o.dict = none
theorem SqN.sq {K : PySem.W.Frag} {H : Hp} {p : Addr} {xs : List V} (h : SqN K H p xs) : SqT K H p xs := by
  rcases h with ⟨o, h, _⟩ | ⟨o, its, n, a, b, c, d, e, _⟩
  · exact .inl (.inr ⟨o, h⟩)
  · exact .inr ⟨o, its, n, a, b, c, d, e⟩
mutual
def RepV (K : PySem.W.Frag) (H : Hp) : Val → V → Prop
  | .non, x => x = .non
  | .bl b, x => x = .bl b
  | .int i, x => x = .int i
  | .str s, x => x = .str s
  | .ref a, x => x = .ref a
  | .tup vs, x => ∃ p xs, x = .ref p ∧ SqN K H p xs ∧ RepVs K H vs xs
  | .ptup vs, x => ∃ p xs, x = .ref p ∧ H p = some (.tup xs) ∧ RepVs K H vs xs
def RepVs (K : PySem.W.Frag) (H : Hp) : List Val → List V → Prop
  | [], xs => xs = []
  | v :: vs, xs => ∃ y ys, xs = y :: ys ∧ RepV K H v y ∧ RepVs K H vs ys
end
def RepK {κ : Type} (K : PySem.W.Frag) (H : Hp) (kvs : List (κ × Val)) (us : List (κ × V)) : Prop := Paired (fun (p : κ × Val) (q : κ × V) => p.1 = q.1 ∧ RepV K H p.2 q.2) kvs us
/-- a caught error of the class cls, kept as a value -/
def ErO (cls : Value) (d : Option Addr) (a : Addr) : HO := .ext fun h => ∃ (ob : Obj) (us : Array Value), h.get? a = some ob ∧ Zc cls d ob ∧ ob.data = .fields us
def RepA (K : PySem.W.Frag) (H : Hp) (a : Addr) : MO → Prop
  | .lst vs => ∃ xs, H a = some (.lst xs) ∧ RepVs K H vs xs
  | .ro vs => ∃ xs, Rd H a (.lst xs) ∧ RepVs K H vs xs
  | .dK kvs => ∃ us, H a = some (.dK us) ∧ RepK K H kvs us
  | .dT kvs => ∃ us, H a = some (.dT us) ∧ RepK K H kvs us
  | .ins C fs => ∃ dx us, H a = some (.ins (He.ga K C) dx us) ∧ RepK K H fs us
  | .fK kvs => ∃ o us, H a = some (.frz o (.dK us)) ∧ RepK K H kvs us
  | .fT kvs => ∃ o us, H a = some (.frz o (.dT us)) ∧ RepK K H kvs us
  | .exo c => H a = some (ErO (.ref (He.ga K c)) none a)
def Cor (K : PySem.W.Frag) (S : Sto) (H : Hp) : Prop := ∀ a o, S a = some o → RepA K H a o
def CorL (K : PySem.W.Frag) (H : Hp) (ρ : Loc) (σ : L2.St) : Prop := σ.length = ρ.length ∧ ∀ (i : Nat) (v : Val), ρ[i]? = some (some v) → ∃ x, σ[i]? = some (some x) ∧ RepV K H v x
/-- how a store and its heap may go on -/
structure Evo (S : Sto) (H : Hp) (S' : Sto) (H' : Hp) : Prop where
  tup : ∀ p xs, H p = some (.tup xs) → H' p = some (.tup xs)
  frz : ∀ p o u, H p = some (.frz o u) → H' p = some (.frz o u)
  frame : ∀ a o, H a = some o → S a = none → H' a = some o ∧ S' a = none
theorem Evo.refl {S : Sto} {H : Hp} : Evo S H S H := ⟨fun _ _ h => h, fun _ _ _ h => h, fun _ _ h n => ⟨h, n⟩⟩
theorem Evo.trans {S S1 S2 : Sto} {H H1 H2 : Hp} (a : Evo S H S1 H1) (b : Evo S1 H1 S2 H2) : Evo S H S2 H2 :=
  ⟨fun p xs h => b.tup p xs (a.tup p xs h), fun p o u h => b.frz p o u (a.frz p o u h), fun c o h n => let ⟨h1, n1⟩ := a.frame c o h n; b.frame c o h1 n1⟩
section
variable {K : PySem.W.Frag} {S S' : Sto} {H H' : Hp}
theorem SqN.evo {a : Addr} {xs : List V} (hf : ∀ p o u, H p = some (.frz o u) → H' p = some (.frz o u)) (h : SqN K H a xs) : SqN K H' a xs := by
  rcases h with ⟨o, h, d⟩ | h
  · exact .inl ⟨o, hf _ _ _ h, d⟩
  · exact .inr h
theorem SqT.evo {a : Addr} {xs : List V} (ht : ∀ p xs, H p = some (.tup xs) → H' p = some (.tup xs)) (hf : ∀ p o u, H p = some (.frz o u) → H' p = some (.frz o u)) (h : SqT K H a xs) : SqT K H' a xs := by
  rcases h with (h | ⟨o, h⟩) | h
  · exact .inl (.inl (ht _ _ h))
  · exact .inl (.inr ⟨o, hf _ _ _ h⟩)
  · exact .inr h
mutual
theorem RepV.evo' (ht : ∀ p xs, H p = some (.tup xs) → H' p = some (.tup xs)) (hf : ∀ p o u, H p = some (.frz o u) → H' p = some (.frz o u)) : ∀ (v : Val) {x : V}, RepV K H v x → RepV K H' v x
  | .non, _, h => by simp only [RepV] at h ⊢; exact h
  | .bl b, _, h => by simp only [RepV] at h ⊢; exact h
  | .int i, _, h => by simp only [RepV] at h ⊢; exact h
  | .str s, _, h => by simp only [RepV] at h ⊢; exact h
  | .ref a, _, h => by simp only [RepV] at h ⊢; exact h
  | .tup vs, _, h => by
    simp only [RepV] at h ⊢
    obtain ⟨p, xs, e, q, r⟩ := h
    exact ⟨p, xs, e, SqN.evo hf q, RepVs.evo' ht hf vs r⟩
  | .ptup vs, _, h => by
    simp only [RepV] at h ⊢
    obtain ⟨p, xs, e, q, r⟩ := h
    exact ⟨p, xs, e, ht _ _ q, RepVs.evo' ht hf vs r⟩
theorem RepVs.evo' (ht : ∀ p xs, H p = some (.tup xs) → H' p = some (.tup xs)) (hf : ∀ p o u, H p = some (.frz o u) → H' p = some (.frz o u)) : ∀ (vs : List Val) {xs : List V}, RepVs K H vs xs → RepVs K H' vs xs
  | [], _, h => by simp only [RepVs] at h ⊢; exact h
  | v :: vs, _, h => by
    simp only [RepVs] at h ⊢
    obtain ⟨y, ys, e, a, b⟩ := h
    exact ⟨y, ys, e, RepV.evo' ht hf v a, RepVs.evo' ht hf vs b⟩
end
theorem RepV.evo {v : Val} {x : V} (h : RepV K H v x) (e : Evo S H S' H') : RepV K H' v x := RepV.evo' e.tup e.frz v h
theorem RepVs.evo {v : List Val} {x : List V} (h : RepVs K H v x) (e : Evo S H S' H') : RepVs K H' v x := RepVs.evo' e.tup e.frz v h
theorem RepK.evo' {κ : Type} {kvs : List (κ × Val)} {us : List (κ × V)} (h : RepK K H kvs us) (ht : ∀ p xs, H p = some (.tup xs) → H' p = some (.tup xs)) (hf : ∀ p o u, H p = some (.frz o u) → H' p = some (.frz o u)) : RepK K H' kvs us :=
  Paired.mapP h fun _ _ q => ⟨q.1, RepV.evo' ht hf _ q.2⟩
theorem CorL.evo {ρ : Loc} {σ : L2.St} (h : CorL K H ρ σ) (e : Evo S H S' H') : CorL K H' ρ σ := ⟨h.1, fun i v q => let ⟨x, a, b⟩ := h.2 i v q; ⟨x, a, b.evo e⟩⟩
theorem RepVs.length : ∀ {vs : List Val} {xs : List V}, RepVs K H vs xs → xs.length = vs.length
  | [], _, h => by simp only [RepVs] at h; subst h; rfl
  | v :: vs, _, h => by
    simp only [RepVs] at h
    obtain ⟨y, ys, e, a, b⟩ := h
    subst e
    simp only [List.length_cons, RepVs.length b]
theorem RepVs.get : ∀ {vs : List Val} {xs : List V} {i : Nat} {v : Val}, RepVs K H vs xs → vs[i]? = some v → ∃ x, xs[i]? = some x ∧ RepV K H v x
  | [], _, _, _, _, h => by simp at h
  | v :: vs, _, i, w, h, e => by
    simp only [RepVs] at h
    obtain ⟨y, ys, e1, a, b⟩ := h
    subst e1
    cases i with
    | zero => simp only [List.getElem?_cons_zero, Option.some.injEq] at e ⊢; subst e; exact ⟨y, rfl, a⟩
    | succ i => simp only [List.getElem?_cons_succ] at e ⊢; exact RepVs.get b e
theorem RepVs.getR : ∀ {vs : List Val} {xs : List V} {i : Nat} {x : V}, RepVs K H vs xs → xs[i]? = some x → ∃ v, vs[i]? = some v ∧ RepV K H v x
  | [], _, _, _, h, e => by simp only [RepVs] at h; subst h; simp at e
  | v :: vs, _, i, w, h, e => by
    simp only [RepVs] at h
    obtain ⟨y, ys, e1, a, b⟩ := h
    subst e1
    cases i with
    | zero => simp only [List.getElem?_cons_zero, Option.some.injEq] at e ⊢; subst e; exact ⟨v, rfl, a⟩
    | succ i => simp only [List.getElem?_cons_succ] at e ⊢; exact RepVs.getR b e
theorem RepVs.cons {v : Val} {x : V} {vs : List Val} {xs : List V} (a : RepV K H v x) (b : RepVs K H vs xs) : RepVs K H (v :: vs) (x :: xs) := by
  simp only [RepVs]; exact ⟨x, xs, rfl, a, b⟩
theorem RepVs.nil : RepVs K H [] [] := by simp only [RepVs]
theorem RepVs.append : ∀ {vs ws : List Val} {xs ys : List V}, RepVs K H vs xs → RepVs K H ws ys → RepVs K H (vs ++ ws) (xs ++ ys)
  | [], _, _, _, a, b => by simp only [RepVs] at a; subst a; exact b
  | v :: vs, _, _, _, a, b => by
    simp only [RepVs] at a
    obtain ⟨y, ys, e, p, q⟩ := a
    subst e
    exact RepVs.cons p (RepVs.append q b)
theorem RepVs.take : ∀ {vs : List Val} {xs : List V} (n : Nat), RepVs K H vs xs → RepVs K H (vs.take n) (xs.take n)
  | _, _, 0, _ => by simp only [List.take_zero]; exact RepVs.nil
  | [], _, n + 1, a => by simp only [RepVs] at a; subst a; simp only [List.take_nil]; exact RepVs.nil
  | v :: vs, _, n + 1, a => by
    simp only [RepVs] at a
    obtain ⟨y, ys, e, p, q⟩ := a
    subst e
    exact RepVs.cons p (RepVs.take n q)
theorem RepVs.drop : ∀ {vs : List Val} {xs : List V} (n : Nat), RepVs K H vs xs → RepVs K H (vs.drop n) (xs.drop n)
  | _, _, 0, a => a
  | [], _, n + 1, a => by simp only [RepVs] at a; subst a; simp only [List.drop_nil]; exact RepVs.nil
  | v :: vs, _, n + 1, a => by
    simp only [RepVs] at a
    obtain ⟨y, ys, e, p, q⟩ := a
    subst e
    exact RepVs.drop n q
theorem RepVs.set : ∀ {vs : List Val} {xs : List V} {v : Val} {x : V} (n : Nat), RepVs K H vs xs → RepV K H v x → RepVs K H (vs.set n v) (xs.set n x)
  | [], _, _, _, n, a, _ => by simp only [RepVs] at a; subst a; exact RepVs.nil
  | v :: vs, _, w, z, 0, a, b => by
    simp only [RepVs] at a
    obtain ⟨y, ys, e, p, q⟩ := a
    subst e
    exact RepVs.cons b q
  | v :: vs, _, w, z, n + 1, a, b => by
    simp only [RepVs] at a
    obtain ⟨y, ys, e, p, q⟩ := a
    subst e
    exact RepVs.cons p (RepVs.set n q b)
theorem RepVs.reverse : ∀ {vs : List Val} {xs : List V}, RepVs K H vs xs → RepVs K H vs.reverse xs.reverse
  | [], _, a => by simp only [RepVs] at a; subst a; exact RepVs.nil
  | v :: vs, _, a => by
    simp only [RepVs] at a
    obtain ⟨y, ys, e, p, q⟩ := a
    subst e
    rw [List.reverse_cons, List.reverse_cons]
    exact RepVs.append (RepVs.reverse q) (RepVs.cons p RepVs.nil)
theorem RepVs.dropLast {vs : List Val} {xs : List V} (h : RepVs K H vs xs) : RepVs K H vs.dropLast xs.dropLast := by
  rw [List.dropLast_eq_take, List.dropLast_eq_take, h.length]; exact h.take _
theorem RepVs.rep {vs : List Val} {xs : List V} (h : RepVs K H vs xs) : ∀ n : Nat, RepVs K H (List.replicate n vs).flatten (List.replicate n xs).flatten
  | 0 => RepVs.nil
  | n + 1 => by rw [List.replicate_succ, List.replicate_succ, List.flatten_cons, List.flatten_cons]; exact RepVs.append h (RepVs.rep h n)
theorem RepVs.erase : ∀ {vs : List Val} {xs : List V} (n : Nat), RepVs K H vs xs → RepVs K H (vs.eraseIdx n) (xs.eraseIdx n)
  | [], _, n, a => by simp only [RepVs] at a; subst a; exact RepVs.nil
  | v :: vs, _, 0, a => by
    simp only [RepVs] at a
    obtain ⟨y, ys, e, p, q⟩ := a
    subst e
    exact q
  | v :: vs, _, n + 1, a => by
    simp only [RepVs] at a
    obtain ⟨y, ys, e, p, q⟩ := a
    subst e
    exact RepVs.cons p (RepVs.erase n q)
theorem RepVs.atI {vs : List Val} {xs : List V} {i : Int} {v : Val} (h : RepVs K H vs xs) (e : L2.atI vs i = some v) : ∃ x, L2.atI xs i = some x ∧ RepV K H v x := by
  unfold L2.atI at e ⊢
  rw [h.length]
  cases q : ixN vs.length i with
  | none => rw [q] at e; cases e
  | some j => rw [q] at e; exact h.get e
theorem RepVs.cut {vs : List Val} {xs : List V} (h : RepVs K H vs xs) (lo hi : Option Int) : RepVs K H (M.cut vs lo hi) (cutV xs lo hi) := by
  unfold M.cut cutV; rw [h.length]; exact (h.drop _).take _
theorem Cor.free {a : Addr} (c : Cor K S H) (h : H a = none) : S a = none := by
  cases q : S a with
  | none => rfl
  | some o =>
    have r := c a o q
    cases o <;> simp only [RepA] at r
    · obtain ⟨xs, e, _⟩ := r; rw [h] at e; cases e
    · obtain ⟨xs, e | ⟨_, e⟩, _⟩ := r <;> (rw [h] at e; cases e)
    · obtain ⟨xs, e, _⟩ := r; rw [h] at e; cases e
    · obtain ⟨xs, e, _⟩ := r; rw [h] at e; cases e
    · obtain ⟨_, xs, e, _⟩ := r; rw [h] at e; cases e
    · obtain ⟨_, xs, e, _⟩ := r; rw [h] at e; cases e
    · obtain ⟨_, xs, e, _⟩ := r; rw [h] at e; cases e
    · rw [h] at r; cases r
theorem RepA.ext {a : Addr} {o : MO} (h : RepA K H a o) (he : ∀ u, H a = some u → H' a = some u) (ht : ∀ p xs, H p = some (.tup xs) → H' p = some (.tup xs)) (hf : ∀ p o u, H p = some (.frz o u) → H' p = some (.frz o u)) : RepA K H' a o := by
  cases o <;> simp only [RepA] at h ⊢
  · obtain ⟨xs, e, r⟩ := h; exact ⟨xs, he _ e, RepVs.evo' ht hf _ r⟩
  · obtain ⟨xs, e, r⟩ := h
    refine ⟨xs, ?_, RepVs.evo' ht hf _ r⟩
    rcases e with e | ⟨o, e⟩
    · exact .inl (he _ e)
    · exact .inr ⟨o, he _ e⟩
  · obtain ⟨xs, e, r⟩ := h; exact ⟨xs, he _ e, r.evo' ht hf⟩
  · obtain ⟨xs, e, r⟩ := h; exact ⟨xs, he _ e, r.evo' ht hf⟩
  · obtain ⟨dx, xs, e, r⟩ := h; exact ⟨dx, xs, he _ e, r.evo' ht hf⟩
  · obtain ⟨dx, xs, e, r⟩ := h; exact ⟨dx, xs, he _ e, r.evo' ht hf⟩
  · obtain ⟨dx, xs, e, r⟩ := h; exact ⟨dx, xs, he _ e, r.evo' ht hf⟩
  · exact he _ h
/-- keys as values -/
theorem rep_kval {k : Key} : RepV K H (kval k) (kV k) := by cases k <;> simp only [kval, RepV] <;> rfl
theorem rep_kvals : ∀ {ks : List Key}, RepVs K H (ks.map kval) (ks.map kV)
  | [] => RepVs.nil
  | k :: ks => RepVs.cons rep_kval rep_kvals
theorem kval_rep {k : Key} {x : V} (h : RepV K H (kval k) x) : x = kV k := by
  cases k <;> simp only [kval, RepV] at h <;> subst h <;> rfl
theorem kvals_rep : ∀ {ks : List Key} {xs : List V}, RepVs K H (ks.map kval) xs → xs = ks.map kV
  | [], _, h => by simpa only [List.map_nil, RepVs] using h
  | k :: ks, _, h => by
    simp only [List.map_cons, RepVs] at h
    obtain ⟨y, ys, rfl, a, b⟩ := h
    rw [kval_rep a, kvals_rep b]; rfl
/-- a new object of the heap alone (a tuple) -/
theorem Evo.more (he : ∀ b u, H b = some u → H' b = some u) : Evo S H S H' := ⟨fun p xs h => he _ _ h, fun p o u h => he _ _ h, fun a o h n => ⟨he _ _ h, n⟩⟩
theorem Cor.more (c : Cor K S H) (he : ∀ b u, H b = some u → H' b = some u) : Cor K S H' := fun a o q => (c a o q).ext (fun u h => he _ _ h) (fun p xs h => he _ _ h) fun p o u h => he _ _ h
theorem upd_keep {p : Addr} {o : HO} (hp : H p = none) : ∀ b u, H b = some u → upd H p o b = some u := fun b u h => by
  rw [upd_ne (ne_of_none h hp)]; exact h
theorem Evo.tupN {p : Addr} {xs : List V} (hp : H p = none) : Evo S H S (upd H p (.tup xs)) := Evo.more (upd_keep hp)
theorem Cor.tupN {p : Addr} {xs : List V} (c : Cor K S H) (hp : H p = none) : Cor K S (upd H p (.tup xs)) := c.more (upd_keep hp)
/-- a new object of both -/
theorem Evo.newO {p : Addr} {o : MO} {u : HO} (hp : H p = none) : Evo S H (S.upd p o) (upd H p u) :=
  ⟨fun q xs h => upd_keep hp _ _ h, fun q a b h => upd_keep hp _ _ h, fun a b h n => ⟨upd_keep hp _ _ h, by rw [Sto.upd_ne (ne_of_none h hp)]; exact n⟩⟩
theorem Cor.newO {p : Addr} {o : MO} {u : HO} (c : Cor K S H) (hp : H p = none) (r : RepA K (upd H p u) p o) : Cor K (S.upd p o) (upd H p u) := fun a b q => by
  by_cases e : a = p
  · subst e; rw [Sto.upd_same] at q; cases q; exact r
  · rw [Sto.upd_ne e] at q
    exact c.more (upd_keep hp) a b q
theorem Cor.newL {p : Addr} {vs : List Val} {xs : List V} (c : Cor K S H) (hp : H p = none) (r : RepVs K H vs xs) : Cor K (S.upd p (.lst vs)) (upd H p (.lst xs)) :=
  c.newO hp (by simp only [RepA]; exact ⟨xs, upd_same, RepVs.evo' (fun _ _ h => upd_keep hp _ _ h) (fun _ _ _ h => upd_keep hp _ _ h) _ r⟩)
/-- an object changed in both: it is no tuple, nothing locked -/
def Chg : HO → Prop
  | .tup _ => False
  | .frz _ _ => False
  | _ => True
theorem chg_tup {p : Addr} {u u' : HO} (hp : H p = some u) (hc : Chg u) : ∀ q xs, H q = some (.tup xs) → upd H p u' q = some (.tup xs) := fun q xs h => by
  have : q ≠ p := fun e => by subst e; rw [hp] at h; cases h; exact hc
  rw [upd_ne this]; exact h
theorem chg_frz {p : Addr} {u u' : HO} (hp : H p = some u) (hc : Chg u) : ∀ q o w, H q = some (.frz o w) → upd H p u' q = some (.frz o w) := fun q o w h => by
  have : q ≠ p := fun e => by subst e; rw [hp] at h; cases h; exact hc
  rw [upd_ne this]; exact h
theorem Evo.chg {p : Addr} {o o' : MO} {u u' : HO} (hs : S p = some o) (hp : H p = some u) (hc : Chg u) : Evo S H (S.upd p o') (upd H p u') :=
  ⟨chg_tup hp hc, chg_frz hp hc, fun a b h n => by
    have : a ≠ p := fun e => by subst e; rw [hs] at n; cases n
    rw [upd_ne this, Sto.upd_ne this]; exact ⟨h, n⟩⟩
theorem Cor.chg {p : Addr} {o o' : MO} {u u' : HO} (c : Cor K S H) (hs : S p = some o) (hp : H p = some u) (hc : Chg u) (r : RepA K (upd H p u') p o') : Cor K (S.upd p o') (upd H p u') := fun a b q => by
  by_cases e : a = p
  · subst e; rw [Sto.upd_same] at q; cases q; exact r
  · rw [Sto.upd_ne e] at q
    exact (c a b q).ext (fun w h => by rw [upd_ne e]; exact h) (chg_tup hp hc) (chg_frz hp hc)
def RepO (K : PySem.W.Frag) (H : Hp) : Option Val → Option V → Prop
  | none, r => r = none
  | some v, r => ∃ x, r = some x ∧ RepV K H v x
section
variable {κ : Type} [DecidableEq κ]
theorem RepK.val {kvs : List (κ × Val)} {us : List (κ × V)} (h : RepK K H kvs us) (k : κ) : RepO K H (vlK kvs k) (valV us k) := by
  unfold RepK at h
  induction h with
  | nil => exact rfl
  | @cons p q ps qs hh t ih =>
    obtain ⟨h1, h2⟩ := hh
    by_cases e : p.1 = k
    · have e' : q.1 = k := h1.symm.trans e
      have b : vlK (p :: ps) k = some p.2 := by simp [vlK, List.find?_cons, e]
      rw [b, valV_pos e']
      exact ⟨_, rfl, h2⟩
    · have e' : ¬ q.1 = k := fun z => e (h1.trans z)
      have b : vlK (p :: ps) k = vlK ps k := by simp [vlK, List.find?_cons, e]
      rw [b, valV_neg e']
      exact ih
theorem RepK.anyK {kvs : List (κ × Val)} {us : List (κ × V)} (h : RepK K H kvs us) (k : κ) : (kvs.any fun kv => decide (kv.1 = k)) = us.any fun kv => decide (kv.1 = k) := by
  unfold RepK at h
  induction h with
  | nil => rfl
  | cons hh t ih => rw [List.any_cons, List.any_cons, ih, hh.1]
theorem RepK.snocK {kvs : List (κ × Val)} {us : List (κ × V)} {k : κ} {v : Val} {x : V} (h : RepK K H kvs us) (r : RepV K H v x) : RepK K H (kvs ++ [(k, v)]) (us ++ [(k, x)]) := by
  unfold RepK at h ⊢
  induction h with
  | nil => exact .cons ⟨rfl, r⟩ .nil
  | cons hh t ih => exact .cons hh ih
theorem RepK.mapK {kvs : List (κ × Val)} {us : List (κ × V)} {k : κ} {v : Val} {x : V} (h : RepK K H kvs us) (r : RepV K H v x) : RepK K H (kvs.map fun kv => if kv.1 = k then (kv.1, v) else kv) (us.map fun kv => if kv.1 = k then (kv.1, x) else kv) := by
  unfold RepK at h ⊢
  induction h with
  | nil => exact .nil
  | @cons p q ps qs hh t ih =>
    rw [List.map_cons, List.map_cons]
    refine .cons ?_ ih
    obtain ⟨h1, h2⟩ := hh
    by_cases e : p.1 = k
    · rw [if_pos e, if_pos (h1.symm.trans e)]; exact ⟨h1, r⟩
    · rw [if_neg e, if_neg (fun z => e (h1.trans z))]; exact ⟨h1, h2⟩
theorem RepK.putK' {kvs : List (κ × Val)} {us : List (κ × V)} {k : κ} {v : Val} {x : V} (h : RepK K H kvs us) (r : RepV K H v x) : RepK K H (ptK kvs k v) (putK us k x) := by
  unfold ptK putK
  rw [h.anyK k]
  split
  · exact h.mapK r
  · exact h.snocK r
theorem RepK.dropK' {kvs : List (κ × Val)} {us : List (κ × V)} {k : κ} (h : RepK K H kvs us) : RepK K H (drK kvs k) (dropK us k) := by
  unfold RepK at h ⊢
  unfold drK dropK
  induction h with
  | nil => exact .nil
  | @cons p q ps qs hh t ih =>
    obtain ⟨h1, h2⟩ := hh
    rw [List.filter_cons, List.filter_cons]
    by_cases e : p.1 = k
    · have a : ¬ decide (p.1 ≠ k) = true := by simp [e]
      have b : ¬ decide (q.1 ≠ k) = true := by simp [h1.symm.trans e]
      rw [if_neg a, if_neg b]; exact ih
    · have e' : ¬ q.1 = k := fun z => e (h1.trans z)
      have a : decide (p.1 ≠ k) = true := by simp [e]
      have b : decide (q.1 ≠ k) = true := by simp [e']
      rw [if_pos a, if_pos b]; exact .cons ⟨h1, h2⟩ ih
theorem RepK.length' {kvs : List (κ × Val)} {us : List (κ × V)} (h : RepK K H kvs us) : us.length = kvs.length := (Paired.length h).symm
end
theorem Cor.rdK {a : Addr} {kvs : List (Key × Val)} (c : Cor K S H) (h : rdK S a kvs) : ∃ us, Rd H a (.dK us) ∧ RepK K H kvs us := by
  rcases h with h | h
  · have := c a _ h
    simp only [RepA] at this
    obtain ⟨us, e, r⟩ := this
    exact ⟨us, .inl e, r⟩
  · have := c a _ h
    simp only [RepA] at this
    obtain ⟨o, us, e, r⟩ := this
    exact ⟨us, .inr ⟨o, e⟩, r⟩
theorem Cor.rdT {a : Addr} {kvs : List (List Key × Val)} (c : Cor K S H) (h : rdT S a kvs) : ∃ us, Rd H a (.dT us) ∧ RepK K H kvs us := by
  rcases h with h | h
  · have := c a _ h
    simp only [RepA] at this
    obtain ⟨us, e, r⟩ := this
    exact ⟨us, .inl e, r⟩
  · have := c a _ h
    simp only [RepA] at this
    obtain ⟨o, us, e, r⟩ := this
    exact ⟨us, .inr ⟨o, e⟩, r⟩
/-- what a dict holds, over heaps -/
theorem Cor.dget {a : Addr} {w : Val} {o : Option Val} {y : V} (c : Cor K S H) (h : DG S a w o) (rw' : RepV K H w y) : ∃ r, DGet H a y r ∧ RepO K H o r := by
  rcases h with ⟨kvs, k, hs, rfl, rfl⟩ | ⟨kvs, ks, hs, rfl, rfl⟩
  · obtain ⟨us, e, r⟩ := c.rdK hs
    have := kval_rep rw'; subst this
    exact ⟨_, .inl ⟨us, k, e, rfl, rfl⟩, r.val k⟩
  · obtain ⟨us, e, r⟩ := c.rdT hs
    simp only [RepV] at rw'
    obtain ⟨p, xs, rfl, hp, rk⟩ := rw'
    have := kvals_rep rk; subst this
    exact ⟨_, .inr ⟨us, ks, p, e, rfl, hp, rfl⟩, r.val ks⟩
theorem Cor.isD {a : Addr} (c : Cor K S H) (h : isD S a) : IsD H a := by
  rcases h with ⟨kvs, h⟩ | ⟨kvs, h⟩
  · obtain ⟨us, e, _⟩ := c.rdK h; exact .inl ⟨us, e⟩
  · obtain ⟨us, e, _⟩ := c.rdT h; exact .inr ⟨us, e⟩
theorem Cor.dput {a : Addr} {w v : Val} {y x : V} {Q : Sto → Prop} (c : Cor K S H) (h : DP S a w v Q) (ry : RepV K H w y) (rx : RepV K H v x) : ∃ H' S', DPut H a y x H' ∧ Evo S H S' H' ∧ Cor K S' H' ∧ Q S' := by
  rcases h with ⟨kvs, k, hs, rfl, hl, q⟩ | ⟨kvs, ks, hs, rfl, hl, q⟩
  · have := c a _ hs
    simp only [RepA] at this
    obtain ⟨us, e, r⟩ := this
    have := kval_rep ry; subst this
    refine ⟨_, _, .inl ⟨us, k, e, rfl, by rw [r.length']; exact hl, rfl⟩, .chg hs e trivial, c.chg hs e trivial ?_, q⟩
    simp only [RepA]
    exact ⟨_, upd_same, (r.putK' rx).evo' (chg_tup e trivial) (chg_frz e trivial)⟩
  · have := c a _ hs
    simp only [RepA] at this
    obtain ⟨us, e, r⟩ := this
    simp only [RepV] at ry
    obtain ⟨p, xs, rfl, hp, rk⟩ := ry
    have := kvals_rep rk; subst this
    refine ⟨_, _, .inr ⟨us, ks, p, e, rfl, hp, by rw [r.length']; exact hl, rfl⟩, .chg hs e trivial, c.chg hs e trivial ?_, q⟩
    simp only [RepA]
    exact ⟨_, upd_same, (r.putK' rx).evo' (chg_tup e trivial) (chg_frz e trivial)⟩
/-- an object locked in both -/
theorem Evo.lockO {a : Addr} {o o' : MO} {u : HO} {od : Obj} (hs : S a = some o) (hh : H a = some u) (hc : Chg u) : Evo S H (S.upd a o') (upd H a (.frz od u)) := .chg hs hh hc
/-- .. and unlocked again -/
theorem Evo.unlockO {a : Addr} {o o1 o2 : MO} {u : HO} {od : Obj} (hs : S a = some o) (hh : H a = some u) (hc : Chg u) (e : Evo (S.upd a o1) (upd H a (.frz od u)) S' H') : Evo S H (S'.upd a o2) (upd H' a u) := by
  refine ⟨fun p xs h => ?_, fun p q v h => ?_, fun p v h n => ?_⟩
  · have ne : p ≠ a := fun z => by subst z; rw [hh] at h; cases h; exact hc
    rw [upd_ne ne]
    exact e.tup p xs (by rw [upd_ne ne]; exact h)
  · have ne : p ≠ a := fun z => by subst z; rw [hh] at h; cases h; exact hc
    rw [upd_ne ne]
    exact e.frz p q v (by rw [upd_ne ne]; exact h)
  · have ne : p ≠ a := fun z => by subst z; rw [hs] at n; cases n
    rw [upd_ne ne, Sto.upd_ne ne]
    exact e.frame p v (by rw [upd_ne ne]; exact h) (by rw [Sto.upd_ne ne]; exact n)
theorem upd_frz_tup {a : Addr} {u : HO} {od : Obj} (hh : H a = some (.frz od u)) (hc : Chg u) : ∀ p xs, H p = some (.tup xs) → upd H a u p = some (.tup xs) := fun p xs h => by
  have ne : p ≠ a := fun z => by subst z; rw [hh] at h; cases h
  rw [upd_ne ne]; exact h
theorem RepV.unfrz {a : Addr} {u : HO} {od : Obj} (hh : H a = some (.frz od u)) (hc : Chg u) (hv : ∀ xs, u ≠ .tup xs) : ∀ (v : Val) {x : V}, RepV K H v x → RepV K (upd H a u) v x := by
  intro v x h
  have sq : ∀ {p : Addr} {xs : List V}, SqN K H p xs → SqN K (upd H a u) p xs := fun {p xs} h => by
    rcases h with ⟨o, h, d⟩ | h
    · have ne : p ≠ a := fun z => by subst z; rw [hh] at h; cases h; exact hv _ rfl
      exact .inl ⟨o, by rw [upd_ne ne]; exact h, d⟩
    · exact .inr h
  have both : (∀ (v : Val) {x : V}, RepV K H v x → RepV K (upd H a u) v x) ∧ ∀ (vs : List Val) {xs : List V}, RepVs K H vs xs → RepVs K (upd H a u) vs xs := by
    refine ⟨fun v => ?_, fun vs => ?_⟩
    · exact Val.rec (motive_1 := fun v => ∀ {x : V}, RepV K H v x → RepV K (upd H a u) v x) (motive_2 := fun vs => ∀ {xs : List V}, RepVs K H vs xs → RepVs K (upd H a u) vs xs)
        (fun h => by simp only [RepV] at h ⊢; exact h) (fun b {x} h => by simp only [RepV] at h ⊢; exact h) (fun b {x} h => by simp only [RepV] at h ⊢; exact h) (fun b {x} h => by simp only [RepV] at h ⊢; exact h)
        (fun xs ih {x} h => by simp only [RepV] at h ⊢; obtain ⟨p, ys, e, q, r⟩ := h; exact ⟨p, ys, e, sq q, ih r⟩) (fun b {x} h => by simp only [RepV] at h ⊢; exact h)
        (fun xs ih {x} h => by simp only [RepV] at h ⊢; obtain ⟨p, ys, e, q, r⟩ := h; exact ⟨p, ys, e, upd_frz_tup hh hc _ _ q, ih r⟩)
        (fun {xs} h => by simp only [RepVs] at h ⊢; exact h) (fun v vs iv ivs {xs} h => by simp only [RepVs] at h ⊢; obtain ⟨y, ys, e, p, q⟩ := h; exact ⟨y, ys, e, iv p, ivs q⟩) v
    · exact Val.rec_1 (motive_1 := fun v => ∀ {x : V}, RepV K H v x → RepV K (upd H a u) v x) (motive_2 := fun vs => ∀ {xs : List V}, RepVs K H vs xs → RepVs K (upd H a u) vs xs)
        (fun h => by simp only [RepV] at h ⊢; exact h) (fun b {x} h => by simp only [RepV] at h ⊢; exact h) (fun b {x} h => by simp only [RepV] at h ⊢; exact h) (fun b {x} h => by simp only [RepV] at h ⊢; exact h)
        (fun xs ih {x} h => by simp only [RepV] at h ⊢; obtain ⟨p, ys, e, q, r⟩ := h; exact ⟨p, ys, e, sq q, ih r⟩) (fun b {x} h => by simp only [RepV] at h ⊢; exact h)
        (fun xs ih {x} h => by simp only [RepV] at h ⊢; obtain ⟨p, ys, e, q, r⟩ := h; exact ⟨p, ys, e, upd_frz_tup hh hc _ _ q, ih r⟩)
        (fun {xs} h => by simp only [RepVs] at h ⊢; exact h) (fun v vs iv ivs {xs} h => by simp only [RepVs] at h ⊢; obtain ⟨y, ys, e, p, q⟩ := h; exact ⟨y, ys, e, iv p, ivs q⟩) vs
  exact both.1 v h
theorem Cor.lst {a : Addr} {vs : List Val} (c : Cor K S H) (h : S a = some (.lst vs)) : ∃ xs, H a = some (.lst xs) ∧ RepVs K H vs xs := by
  have := c a _ h; simpa only [RepA] using this
theorem Cor.rd {a : Addr} {vs : List Val} (c : Cor K S H) (h : rdL S a vs) : ∃ xs, SqL K H a xs ∧ RepVs K H vs xs := by
  rcases h.cases with h | h
  · obtain ⟨xs, e, r⟩ := c.lst h; exact ⟨xs, .of e, r⟩
  · have := c a _ h
    simp only [RepA] at this
    obtain ⟨xs, e, r⟩ := this
    exact ⟨xs, .inl e, r⟩
theorem Cor.setL {a : Addr} {vs ws : List Val} {xs ys : List V} (c : Cor K S H) (h : S a = some (.lst vs)) (e : H a = some (.lst xs)) (r : RepVs K H ws ys) : Cor K (S.upd a (.lst ws)) (upd H a (.lst ys)) :=
  c.chg h e trivial (by simp only [RepA]; exact ⟨ys, upd_same, RepVs.evo' (chg_tup e trivial) (chg_frz e trivial) _ r⟩)
end
end M

set_option maxHeartbeats 4000000
namespace M
open PySem PySem.Spec PyProof.Rows L2
theorem tup_once (a : Addr) (vs : Array Value) (m : Nat) (od : Option Addr) (ss : Array (Option Value)) (j : Int) (t : Tok) (lo : (decide (j < -(2 ^ 63)) || decide (j ≥ 2 ^ 63)) = false) (one : (vs.isEmpty || j == 1) = true) :
    Meets (Builtin.«tuple.__mul__» ⟨[.ref a, .int j t], []⟩) (fun _ R s => s.heap.get? a = some { cls := .type "tuple", dict := od, data := .seq vs m, slots := ss } ∧ R (.ok (.ret (Value.ref a))) s) :=
  .of_wp fun prog w A R s h => by
    obtain ⟨hp, g, d, tk, os⟩ := s
    obtain ⟨ha, h⟩ := h
    have f1 := AutoSeq1.idx_int
    wp_walk using wpAny_loadPart' ha
    repeat (first
      | (refine wpAny_ite_false (decide_eq_false (by rw [lo]; exact Bool.false_ne_true)) ?_; wp_walk using wpAny_loadPart' ha)
      | (refine wpAny_ite_true (decide_eq_true one) ?_; wp_walk using wpAny_loadPart' ha))
    exact ⟨_, rfl, h⟩
section
variable {X : Cx}
/-- the object of a tuple, new -/
abbrev tupO1 (its : List Value) : Obj := { cls := .type "tuple", data := .seq its.toArray }
theorem op_mulN : OpR X (binaryOp .Mult) (fun x y H Q => ∃ a j xs, x = .ref a ∧ y = .int j ∧ SqT X.K H a xs ∧ 1 ≤ j ∧ j ≤ 1000 ∧ xs.length ≤ 1000 ∧ (xs = [] ∨ j = 1 → Q (.ref a) H) ∧
    (xs ≠ [] → 2 ≤ j → ∀ (p : Addr) (o : Obj), H p = none → o.dict = none → Q (.ref p) (upd H p (.frz o (.tup (List.replicate j.toNat xs).flatten))))) := by
  intro pins s σ H x y v u Q I rx ry h
  obtain ⟨a, j, xs, rfl, rfl, hT, j1, j2, hl, q1, q2⟩ := h
  cases rx
  obtain ⟨t, rfl⟩ := ry
  obtain ⟨vs, r, ⟨⟨c, od, da, ss⟩, ho, hc, m, hd⟩, _⟩ := I.tuple hT
  simp only at hc hd
  subst hc hd
  have el : vs.length = xs.length := r.length.symm
  have lo : (decide (j < -(2 ^ 63)) || decide (j ≥ 2 ^ 63)) = false := by rw [Bool.or_eq_false_iff]; exact ⟨decide_eq_false (by omega), decide_eq_false (by omega)⟩
  refine wpAny_binaryOp_repeat_ref (T := "tuple") (U := "int") (by decide) ⟨_, ho, rfl⟩ (fun s' => typeIs_int s' j t) noFill_tuple_mul F.fills_int_mul F.slot_int_rmul repeat_tuple F.slot_int_index.lookup ?_
  refine call_meets F.slot_int_rmul (typeIs_int s j t) F.entry_int_rmul (F.args_int_rmul_2 _ _) (int_rmul_tuple j t a vs.toArray m od ss) ⟨ho, rfl, ⟨_, ho, rfl⟩, ?_⟩
  by_cases e : xs = [] ∨ j = 1
  · have one : (vs.toArray.isEmpty || j == 1) = true := by
      rcases e with e | e
      · rw [e] at el
        have : vs = [] := List.eq_nil_of_length_eq_zero el
        rw [this]; rfl
      · rw [e]; simp
    exact call_meets F.slot_tuple_mul ⟨_, ho, rfl⟩ F.entry_tuple_mul (F.args_tuple_mul_2 _ _) (tup_once a vs.toArray m od ss j t lo one) ⟨ho, ⟨.ref a, H, I, rfl, q1 e⟩⟩
  · have ex : xs ≠ [] := fun z => e (.inl z)
    have ej : 2 ≤ j := by have : j ≠ 1 := fun z => e (.inr z); omega
    obtain ⟨v0, vr, rfl⟩ : ∃ v0 vr, vs = v0 :: vr := by
      cases vs with
      | nil => exact absurd (List.eq_nil_of_length_eq_zero el.symm) ex
      | cons v0 vr => exact ⟨v0, vr, rfl⟩
    have j2n : j.toNat ≤ 1000 := by omega
    have len2 : (List.replicate j.toNat (v0 :: vr)).flatten.length ≤ sizeLine := by
      have h1 := Nat.mul_le_mul j2n hl
      rw [PyProof.Rows.lm_len_rep_flat, el, sizeLine_eq]; omega
    have sz1 : (((v0 :: vr).toArray.size : Nat) : Int) * j ≤ 1000000 := by
      have h2 : ((xs.length : Nat) : Int) * j ≤ 1000 * j := Int.mul_le_mul_of_nonneg_right (by omega) (by omega)
      rw [List.size_toArray, el]; omega
    have t1 : ((v0 :: vr).toArray.isEmpty || j == 1) = false := by
      have : (j == 1) = false := beq_eq_false_iff_ne.mpr (by omega)
      rw [this]; rfl
    have t2 : (decide (j ≤ 0) || (v0 :: vr).toArray.isEmpty) = false := by
      rw [decide_eq_false (by omega)]; rfl
    have t4 : Builtin.Tuple.tupleTooMany ((((v0 :: vr).toArray.size : Nat) : Int) * j) = false := by
      unfold Builtin.Tuple.tupleTooMany
      rw [sizeLine_eq]
      exact decide_eq_false (by omega)
    refine call_meets F.slot_tuple_mul ⟨_, ho, rfl⟩ F.entry_tuple_mul (F.args_tuple_mul_2 _ _) (tuple_mulW a (v0 :: vr).toArray m od ss j t lo t1 t2 (by omega) t4 (by rw [size_rep, List.size_toArray]; exact len2)) ⟨ho, ?_⟩
    rw [size_rep]
    have hz : (List.replicate j.toNat xs).flatten.length ≤ sizeLine := by
      rw [PyProof.Rows.lm_len_rep_flat, ← el, ← PyProof.Rows.lm_len_rep_flat]; exact len2
    have I2 : Inv X pins σ (upd H s.heap.objs.size (.frz (tupO1 (List.replicate j.toNat (v0 :: vr)).flatten) (.tup (List.replicate j.toNat xs).flatten))) { s with heap := s.heap.push (tupO1 (List.replicate j.toNat (v0 :: vr)).flatten) } :=
      I.laid (t' := s.toks) (fun b u e => Heap.get?_push_of_some _ e) (Nat.le_refl _) ⟨Heap.get?_push_size _ rfl, hz, _, r.rep j.toNat, IsTup.new _ _⟩
    exact ⟨.ref s.heap.objs.size, _, I2, rfl, q2 ex ej _ _ (I.hok.fresh (Nat.le_refl _)) rfl⟩
end
end M

set_option maxHeartbeats 2000000
namespace SrtO
open PySem PySem.Spec PyProof.Rows Srt
section
variable {prog : Program} {w : World} {A : Around} {E : Value → Shared → Prop} {s : Shared}
theorem sorted_col {x : Value} {C : Shared → List Value → Prop} {Q : Value → Shared → Prop} (hcol : ∀ Q' : List Value → Shared → Prop, (∀ s1 vs, C s1 vs → Q' vs s1) → wpAny (model prog w) A.in1 (collect x) Q' E s)
    (h : ∀ s1 vs, C s1 vs → vs.length ≤ sizeLine ∧ ∃ ltv, Swo ltv ∧ (2 ≤ vs.length → SortableO prog w A.in1.in1 { s1 with heap := s1.heap.push (seqObj "list" vs.toArray 0) } s1.heap.objs.size vs ltv) ∧
      ∀ out : List Value, Srtd ltv out → Stb ltv out vs → Q (.ref s1.heap.objs.size) { s1 with heap := sortedHeap (s1.heap.push (seqObj "list" vs.toArray 0)) s1.heap.objs.size vs out.toArray }) :
    wpAny (model prog w) A (call (.builtin "sorted") [x]) Q E s := by
  refine Calls.call_function_entry kind_sorted plain_sorted entry_sorted (args_sorted1 _) ?_
  unfold Builtin.«sorted»
  refine wpAny_bind (m := checkCount "sorted" 1 1 _) (wpAny_pure ?_)
  refine wpAny_bind (hcol _ fun s1 vs c => ?_)
  obtain ⟨hz, ltv, O, hS, q⟩ := h s1 vs c
  refine wpAny_bind (wpAny_newList ?_ hz)
  have hoL : (s1.heap.push (seqObj "list" vs.toArray 0)).get? s1.heap.objs.size = some (seqObj "list" vs.toArray 0) := Heap.get?_push_size _ rfl
  refine wpAny_bind (wpAny_holding (wpAny_call_entry slot_list_sort ⟨_, hoL, rfl⟩ entry_list_sort (list_sort_ord O hoL hz hS fun out hs hb => ⟨_, rfl, ?_⟩) (args_list_sort _)))
  exact wpAny_pure ⟨_, rfl, q out hs hb⟩
end
end SrtO
namespace L2
open PySem PySem.Spec PyProof.Rows
section
variable {X : Cx}
/-- what is laid behind a sort -/
theorem sorted_laid {vs : List Value} {out : List Value} {pins : List (Addr × Obj)} {σ : St} {H : Hp} {s s1 : Shared} {zs : List V} (I : Inv X pins σ H s) (k : ∀ b u, s.heap.get? b = some u → s1.heap.get? b = some u) (hsz : s.heap.objs.size ≤ s1.heap.objs.size) (g : s1.gens = s.gens) (o : s1.os = s.os)
    (hz : zs.length ≤ sizeLine) (hv : Vals zs out) : Inv X pins σ (upd H s1.heap.objs.size (.lst zs)) { s1 with heap := sortedHeap (s1.heap.push (seqObj "list" vs.toArray 0)) s1.heap.objs.size vs out.toArray } := by
  have hoL : (s1.heap.push (seqObj "list" vs.toArray 0)).get? s1.heap.objs.size = some (seqObj "list" vs.toArray 0) := Heap.get?_push_size _ rfl
  obtain ⟨c, hc⟩ := sortedHeap_at (vs := vs) (out := out.toArray) hoL
  have kk : ∀ b u, s.heap.get? b = some u → (sortedHeap (s1.heap.push (seqObj "list" vs.toArray 0)) s1.heap.objs.size vs out.toArray).get? b = some u := fun b u e => by
    have q := k b u e
    have hlt := Heap.lt_size q
    rw [sortedHeap_old (Nat.ne_of_lt hlt) (by rw [size_push']; exact Nat.lt_succ_of_lt hlt)]
    exact Heap.get?_push_of_some _ q
  have J : Inv X pins σ (upd H s1.heap.objs.size (.lst zs)) { s with heap := sortedHeap (s1.heap.push (seqObj "list" vs.toArray 0)) s1.heap.objs.size vs out.toArray, gens := s1.gens, drawn := s1.drawn, toks := s1.toks } :=
    I.call (ch := []) (Un.laid kk hsz (I.hok.fresh hsz)) (I.hok.laid kk hsz ⟨hz, out, c, hv, hc⟩) (by rw [g]; exact I.bare) (fun _ z => nomatch z)
  have e : ({ s1 with heap := sortedHeap (s1.heap.push (seqObj "list" vs.toArray 0)) s1.heap.objs.size vs out.toArray } : Shared) = { s with heap := sortedHeap (s1.heap.push (seqObj "list" vs.toArray 0)) s1.heap.objs.size vs out.toArray, gens := s1.gens, drawn := s1.drawn, toks := s1.toks } := by
    cases s1
    cases s
    cases o
    rfl
  rw [e]; exact J
/-- sorted(t), ints -/
def rSortedTI (K : PySem.W.Frag) : List V → Hp → VK → Prop := fun vs H Q => ∃ (a : Addr) (ns : List Int), vs = [V.ref a] ∧ SqT K H a (ns.map V.int) ∧
  ∀ (ns' : List Int) (p : Addr), ns'.Perm ns → ns'.Pairwise (· ≤ ·) → H p = none → Q (.ref p) (upd H p (.lst (ns'.map V.int)))
theorem cr_sortedTI : CallR X (.builtin "sorted") (rSortedTI X.K) := by
  intro pins s σ H vs us Q I r h
  obtain ⟨a, ns, rfl, hs, q⟩ := h
  obtain ⟨its, rv, hl, hz⟩ := I.tuple hs
  rw [Vals.ref1 r]
  have hi := rv.ints
  obtain ⟨o, ho, hc, n, hd⟩ := hl
  refine SrtO.sorted_col (C := fun s1 vs => vs = its ∧ ∃ h', (∀ b o', s.heap.get? b = some o' → h'.get? b = some o') ∧ s1 = { s with heap := h' }) (fun Q' hq => ?_) ?_
  · exact wpAny_collect_seq a (.inr rfl) ho hc hd (fun h' k => hq _ _ ⟨by simp, h', k, rfl⟩) (by rw [List.size_toArray, ← rv.length]; exact hz)
  · rintro s1 vs ⟨rfl, h', k, rfl⟩
    have I1 : Inv X pins σ H { s with heap := h' } := I.kept (t' := s.toks) k
    refine ⟨by rw [← rv.length]; exact hz, _, SrtO.swo_int, fun h2 => SrtO.ints_sortable hi h2, fun out h1 h2 => ?_⟩
    obtain ⟨k1, k2, k3⟩ := SrtO.ints_out hi h1 h2
    refine ⟨.ref _, _, sorted_laid (s1 := { s with heap := h' }) I1 (fun _ _ z => z) (Nat.le_refl _) rfl rfl (zs := (out.map SrtO.iv).map V.int) ?_ (vals_of_ints k1), rfl, q _ _ k2 k3 (I1.hok.fresh (Nat.le_refl _))⟩
    rw [List.length_map, k2.length_eq]
    rw [List.length_map] at hz
    exact hz
/-- sorted(a set of ints), any number -/
theorem sorted_setI {pins : List (Addr × Obj)} {s : Shared} {σ : St} {H : Hp} {a : Addr} {S : Int → Bool} {n : Nat} {Q : VK} (I : Inv X pins σ H s) (hh : X.A.handled = none) (R : SetR X.w s.heap a S n) (hn : n ≤ sizeLine)
    (q : ∀ (ns : List Int) (p : Addr), ns.Pairwise (· < ·) → (∀ k : Int, k ∈ ns ↔ S k = true) → H p = none → Q (.ref p) (upd H p (.lst (ns.map V.int)))) :
    wpAny (model X.prog X.w) X.A (call (.builtin "sorted") [.ref a]) (EP X pins σ Q) X.xe s := by
  obtain ⟨o, es, ep, t, ho, hex, hd, g, nd, hm, hb, hf, hn', hr, hl⟩ := R
  refine SrtO.sorted_col (C := fun s1 vs => (∀ b o, s.heap.get? b = some o → s1.heap.get? b = some o) ∧ s.heap.objs.size ≤ s1.heap.objs.size ∧ s1.gens = s.gens ∧ s1.os = s.os ∧ vs.Perm (es.toList.map (·.2))) (fun Q' hq => ?_) ?_
  · exact collect_set (A := X.A.in1) hh ⟨o, ho, hex.1, hd⟩ hf hb hr hl fun s1 vs k1 hz g1 o1 pm => hq _ _ ⟨k1, hz, g1, o1, pm⟩
  · rintro s1 vs ⟨k1, hz, g1, o1, pm⟩
    have hvl : vs.length = n := by rw [pm.length_eq, List.length_map, Array.length_toList]; exact hn'
    have hI : IntsAre vs (vs.map SrtO.iv) := SrtO.ints_iv fun v hv => by
      obtain ⟨e, he, q⟩ := List.mem_map.mp (pm.mem_iff.mp hv)
      obtain ⟨k, tk, h1, _⟩ := g e he
      exact ⟨k, tk, by rw [← q]; exact h1⟩
    have pk : (vs.map SrtO.iv).Perm (es.toList.map keyOf) := by
      have q := pm.map SrtO.iv
      rw [List.map_map] at q
      have ee : es.toList.map (SrtO.iv ∘ fun x => x.2) = es.toList.map keyOf := List.map_congr_left fun e he => by
        obtain ⟨k, tk, h1, _⟩ := g e he
        show SrtO.iv e.2 = keyOf e
        unfold keyOf
        rw [h1] <;> rfl
      rw [ee] at q
      exact q
    refine ⟨by rw [hvl]; exact hn, _, SrtO.swo_int, fun h2 => SrtO.ints_sortable hI h2, fun out h1 h2 => ?_⟩
    obtain ⟨a1, a2, a3⟩ := SrtO.ints_out hI h1 h2
    have pn : (out.map SrtO.iv).Perm (es.toList.map keyOf) := a2.trans pk
    have nd2 := pn.nodup_iff.mpr nd
    refine ⟨.ref _, _, sorted_laid I k1 hz g1 o1 (zs := (out.map SrtO.iv).map V.int) ?_ (vals_of_ints a1), rfl, q _ _ ?_ (fun k => by rw [pn.mem_iff, ← hm k]) (I.hok.fresh hz)⟩
    · rw [List.length_map, a2.length_eq, List.length_map, hvl]; exact hn
    · refine List.Pairwise.imp_of_mem (R := fun x y => x ≤ y ∧ x ≠ y) (fun {x y} _ _ z => by omega) ?_
      exact List.Pairwise.and a3 nd2
/-- t.index(i), ints -/
theorem mt_tup_indexI : MtR X "tuple.index" (fun x xs H Q => ∃ (p : Addr) (ns : List Int) (k : Int) (j : Nat), x = .ref p ∧ xs = [.int k] ∧ SqT X.K H p (ns.map V.int) ∧ ns[j]? = some k ∧ (∀ m : Nat, m < j → ns[m]? ≠ some k) ∧ Q (.int (j : Nat)) H) := by
  intro pins s σ H x xs v us Q I rx rs h
  obtain ⟨p, ns, z, j, rfl, rfl, hq, hy, hno, q⟩ := h
  cases rx
  obtain ⟨u, rfl, t, rfl⟩ := vals1 rs
  obtain ⟨its, r, pl, hz⟩ := I.tuple hq
  obtain ⟨⟨cls, dd, dt, sl⟩, ho, hc, n, hd⟩ := pl
  simp only at hc hd
  subst hc hd
  have fl : (ns.map V.int).all flatV = true := by rw [List.all_map]; exact List.all_eq_true.mpr fun _ _ => rfl
  have hl : its.toArray.size = ns.length := by rw [List.size_toArray, ← r.length, List.length_map]
  have hj : j < its.toArray.size := by rw [hl]; exact (List.getElem?_eq_some_iff.mp hy).1
  have ent : ∀ (m : Nat) (hm : m < its.toArray.size), ∃ i t', ns[m]? = some i ∧ its.toArray[m] = Value.int i t' := fun m hm => by
    have hm' : m < ns.length := by rw [← hl]; exact hm
    obtain ⟨w, hw, t', hw'⟩ := r.get (i := m) (x := .int ns[m]) (by simp [hm'])
    refine ⟨ns[m], t', List.getElem?_eq_getElem hm', ?_⟩
    rw [← hw', ← (List.getElem?_eq_some_iff.mp hw).2]
    simp
  refine call_meets PySem.F.slot_tuple_index ⟨_, ho, rfl⟩ PySem.F.entry_tuple_index (PySem.F.args_tuple_index_2 _ _) (TI.tuple_indexAt p its.toArray n dd sl (.int z t) (eqU (.int z)) j hj ?_ ?_)
    ⟨ho, fun w hw => mem_eqAt (x := .int z) ⟨t, rfl⟩ rfl r fl w (by simpa using hw), ⟨.int (j : Nat), H, I.tok _, ⟨_, rfl⟩, q⟩⟩
  · obtain ⟨i, t', h1, h2⟩ := ent j hj
    rw [hy] at h1; cases h1
    rw [h2, eqU_of (y := .int z) ⟨t', rfl⟩ rfl]
    simp [eqV]
  · intro m hm hmj
    obtain ⟨i, t', h1, h2⟩ := ent m hm
    rw [h2, eqU_of (y := .int i) ⟨t', rfl⟩ rfl]
    have := hno m hmj
    rw [h1] at this
    simp [eqV]
    intro h; exact this (by rw [h])
/-- sorted(set(t)), ints -/
def tSortSet (K : PySem.W.Frag) (te : TE) : TE := fun σ H Q => te σ H fun v H1 => ∃ (a : Addr) (ns : List Int), v = .ref a ∧ SqT K H1 a (ns.map V.int) ∧ ns.length ≤ 1000 ∧
  ∀ (ns' : List Int) (p : Addr), ns'.Pairwise (· < ·) → (∀ k : Int, k ∈ ns' ↔ k ∈ ns) → H1 p = none → Q (.ref p) (upd H1 p (.lst (ns'.map V.int)))
theorem pe_sortSet {e : Expr} {te : TE} {p p2 pos pos2 : Pos} (hc : X.calm = true) (hg : Gl X "sorted") (hm : X.mg "sorted" = none) (hg2 : Gl X "set") (hm2 : X.mg "set" = none) (he : PE X e te)
    (hs : starEach [e] X.env = (false, eval e X.env) :: starEach [] X.env := by rfl)
    (hs2 : starEach [.Call (.Name "set" p2) [e] [] pos2] X.env = (false, eval (.Call (.Name "set" p2) [e] [] pos2) X.env) :: starEach [] X.env := by rfl) :
    PE X (.Call (.Name "sorted" p) [.Call (.Name "set" p2) [e] [] pos2] [] pos) (tSortSet X.K te) := by
  refine ⟨fun pins s σ H Q I h => ?_⟩
  refine Call_ (ld_blt I hg hm boot_sorted ?_)
  refine PyProof.Rows.callWith_builtin1 (PyProof.Rows.args_cons ?_ hs2) hs2 rfl
  refine Call_ (ld_blt I hg2 hm2 PyProof.Rows.boot_set ?_)
  refine PyProof.Rows.callWith_type1 (PyProof.Rows.args_cons (thn (he.run pins s σ H _ I h) fun u s1 ⟨v, H1, I1, r1, q1⟩ => PyProof.Rows.args_nil ?_) hs) hs rfl
  obtain ⟨a, ns, ev, hq, hl, q⟩ := q1
  subst ev
  obtain rfl : u = Value.ref a := r1
  obtain ⟨its, rv, pt, hz⟩ := I1.tuple hq
  have hi : IntsAre its.toArray.toList ns := ints_of_vals rv
  refine call_set_tupI ns (I1.ok.hd hc) (show s1.heap.IsTuple a its.toArray from pt) hi (by unfold scanBound; omega) fun h' tk c R hcn k => PyProof.Rows.args_nil ?_
  have I2 : Inv X pins σ H1 { s1 with heap := h', toks := tk } := I1.kept k
  exact sorted_setI I2 (I1.ok.hd hc) R (by rw [sizeLine_eq]; omega) fun ns' p h1 h2 hp => q ns' p h1 (fun k => by rw [h2 k, decide_eq_true_eq]) hp
end
end L2

set_option maxHeartbeats 2000000
namespace M
open PySem PySem.Spec PyProof.Rows L2
section
variable {X : Cx}
/-- the object of a new tuple -/
abbrev tupO (its : List Value) : Obj := { cls := .type "tuple", data := .seq its.toArray }
theorem laidN {pins : List (Addr × Obj)} {σ : L2.St} {H : Hp} {s : Shared} {xs : List V} {its : List Value} (I : Inv X pins σ H s) (hz : xs.length ≤ sizeLine) (r : Vals xs its) :
    Inv X pins σ (upd H s.heap.objs.size (.frz (tupO its) (.tup xs))) { s with heap := s.heap.push (tupO its) } :=
  I.laid (t' := s.toks) (fun b u e => Heap.get?_push_of_some _ e) (Nat.le_refl _) ⟨Heap.get?_push_size _ rfl, hz, its, r, IsTup.new _ _⟩
theorem pe_tupN {es : List Expr} {x1 : Nat} {pos : Pos} {t : TA} (h : PA X es t) : PE X (.Tuple es x1 pos) (fun σ H Q => t σ H fun xs H1 => xs.length ≤ sizeLine ∧ ∀ (p : Addr) (o : Obj), H1 p = none → o.dict = none → Q (.ref p) (upd H1 p (.frz o (.tup xs)))) := by
  refine ⟨fun pins s σ H Q I hq => ?_⟩
  refine wpAny_Tuple_spliced (thn (h.run pos pins s σ H _ I hq) fun us s1 ⟨xs, H1, I1, r, z, q⟩ => ⟨by rw [← r.length]; exact z, ?_⟩)
  exact ⟨.ref s1.heap.objs.size, _, laidN I1 z r, rfl, q _ _ (I1.hok.fresh (Nat.le_refl _)) rfl⟩
theorem call_tupN : CallR X (.type "tuple") (fun xs H Q => ∃ p ys, xs = [.ref p] ∧ ((SqL X.K H p ys ∧ ∀ (l : Addr) (o : Obj), H l = none → o.dict = none → Q (.ref l) (upd H l (.frz o (.tup ys)))) ∨ (SqT X.K H p ys ∧ Q (.ref p) H))) := by
  intro pins s σ H xs us Q I r h
  obtain ⟨p, ys, rfl, h⟩ := h
  obtain ⟨u, rfl, rx⟩ := vals1 r
  cases rx
  rcases h with ⟨hq, q⟩ | ⟨hq, q⟩
  · obtain ⟨its, r', pl, hz⟩ := I.list hq
    have hlen := r'.length
    refine call_tuple_list pl.isList (fun h' kp => ?_) (by simp only [List.size_toArray] <;> omega)
    have I1 : Inv X pins σ H { s with heap := h' } := I.kept (t' := s.toks) kp
    exact ⟨.ref h'.objs.size, _, laidN I1 hz r', rfl, q _ _ (I1.hok.fresh (Nat.le_refl _)) rfl⟩
  · obtain ⟨its, r', pl, hz⟩ := I.tuple hq
    exact call_tuple_same pl ⟨.ref p, H, I, rfl, q⟩
theorem op_catN : OpR X (binaryOp .Add) (fun x y H Q => ∃ a b xs ys, x = .ref a ∧ y = .ref b ∧ SqT X.K H a xs ∧ SqT X.K H b ys ∧ xs.length + ys.length ≤ sizeLine ∧
    (xs = [] → Q (.ref b) H) ∧ (xs ≠ [] → ys = [] → Q (.ref a) H) ∧ (xs ≠ [] → ys ≠ [] → ∀ (p : Addr) (o : Obj), H p = none → o.dict = none → Q (.ref p) (upd H p (.frz o (.tup (xs ++ ys)))))) := by
  intro pins s σ H x y v u Q I rx ry h
  obtain ⟨a, b, xs, ys, rfl, rfl, ha, hb, hz, q0, q1, q2⟩ := h
  by_cases hx : xs = []
  · exact op_catA pins s σ H _ _ v u Q I rx ry ⟨a, b, xs, ys, rfl, rfl, ha, hb, hz, q0, q1, fun e => absurd hx e⟩
  · cases rx
    cases ry
    obtain ⟨its, r1, p1, _⟩ := I.tuple ha
    obtain ⟨its2, r2, p2, _⟩ := I.tuple hb
    refine HT.cat_tup p1 p2 (fun z => hx (r1.nil_iff.mp z)) (fun z => ⟨.ref a, H, I, rfl, q1 hx (r2.nil_iff.mp z)⟩) (fun z => ?_) (by rw [← r1.length, ← r2.length]; exact hz)
    exact ⟨.ref s.heap.objs.size, _, laidN I (by rw [List.length_append]; exact hz) (r1.append r2), rfl, q2 hx (fun w => z (r2.nil_iff.mpr w)) _ _ (I.hok.fresh (Nat.le_refl _)) rfl⟩
theorem op_catL : OpR X (binaryOp .Add) (fun x y H Q => ∃ l b xs zs, x = .ref l ∧ y = .ref b ∧ SqL X.K H l xs ∧ SqL X.K H b zs ∧ xs.length + zs.length ≤ sizeLine ∧ ∀ p, H p = none → Q (.ref p) (upd H p (.lst (xs ++ zs)))) := by
  intro pins s σ H x y v u Q I rx ry h
  obtain ⟨l, b, xs, zs, rfl, rfl, hH, hB, hz, q⟩ := h
  cases rx
  cases ry
  obtain ⟨its, r, p1, hl⟩ := I.list hH
  obtain ⟨its2, r2, p2, hl2⟩ := I.list hB
  obtain ⟨⟨cls, dd, data, sl⟩, ho, hc, n, hd⟩ := id p1.isList
  obtain ⟨⟨cls2, dd2, data2, sl2⟩, ho2, hc2, n2, hd2⟩ := id p2.isList
  simp only at hc hd hc2 hd2
  subst hc hd hc2 hd2
  have e := r.length
  have e' := r2.length
  refine concat_meets ⟨_, ho, rfl⟩ ⟨_, ho2, rfl⟩ noFill_list_add seq_list_add PySem.F.slot_list_add PySem.F.entry_list_add (PySem.F.args_list_add_2 _ _) (list_addW l b its.toArray its2.toArray n n2 dd dd2 sl sl2 (by simp; omega)) ⟨ho, ho2, ?_⟩
  have ea : its.toArray ++ its2.toArray = (its ++ its2).toArray := by simp
  rw [ea]
  exact ⟨.ref _, _, I.lnew (t' := s.toks) (r.append r2) (by rw [List.length_append]; omega), rfl, q _ I.fresh⟩
theorem sl_tupN : SlR X (fun x lo hi H Q => ∃ a xs, x = .ref a ∧ SqT X.K H a xs ∧
    (HT.sIx xs.length 0 lo = 0 ∧ HT.sIx xs.length xs.length hi = xs.length → Q (.ref a) H) ∧ (¬ (HT.sIx xs.length 0 lo = 0 ∧ HT.sIx xs.length xs.length hi = xs.length) → ∀ (p : Addr) (o : Obj), H p = none → o.dict = none → Q (.ref p) (upd H p (.frz o (.tup (cutV xs lo hi)))))) := by
  intro pins s σ H x v vl vu lo hi sl Q I rx hs pl pu h
  obtain ⟨a, xs, rfl, hx, q1, q2⟩ := h
  by_cases hw : HT.sIx xs.length 0 lo = 0 ∧ HT.sIx xs.length xs.length hi = xs.length
  · exact sl_tupA pins s σ H _ v vl vu lo hi sl Q I rx hs pl pu ⟨a, xs, rfl, hx, q1, fun e => absurd hw e⟩
  · cases rx
    obtain ⟨its, r, ht, hz⟩ := I.tuple hx
    have hlen : its.toArray.size = xs.length := by rw [List.size_toArray]; exact r.length.symm
    refine ⟨"tuple", _, PyProof.Rows.slot_tuple_getitem.lookup, ht.typeIs, ?_⟩
    refine HT.getItem_tuple_cut ht hs pl pu (by rw [hlen]; exact hw) ?_ (by rw [hlen]; exact hz)
    rw [hlen]
    exact ⟨.ref s.heap.objs.size, _, laidN I (Nat.le_trans (cutV_length xs lo hi) hz) ((r.drop (HT.sIx xs.length 0 lo)).take (HT.sIx xs.length xs.length hi - HT.sIx xs.length 0 lo)), rfl, q2 hw _ _ (I.hok.fresh (Nat.le_refl _)) rfl⟩
theorem pe_tupRevN {e : Expr} {te : TE} {p p2 pos pos2 : Pos} (hc : X.calm = true) (hg : Gl X "tuple") (hm : X.mg "tuple" = none) (hg2 : Gl X "reversed") (hm2 : X.mg "reversed" = none) (he : PE X e te)
    (hs : starEach [e] X.env = (false, eval e X.env) :: starEach [] X.env)
    (hs2 : starEach [.Call (.Name "reversed" p2) [e] [] pos2] X.env = (false, eval (.Call (.Name "reversed" p2) [e] [] pos2) X.env) :: starEach [] X.env := by rfl) :
    PE X (.Call (.Name "tuple" p) [.Call (.Name "reversed" p2) [e] [] pos2] [] pos) (fun σ H Q => te σ H fun v H1 => ∃ (a : Addr) (xs : List V), v = .ref a ∧ SqL X.K H1 a xs ∧ ∀ (q : Addr) (o : Obj), H1 q = none → o.dict = none → Q (.ref q) (upd H1 q (.frz o (.tup xs.reverse)))) := by
  refine ⟨fun pins s σ H Q I h => ?_⟩
  refine Call_ (ld_blt I hg hm boot_tuple (PyProof.Rows.callWith_type1 (args_cons (Call_ (ld_blt I hg2 hm2 PyProof.Rows.boot_reversed (PyProof.Rows.callWith_type1 (args_cons (thn (he.run pins s σ H _ I h) fun u s1 ⟨v, H1, I1, r1, q1⟩ => args_nil ?_) hs) hs rfl))) hs2) hs2 rfl))
  obtain ⟨a, xs, ev, hq, q⟩ := q1
  subst ev
  obtain rfl : u = Value.ref a := r1
  obtain ⟨its, rv, p', hz⟩ := I1.list hq
  refine call_reversed_list p'.isList (args_nil ?_)
  have I2 : Inv X pins σ H1 { s1 with heap := s1.heap.push (revObj a ((its.toArray.size : Int) - 1)) } := I1.kept (t' := s1.toks) fun b o e => Heap.get?_push_of_some _ e
  obtain ⟨f0, f1, f2, f3, f4, f5⟩ := I1.fpOk (H' := H1) (b := s1.heap.objs.size) (Nat.le_refl _) (I1.hok.fresh (Nat.le_refl _))
  have hl := p'.isList
  obtain ⟨ol, hol, _⟩ := id hl
  have hne : a ≠ s1.heap.objs.size := Nat.ne_of_lt (Heap.lt_size hol)
  refine RT.call_tuple_rev (s := { s1 with heap := s1.heap.push (revObj a ((its.toArray.size : Int) - 1)) }) (I1.ok.hd hc) ⟨_, Heap.get?_push_size _ rfl, rfl, rfl⟩ (hl.push _) hne (by rw [List.size_toArray, ← rv.length]; exact hz) fun h' tk acc hk hi => ?_
  have I3 : Inv X pins σ H1 { s1 with heap := h', toks := tk } := I2.turned (t' := tk) (fun b o hb e => hk b o hb e) f0 f1 f3 f4 f5
  have := laidN I3 (xs := xs.reverse) (its := acc.toList) (by rw [List.length_reverse]; exact hz) (RT.vals_rev rv hi)
  refine ⟨.ref h'.objs.size, _, ?_, rfl, q _ (tupO acc.toList) (I3.hok.fresh (Nat.le_refl _)) rfl⟩
  simpa using this
end
section
variable {prog : Program} {w : World} {A : Around} {E : Value → Shared → Prop} {s : Shared}
/-- a list is filled from a backward walk -/
theorem fill_rev {R : Result → Shared → Prop} {it l S : Addr} {items : Array Value} {c0 : Nat} {res : Value} (hh : A.handled = none) (hit : s.heap.IsRevIter it l ((items.size : Int) - 1)) (hl : s.heap.IsList l items) (hne : l ≠ it) (hn : items.size ≤ sizeLine)
    (hS : s.heap.get? S = some { cls := .type "list", data := .seq #[] c0 }) (hSi : S ≠ it) (hSl : S ≠ l)
    (hR : ∀ (h' : Heap) (tk c' : Nat) (acc : Array Value), (∀ b o, b ≠ it → b ≠ S → s.heap.get? b = some o → h'.get? b = some o) → h'.get? S = some { cls := .type "list", dict := none, data := .seq acc c', slots := #[] } →
      ItemsOf (fun i v => items[items.size - 1 - i]? = some v) acc items.size → R (.ok (.ret res)) { s with heap := h', toks := tk }) :
    wpAny (model prog w) A.in1 (Builtin.List.listExtendWith (.ref S) (.ref it) res)
      (fun f s' => match f with | .done f => R (.ok f) s' | .again c' => c'.quiet = true ∧ codeAny (model prog w) A c' R s') (fun e s' => R (.error e) s') s := by
  have W := (Walks.listRev (prog := prog) (w := w) (A := A.in1) hh it l hne items).toS
  have hSf : S ∉ [it, l] := fun hm => by
    rcases List.mem_cons.mp hm with e | hm
    · exact hSi e
    · exact hSl (List.mem_singleton.mp hm)
  have hT : s.TypeIs (.ref it) "list_reverseiterator" := hit.typeIs
  unfold Builtin.List.listExtendWith
  refine wpAny_bind (wpAny_typeOf hT ?_)
  rw [if_neg (by rw [show Builtin.List.listSameRef (.ref S) (.ref it) = false from by simp [Builtin.List.listSameRef, hSi]]; decide)]
  refine wpAny_bind (wpAny_pyIter_revIter hit ?_)
  refine wpAny_bind (wpAny_holding ?_)
  unfold Builtin.List.listLengthHint
  refine wpAny_bind (wpAny_specialOf hT RT.nolen_lri ?_)
  show wpAny _ A.in1 (specialOf (Value.ref it) (Str.ofString "__length_hint__") >>= _) _ _ _
  refine wpAny_bind (wpAny_specialOf hT RT.hint_lri ?_)
  generalize hid : ("list_reverseiterator.__length_hint__" : String) = id0
  wp_delta
  rw [show splitId id0 = some ("list_reverseiterator", "__length_hint__") from by subst hid; decide +kernel]
  subst hid
  refine wpAny_bind (wpAny_isInstance (b := true) hT (by rw [isSubtype_type]; kernel_rfl) ?_)
  refine wpAny_pure ?_
  rw [if_neg (by decide)]
  refine wpAny_pure ⟨plainId_quiet F.plain_extend_loop _, codeAny_extend_loopS W hn S hSf res items.size 0 _ _ _ rfl (Nat.zero_le _) ⟨Nat.zero_le _, by rw [show ((items.size : Nat) : Int) - 1 - ((0 : Nat) : Int) = (items.size : Int) - 1 from by omega]; exact hit, hl⟩ hS (ItemsOf.nil _) fun s' acc' c' hm hS' hacc => ?_⟩
  rw [Moved.eq_with hm]
  refine hR s'.heap s'.toks c' acc' (fun b o hb hb2 e => hm.heap b o (fun hmem => ?_) e) hS' hacc
  rcases List.mem_cons.mp hmem with e' | hmem
  · exact hb2 e'
  · exact hb (List.mem_singleton.mp hmem)
theorem call_list_rev {Q : Value → Shared → Prop} {it l : Addr} {items : Array Value} (hh : A.handled = none) (hit : s.heap.IsRevIter it l ((items.size : Int) - 1)) (hl : s.heap.IsList l items) (hne : l ≠ it) (hn : items.size ≤ sizeLine)
    (hQ : ∀ (h' : Heap) (tk c' : Nat) (acc : Array Value), (∀ b o, b ≠ it → s.heap.get? b = some o → h'.get? b = some o) → h'.get? s.heap.objs.size = some { cls := .type "list", dict := none, data := .seq acc c', slots := #[] } →
      ItemsOf (fun i v => items[items.size - 1 - i]? = some v) acc items.size → Q (.ref s.heap.objs.size) { s with heap := h', toks := tk }) :
    wpAny (model prog w) A (call (.type "list") [.ref it]) Q E s := by
  refine callType_codes (Q₁ := fun obj s₁ => obj = .ref s.heap.objs.size ∧ s₁ = { s with heap := s.heap.push { cls := .type "list", data := .seq #[] } }) F.called_list (F.typeCall_list_1 _) F.entry_list_init
    (code_list_new _ ⟨rfl, rfl⟩) fun obj s₁ h₁ => ?_
  obtain ⟨rfl, rfl⟩ := h₁
  obtain ⟨oi, hoi, _⟩ := id hit
  obtain ⟨ol, hol, _⟩ := id hl
  have hS : (s.heap.push { cls := .type "list", data := .seq #[] }).get? s.heap.objs.size = some { cls := .type "list", data := .seq #[] } := Heap.get?_push_size _ rfl
  have n1 : s.heap.objs.size ≠ it := Nat.ne_of_gt (Heap.lt_size hoi)
  have n2 : s.heap.objs.size ≠ l := Nat.ne_of_gt (Heap.lt_size hol)
  have hit1 : (s.heap.push { cls := .type "list", data := .seq #[] }).IsRevIter it l ((items.size : Int) - 1) := hit.at fun o e => Heap.get?_push_of_some _ e
  have hl1 : (s.heap.push { cls := .type "list", data := .seq #[] }).IsList l items := hl.push _
  refine ⟨⟨_, hS, rfl⟩, F.args_list_init_2 _ _, ?_⟩
  show wpAny _ _ (do let old ← Builtin.List.listItems (.ref s.heap.objs.size); Builtin.List.listUpdate (.ref s.heap.objs.size) (fun _ => #[]); letGo old.toList.reverse; Builtin.List.listExtendWith (.ref s.heap.objs.size) (.ref it) .none) _ _ _
  refine wpAny_bind ?_
  unfold Builtin.List.listItems
  refine wpAny_bind (wpAny_seqItems hS rfl (wpAny_pure ?_))
  show wpAny _ _ (updateSeq s.heap.objs.size (fun _ => #[]) >>= fun _ => letGo (#[] : Array Value).toList.reverse >>= fun _ => Builtin.List.listExtendWith (.ref s.heap.objs.size) (.ref it) .none) _ _ _
  refine wpAny_bind (wpAny_updateSeq hS rfl ?_)
  have hS2 := Heap.get?_update_self (Obj.mapSeq (fun _ => (#[] : Array Value))) hS rfl
  have oth : ∀ b o, b ≠ s.heap.objs.size → (s.heap.push { cls := .type "list", data := .seq #[] }).get? b = some o → ((s.heap.push { cls := .type "list", data := .seq #[] }).update s.heap.objs.size (Obj.mapSeq (fun _ => (#[] : Array Value)))).get? b = some o :=
    fun b o hb e => (Heap.get?_update_other _ _ (Ne.symm hb)).trans e
  refine wpAny_bind (wpAny_letGo ?_)
  obtain ⟨o1, e1, f1⟩ := id hit1
  obtain ⟨o2, e2, f2⟩ := id hl1
  refine fill_rev (A := A.in1) hh ⟨o1, oth it _ (Ne.symm n1) e1, f1⟩ ⟨o2, oth l _ (Ne.symm n2) e2, f2⟩ hne hn hS2 n1 n2 fun h' tk c' acc hk hS' hi => ?_
  refine ⟨rfl, hQ h' tk c' acc (fun b o hb e => ?_) hS' hi⟩
  have hbs : b ≠ s.heap.objs.size := Nat.ne_of_lt (Heap.lt_size e)
  exact hk b o hb hbs (oth b o hbs (Heap.get?_push_of_some _ e))
end
section
variable {X : Cx}
theorem pe_lstRevN {e : Expr} {te : TE} {p p2 pos pos2 : Pos} (hc : X.calm = true) (hg : Gl X "list") (hm : X.mg "list" = none) (hg2 : Gl X "reversed") (hm2 : X.mg "reversed" = none) (he : PE X e te)
    (hs : starEach [e] X.env = (false, eval e X.env) :: starEach [] X.env)
    (hs2 : starEach [.Call (.Name "reversed" p2) [e] [] pos2] X.env = (false, eval (.Call (.Name "reversed" p2) [e] [] pos2) X.env) :: starEach [] X.env := by rfl) :
    PE X (.Call (.Name "list" p) [.Call (.Name "reversed" p2) [e] [] pos2] [] pos) (fun σ H Q => te σ H fun v H1 => ∃ (a : Addr) (xs : List V), v = .ref a ∧ SqL X.K H1 a xs ∧ ∀ q : Addr, H1 q = none → Q (.ref q) (upd H1 q (.lst xs.reverse))) := by
  refine ⟨fun pins s σ H Q I h => ?_⟩
  refine Call_ (ld_blt I hg hm boot_list (PyProof.Rows.callWith_type1 (args_cons (Call_ (ld_blt I hg2 hm2 PyProof.Rows.boot_reversed (PyProof.Rows.callWith_type1 (args_cons (thn (he.run pins s σ H _ I h) fun u s1 ⟨v, H1, I1, r1, q1⟩ => args_nil ?_) hs) hs rfl))) hs2) hs2 rfl))
  obtain ⟨a, xs, ev, hq, q⟩ := q1
  subst ev
  obtain rfl : u = Value.ref a := r1
  obtain ⟨its, rv, p', hz⟩ := I1.list hq
  refine call_reversed_list p'.isList (args_nil ?_)
  have I2 : Inv X pins σ H1 { s1 with heap := s1.heap.push (revObj a ((its.toArray.size : Int) - 1)) } := I1.kept (t' := s1.toks) fun b o e => Heap.get?_push_of_some _ e
  have hl := p'.isList
  obtain ⟨ol, hol, _⟩ := id hl
  have hne : a ≠ s1.heap.objs.size := Nat.ne_of_lt (Heap.lt_size hol)
  have hz2 : (s1.heap.push (revObj a ((its.toArray.size : Int) - 1))).objs.size = s1.heap.objs.size + 1 := Heap.size_push ..
  refine call_list_rev (s := { s1 with heap := s1.heap.push (revObj a ((its.toArray.size : Int) - 1)) }) (I1.ok.hd hc) ⟨_, Heap.get?_push_size _ rfl, rfl, rfl⟩ (hl.push _) hne (by rw [List.size_toArray, ← rv.length]; exact hz) fun h' tk c' acc hk hS hi => ?_
  have k1 : ∀ b o, s1.heap.get? b = some o → h'.get? b = some o := fun b o e => hk b o (Nat.ne_of_lt (Heap.lt_size e)) (Heap.get?_push_of_some _ e)
  have hfr : H1 (s1.heap.push (revObj a ((its.toArray.size : Int) - 1))).objs.size = none := I2.hok.fresh (Nat.le_refl _)
  refine ⟨.ref _, _, I1.laid (t' := tk) k1 (by rw [hz2]; exact Nat.le_succ _) (show ObjOk X.prog X.w _ _ _ (.lst xs.reverse) from ⟨by rw [List.length_reverse]; exact hz, acc.toList, c', RT.vals_rev rv hi, by rw [Array.toArray_toList]; exact hS⟩), rfl, q _ hfr⟩
end
section
variable {X : Cx}
/-- t.m(e): a method of a tuple -/
def tBMN (K : PySem.W.Frag) (r : V → List V → Hp → VK → Prop) (to : TE) (t : TA) : TE := fun σ H Q => to σ H fun x H1 => (∃ p xs, x = .ref p ∧ SqN K H1 p xs) ∧ t σ H1 fun xs H2 => r x xs H2 Q
theorem pe_bmN {o e : Expr} {es : List Expr} {to : TE} {t : TA} {name : Str} {apos cpos : Pos} {id : String} {r : V → List V → Hp → VK → Prop} (pa : PlainAttrs "tuple") (slot : Slot "tuple" name id) (hty : typeOf (.builtin id) = pure (.type "method_descriptor")) (hm : MtR X id r) (ho : PE X o to) (ha : PA X (e :: es) t)
    (hbase : attributeBase o name X.env (eval o X.env) = eval o X.env)
    (hfew : ((backTo cpos (starEach (e :: es) X.env)).all (fun x => !x.1) && (backToKw cpos (keywordEach [] X.env)).all (fun x => x.1.isSome)
      && decide ((e :: es).length + ([] : List Keyword).length + (if ([] : List Keyword).isEmpty then 0 else 1) < 30)) = true)
    (hline : (apos.endLine == cpos.line) = true) (hs : starEach (e :: es) X.env = (false, eval e X.env) :: starEach es X.env) (hplain : (backTo cpos (starEach es X.env)).any (·.1) = false) :
    PE X (.Call (.Attribute o name apos) (e :: es) [] cpos) (tBMN X.K r to t) := by
  refine ⟨fun pins s σ H Q I h => ?_⟩
  refine wpAny_Call_method_late hbase hfew hline rfl (thn (ho.run pins s σ H _ I h) fun v s1 ⟨x, H1, I1, r1, ⟨p, xs, ex, hn⟩, q1⟩ => ?_)
  subst ex
  obtain rfl : v = Value.ref p := r1
  have hx : ∃ ob, s1.heap.get? p = some ob ∧ ob.cls = .type "tuple" ∧ ob.dict = none := by
    rcases hn with ⟨o, h, hd⟩ | ⟨o, its, n, hk, hcl, _, _, _, hd⟩
    · obtain ⟨e1, _, its, _, o', e2, hcl, _⟩ := I1.hok p _ h
      rw [e1] at e2; cases e2
      exact ⟨o, e1, hcl, hd⟩
    · exact ⟨o, I1.kIn p o hk, hcl, hd⟩
  obtain ⟨ob, e1, e2, e3⟩ := hx
  refine ⟨"tuple", id, pa, slot, hty, ⟨ob, e1, e2⟩, fun a ea => by cases ea; exact ⟨ob, e1, e3⟩, ?_⟩
  have hA := ha.run cpos pins s1 σ H1 _ I1 q1
  rw [hs] at hA ⊢
  refine Calls.callWith_builtin (by show (false || (backTo cpos (starEach es X.env)).any (·.1)) = false; rw [hplain] <;> rfl) (Calls.evalArgs_plain ?_)
  exact thn hA fun us s2 ⟨vs, H2, I2, r2, q2⟩ => hm pins s2 σ H2 (.ref p) vs (.ref p) us Q I2 rfl r2 q2
end
end M

set_option maxHeartbeats 4000000
namespace L2
open PySem PySem.Spec PyProof.Rows
/-- a fresh set -/
abbrev set0 (w : World) : Obj := { cls := .type "set", dict := none, data := .set #[] 0 (.fresh 0 0 (!w.params.followText "set-order")) }
section
variable {P : Program} {w : World} {A : Around} {E : Value → Shared → Prop} {s : Shared}
set_option maxHeartbeats 3200000 in
theorem set_of_lst {l : Addr} {items : Array Value} (ns : List Int) {Q : Value → Shared → Prop} (nh : A.handled = none) (il : s.heap.IsList l items) (ii : IntsAre items.toList ns) (bd : ns.length + 1 < scanBound)
    (h : ∀ (g : Heap) (tk c : Nat), SetR w g s.heap.objs.size (fun j => decide (j ∈ ns)) c → c ≤ ns.length → (∀ b o, s.heap.get? b = some o → g.get? b = some o) → Q (.ref s.heap.objs.size) { s with heap := g, toks := tk }) :
    wpAny (model P w) A (call (.type "set") [.ref l]) Q E s := by
  have sz : items.size = ns.length := by have q := IntsAre.length ii; rw [Array.length_toList] at q; exact q
  obtain ⟨c, tl, hmro⟩ := F.called_set.mro
  have hmade := F.called_set.made; have hsub := F.called_set.sub
  refine wpAny_call (codeAny_of_tree ?_)
  show wpAny _ _ (callAny (.type "set") _) _ _ _
  refine wpAny_pure ⟨Code.quiet_builtin _ (by decide +kernel), codeAny_builtin F.entry_type_call ?_⟩
  rw [Around.under_plain (weight_type_call_type "set" [.ref l] []) rfl]
  have h1 := F.called_set.notType; have h2 := F.called_set.canCreate; have hct := F.typeCall_set_1 (.ref l)
  repeat (any_goals (first | assumption | wp_step))
  refine codeAny_mono (code_set_led1 (.ref l) (E := E) (Q₁ := fun ob t => ob = .ref s.heap.objs.size ∧ t = { s with heap := s.heap.push (set0 w) }) ⟨rfl, rfl⟩) fun r t hr => ?_
  cases r with
  | error e => exact hr
  | ok fl =>
    cases fl with
    | ret ob =>
      obtain ⟨rfl, rfl⟩ := hr
      have at0 : (s.heap.push (set0 w)).get? s.heap.objs.size = some (set0 w) := Heap.get?_push_size _ rfl
      have hT : Shared.TypeIs { s with heap := s.heap.push (set0 w) } (.ref s.heap.objs.size) "set" := ⟨_, at0, rfl⟩
      have hli := F.called_set.init.lookup; have hbi := F.called_set.init.bind (.ref s.heap.objs.size)
      repeat (any_goals (first | assumption | wp_step))
      refine codeAny_mono (codeAny_call_builtin (R := wants (fun r t2 => r = .none ∧ ∃ g tk c, t2 = { s with heap := g, toks := tk } ∧ SetR w g s.heap.objs.size (fun j => decide (j ∈ ns)) c ∧ c ≤ ns.length ∧ (∀ b o, s.heap.get? b = some o → g.get? b = some o)) E) F.called_set.init.plain F.entry_set_init (check_set_init_1 hT ?_)) fun r2 t2 hr2 => ?_
      · obtain ⟨ol, hol, hcl, nl, hdl⟩ := il
        obtain ⟨ocls, odict, odata, oslots⟩ := ol
        simp only at hcl hdl
        subst hcl hdl
        have hol2 : (s.heap.push (set0 w)).get? l = some { cls := .type "list", dict := odict, data := .seq items nl, slots := oslots } := Heap.get?_push_of_some _ hol
        have k1 := F.sub_list_set; have k2 := F.sub_list_frozenset
        have k3 : (Value.type "list" == Value.type "dict") = false := by decide
        have il2 : (s.heap.push (set0 w)).IsList l items := ⟨_, hol2, rfl, nl, rfl⟩
        unfold Builtin.«set.__init__» noKeywords Builtin.Frozenset.updateFrom
        generalize ePI : pyIter = PI
        wp_walk
        subst ePI
        refine wpAny_pyIter_list il2 (wpAny_bind (wpAny_runValue ?_))
        have ltS : l < s.heap.objs.size := Heap.lt_size hol
        have nh3 : A.in1.in1.in1.handled = none := by simp [nh]
        have neI : l ≠ (s.heap.push (set0 w)).objs.size := by rw [Heap.size_push]; exact Nat.ne_of_lt (Nat.lt_succ_of_lt ltS)
        have out : s.heap.objs.size ∉ [(s.heap.push (set0 w)).objs.size, l] := by
          rw [Heap.size_push]; simp only [List.mem_cons, List.mem_singleton, List.not_mem_nil, or_false, not_or]
          exact ⟨Nat.ne_of_lt (Nat.lt_succ_self _), Nat.ne_of_gt ltS⟩
        have val : ∀ (i : Nat) (v : Value), items[i]? = some v → ∃ k t, ns[i]? = some k ∧ v = .int k t := fun i v hv => by
          have hi : i < ns.length := by rw [← sz]; exact (Array.getElem?_eq_some_iff.mp hv).1
          obtain ⟨t, e⟩ := PyProof.Rows.IntsAre.int_at ii i v (by rw [Array.getElem?_toList]; exact hv)
          exact ⟨ns[i], t, List.getElem?_eq_getElem hi, by rw [e, List.getD_eq_getElem?_getD, List.getElem?_eq_getElem hi] <;> rfl⟩
        refine set_update_ints ((Walks.list nh3 _ l neI items).toS) s.heap.objs.size out ns sz bd val (items.size - 0) 0 _ (by omega) (Nat.zero_le _) ⟨⟨_, Heap.get?_push_size _ rfl, rfl, rfl⟩, (il2.push _)⟩ ?hS0 ?hR
        case hS0 =>
          have at1 : ((s.heap.push (set0 w)).push { cls := .type "list_iterator", data := .fields #[.ref l, .int 0 0] }).get? s.heap.objs.size = some (set0 w) := Heap.get?_push_of_some _ at0
          exact ⟨0, Nat.le_refl 0, setR_new_at at1⟩
        case hR =>
          intro t3 c3 hm hc hS
          obtain ⟨g, g2, d2, tk, os2⟩ := t3
          have eg : g2 = s.gens := hm.gens; have ed : d2 = s.drawn := hm.drawn; have eo : os2 = s.os := hm.os
          subst eg ed eo
          show wpAny _ _ _ _ _ _
          refine wpAny_pure ?_
          show wpAny _ _ (ret Value.none) _ _ _
          rw [sz] at hc
          refine wpAny_pure ⟨rfl, g, tk, c3, rfl, hS, hc, fun b o e => ?_⟩
          have b0 : b < s.heap.objs.size := Heap.lt_size e
          have b1 : b ≠ s.heap.objs.size := Nat.ne_of_lt b0
          have b2 : b ≠ (s.heap.push (set0 w)).objs.size := by rw [Heap.size_push]; exact Nat.ne_of_lt (Nat.lt_succ_of_lt b0)
          exact hm.heap b o (by simp only [List.mem_cons, List.mem_singleton, List.not_mem_nil, or_false, not_or]; exact ⟨b1, b2⟩) (Heap.get?_push_of_some _ (Heap.get?_push_of_some _ e))
      · cases r2 with
        | error e => exact hr2
        | ok fl2 =>
          cases fl2 with
          | ret r =>
            obtain ⟨rfl, g, tk, c3, rfl, hS, hc, kp⟩ := hr2
            repeat (any_goals (first | assumption | wp_step))
            exact h _ _ _ hS hc kp
          | _ => exact hr2.elim
    | _ => exact hr.elim
end
section
variable {X : Cx}
def tSortSetL (K : PySem.W.Frag) (te : TE) : TE := fun σ H Q => te σ H fun v H1 => ∃ (a : Addr) (ns : List Int), v = .ref a ∧ SqL K H1 a (ns.map V.int) ∧ ns.length ≤ 1000 ∧
  ∀ (ns' : List Int) (p : Addr), ns'.Pairwise (· < ·) → (∀ k : Int, k ∈ ns' ↔ k ∈ ns) → H1 p = none → Q (.ref p) (upd H1 p (.lst (ns'.map V.int)))
theorem pe_sortSetL {e : Expr} {te : TE} {p p2 pos pos2 : Pos} (hc : X.calm = true) (hg : Gl X "sorted") (hm : X.mg "sorted" = none) (hg2 : Gl X "set") (hm2 : X.mg "set" = none) (he : PE X e te)
    (hs : starEach [e] X.env = (false, eval e X.env) :: starEach [] X.env := by rfl)
    (hs2 : starEach [.Call (.Name "set" p2) [e] [] pos2] X.env = (false, eval (.Call (.Name "set" p2) [e] [] pos2) X.env) :: starEach [] X.env := by rfl) :
    PE X (.Call (.Name "sorted" p) [.Call (.Name "set" p2) [e] [] pos2] [] pos) (tSortSetL X.K te) := by
  refine ⟨fun pins s σ H Q I h => ?_⟩
  refine Call_ (ld_blt I hg hm boot_sorted ?_)
  refine PyProof.Rows.callWith_builtin1 (PyProof.Rows.args_cons ?_ hs2) hs2 rfl
  refine Call_ (ld_blt I hg2 hm2 PyProof.Rows.boot_set ?_)
  refine PyProof.Rows.callWith_type1 (PyProof.Rows.args_cons (thn (he.run pins s σ H _ I h) fun u s1 ⟨v, H1, I1, r1, q1⟩ => PyProof.Rows.args_nil ?_) hs) hs rfl
  obtain ⟨a, ns, ev, hq, hl, q⟩ := q1
  subst ev
  obtain rfl : u = Value.ref a := r1
  obtain ⟨its, rv, pt, hz⟩ := I1.list hq
  have hi : IntsAre its.toArray.toList ns := ints_of_vals rv
  refine set_of_lst ns (I1.ok.hd hc) pt.isList hi (by unfold scanBound; omega) fun g tk c R hcn k => PyProof.Rows.args_nil ?_
  have I2 : Inv X pins σ H1 { s1 with heap := g, toks := tk } := I1.kept k
  exact sorted_setI I2 (I1.ok.hd hc) R (by rw [sizeLine_eq]; omega) fun ns' p h1 h2 hp => q ns' p h1 (fun k => by rw [h2 k, decide_eq_true_eq]) hp
end
end L2

set_option maxHeartbeats 4000000
namespace RT
open PySem PySem.Spec PyProof.Rows L2
theorem nolen_rt : typeLookup (.type "reversed") "__len__" = pure none := by rw [typeLookup_type, builtinLookup_eq_fast]; kernel_rfl
theorem hint_rt : typeLookup (.type "reversed") "__length_hint__" = pure (some (.builtin "reversed.__length_hint__")) := by rw [typeLookup_type, builtinLookup_eq_fast]; kernel_rfl
theorem slot_rt_hint : Slot "reversed" "__length_hint__" "reversed.__length_hint__" :=
  .of (owner := "reversed") (n := "__length_hint__") (by rw [typeLookup_type, builtinLookup_eq_fast]; kernel_rfl) (by decide +kernel) (by decide +kernel) (by decide +kernel)
    (by first | exact .inl (by decide +kernel) | exact .inr (by decide +kernel)) (by rw [isSubtype_type]; kernel_rfl)
theorem entry_rt_hint : entryFor table "reversed.__length_hint__" = some Builtin.«reversed.__length_hint__» := entryFor_of_tree (by kernel_rfl)
theorem args_rt_hint (a : Value) : argsOk "reversed.__length_hint__" ⟨[a], []⟩ := by
  unfold argsOk
  rw [signature?_of (id := "reversed.__length_hint__") (n := ['_', '_', 't', 'n', 'i', 'h', '_', 'h', 't', 'g', 'n', 'e', 'l', '_', '_']) (o := ['d', 'e', 's', 'r', 'e', 'v', 'e', 'r']) (by kernel_rfl) owner_rt]
  kernel_rfl
section
variable {prog : Program} {w : World} {A : Around} {E : Value → Shared → Prop} {s : Shared}
theorem lenhint_rt {it t : Addr} {items : Array Value} {Q : Bool → Shared → Prop} (at0 : IsRt s.heap it t ((items.size : Int) - 1)) (tp : IsTup s.heap t items) (sz : items.size ≤ sizeLine)
    (h : ∀ tk, Q (decide (items.size ≠ 0)) { s with toks := tk }) : wpAny (model prog w) A (Builtin.List.listLengthHint (.ref it)) Q E s := by
  obtain ⟨o, ho, hc, hd⟩ := id at0
  have hT : s.TypeIs (.ref it) "reversed" := at0.typeIs
  have sz2 := sz
  rw [sizeLine_eq] at sz2
  unfold Builtin.List.listLengthHint
  refine wpAny_bind (wpAny_specialOf hT nolen_rt ?_)
  show wpAny _ A (specialOf (Value.ref it) (Str.ofString "__length_hint__") >>= _) _ _ _
  refine wpAny_bind (wpAny_specialOf hT hint_rt ?_)
  generalize eid : ("reversed.__length_hint__" : String) = id0
  wp_delta
  rw [show splitId id0 = some ("reversed", "__length_hint__") from by subst eid; decide +kernel]
  subst eid
  refine wpAny_bind (wpAny_isInstance (b := true) hT (by rw [isSubtype_type]; kernel_rfl) ?_)
  rw [if_neg (by decide)]
  show wpAny _ _ (rule _ >>= _) _ _ _
  refine wpAny_bind (wpAny_rule ?_)
  rw [slot_rt_hint.bind (.ref it)]
  refine wpAny_bind (wpAny_pure ?_)
  try dsimp only
  refine wpAny_bind (wpAny_attempt ?_)
  refine wpAny_call_entry slot_rt_hint hT entry_rt_hint ?_ (args_rt_hint _)
  unfold Builtin.«reversed.__length_hint__»
  refine wpAny_bind (wpAny_of_eq (a := Value.ref it) (by first | rfl | kernel_rfl) ?_)
  refine wpAny_bind (wpAny_field ho hd (x := .ref t) rfl ?_)
  rw [if_neg (by simp)]
  refine wpAny_bind (len_tuple tp (by omega) ?_)
  refine wpAny_bind (wpAny_of_eq (a := some ((items.size : Nat) : Int)) rfl ?_)
  try dsimp only
  refine wpAny_bind (wpAny_field (s := { s with toks := s.toks + 1 + 1 }) ho hd (x := rawInt ((items.size : Int) - 1)) rfl ?_)
  show wpAny _ _ (if ((items.size : Nat) : Int) < ((items.size : Int) - 1) + 1 then _ else _) _ _ _
  rw [if_neg (by omega)]
  unfold retInt
  refine wpAny_bind (wpAny_mkInt (wpAny_pure ⟨_, rfl, ?_⟩))
  show wpAny _ _ (asInt? (.int ((items.size : Int) - 1 + 1) _) >>= _) _ _ _
  refine wpAny_bind (wpAny_of_eq (a := some ((items.size : Int) - 1 + 1)) rfl ?_)
  try dsimp only
  rw [if_neg (by simp [Builtin.List.listFitsIndex]; omega), if_neg (by omega), if_neg (by simp only [Builtin.List.listTooLong, decide_eq_true_eq]; omega)]
  refine wpAny_pure ?_
  have e : (((items.size : Int) - 1 + 1) != 0) = decide (items.size ≠ 0) := by
    rw [Bool.eq_iff_iff]; simp
  rw [e]
  exact h _
/-- the walk of reversed(a tuple) -/
theorem walk_rt (nh : A.handled = none) (I t : Addr) (ne : t ≠ I) (items : Array Value) (sz : items.size ≤ sizeLine) :
    Walks prog w A I [I, t] [I] items.size (fun i v => items[items.size - 1 - i]? = some v) (fun i h => i ≤ items.size ∧ IsRt h I t ((items.size : Int) - 1 - (i : Int)) ∧ IsTup h t items) where
  sub := fun b hb => by simp at hb; simp [hb]
  frame := fun _ _ _ x hk => ⟨x.1, x.2.1.at fun o e => hk I (by simp) o e, let ⟨o, ho, r⟩ := x.2.2; ⟨o, hk t (by simp) o ho, r⟩⟩
  item := fun i s Q E hi x hQ => by
    have e1 : (items.size : Int) - 1 - (i : Int) = ((items.size - 1 - i : Nat) : Int) := by omega
    have e2 : ((items.size - 1 - i : Nat) : Int) - 1 = (items.size : Int) - 1 - ((i + 1 : Nat) : Int) := by omega
    have at0 := x.2.1
    rw [e1] at at0
    have hx : items[items.size - 1 - i]? = some (items[items.size - 1 - i]'(by omega)) := Array.getElem?_eq_getElem (by omega)
    refine next_rt_item at0 x.2.2 hx sz fun g at1 sb => ?_
    rw [e2] at at1
    refine hQ _ g _ hx ⟨hi, at1, ?_⟩ fun b o hb eo => sb.extBut b o (fun h => hb (by simp [h])) eo
    obtain ⟨o, ho, r⟩ := x.2.2
    exact ⟨o, (sb.2 t ne).trans ho, r⟩
  done := fun s Q E x hQ => by
    have e1 : (items.size : Int) - 1 - (items.size : Int) = -1 := by omega
    have at0 := x.2.1
    rw [e1] at at0
    exact next_rt_end nh at0 fun g eb => hQ g s.toks fun b o hb eo => eb b o (fun h => hb (by simp [h])) eo
  self := fun _ _ _ _ x hQ => iter_rt x.2.1 hQ
theorem collect_rt {it t : Addr} {items : Array Value} {Q : List Value → Shared → Prop} (nh : A.handled = none) (at0 : IsRt s.heap it t ((items.size : Int) - 1)) (tp : IsTup s.heap t items) (ne : t ≠ it) (sz : items.size ≤ sizeLine)
    (h : ∀ (g : Heap) (tk : Nat) (acc : Array Value), (∀ b o, b ≠ it → s.heap.get? b = some o → g.get? b = some o) → ItemsOf (fun i v => items[items.size - 1 - i]? = some v) acc items.size → Q acc.toList { s with heap := g, toks := tk }) :
    wpAny (model prog w) A (collect (.ref it)) Q E s := by
  have W := (walk_rt (prog := prog) (w := w) (A := A.in1) nh it t ne items sz).toS
  obtain ⟨oi, hoi, _⟩ := id at0
  obtain ⟨ol, hol, _⟩ := id tp
  have n1 : s.heap.objs.size ≠ it := Nat.ne_of_gt (Heap.lt_size hoi)
  have n2 : s.heap.objs.size ≠ t := Nat.ne_of_gt (Heap.lt_size hol)
  have out : s.heap.objs.size ∉ [it, t] := by simp only [List.mem_cons, List.not_mem_nil, or_false, not_or]; exact ⟨n1, n2⟩
  unfold collect
  refine wpAny_bind (wpAny_runValue (codeAny_builtin F.entry_proto_collect ?_))
  rw [Around.under_plainId F.plain_proto_collect _]
  show wpAny _ A.in1 (newList [] >>= fun z => again (.builtin "list.__iadd__" ⟨[z, .ref it], []⟩)) _ _ s
  refine wpAny_bind (wpAny_newObj_type ?_)
  refine wpAny_pure ⟨plainId_quiet F.plain_list_iadd _, codeAny_builtin F.entry_list_iadd ?_⟩
  rw [Around.under_plainId F.plain_list_iadd _]
  have at1 : (s.heap.push { cls := .type "list", data := .seq ([] : List Value).toArray }).get? s.heap.objs.size = some { cls := .type "list", data := .seq ([] : List Value).toArray } := Heap.get?_push_size _ rfl
  have it1 : IsRt (s.heap.push { cls := .type "list", data := .seq ([] : List Value).toArray }) it t ((items.size : Int) - 1) := at0.at fun o e => Heap.get?_push_of_some _ e
  have tp1 : IsTup (s.heap.push { cls := .type "list", data := .seq ([] : List Value).toArray }) t items := let ⟨o, ho, r⟩ := tp; ⟨o, Heap.get?_push_of_some _ ho, r⟩
  have hT : ({ s with heap := s.heap.push { cls := .type "list", data := .seq ([] : List Value).toArray } } : Shared).TypeIs (.ref it) "reversed" := IsRt.typeIs (s := { s with heap := s.heap.push { cls := .type "list", data := .seq ([] : List Value).toArray } }) it1
  have h1 : Builtin.List.listSameRef (.ref s.heap.objs.size) (.ref it) = false := by simp [Builtin.List.listSameRef, n1]
  show wpAny _ A.in1 (Builtin.List.listExtendWith (.ref s.heap.objs.size) (.ref it) (.ref s.heap.objs.size)) _ _ _
  unfold Builtin.List.listExtendWith
  refine wpAny_bind (wpAny_typeOf hT ?_)
  rw [if_neg (by rw [h1]; decide)]
  refine wpAny_bind (iter_rt (s := { s with heap := s.heap.push { cls := .type "list", data := .seq ([] : List Value).toArray } }) it1 ?_)
  refine wpAny_bind (wpAny_holding (lenhint_rt it1 tp1 sz fun tk0 => ?_))
  generalize hR : (fun (f : Fin) (s' : Shared) => _ : Fin → Shared → Prop) = R
  have go : ∀ (g : Heap) (c tk : Nat), (∀ b o, b ≠ s.heap.objs.size → (s.heap.push { cls := .type "list", data := .seq ([] : List Value).toArray }).get? b = some o → g.get? b = some o) → g.get? s.heap.objs.size = some { cls := .type "list", dict := none, data := .seq #[] c, slots := #[] } →
      wpAny (model prog w) A.in1 (again (.builtin "list.extend.loop" ⟨[.ref s.heap.objs.size, .ref it, .ref s.heap.objs.size], []⟩)) R E { s with heap := g, toks := tk } := fun g c tk kp at2 => by
    subst hR
    have e0 : ((items.size : Nat) : Int) - 1 - ((0 : Nat) : Int) = (items.size : Int) - 1 := by omega
    have it2 : IsRt g it t ((items.size : Int) - 1) := it1.at fun o e => kp _ o (fun z => n1 z.symm) e
    have tp2 : IsTup g t items := let ⟨o, ho, r⟩ := tp1; ⟨o, kp _ o (fun z => n2 z.symm) ho, r⟩
    refine wpAny_pure ⟨plainId_quiet F.plain_extend_loop _, codeAny_extend_loopS W sz _ out _ items.size 0 _ _ _ rfl (Nat.zero_le _) ⟨Nat.zero_le _, by rw [e0]; exact it2, tp2⟩ at2 (ItemsOf.nil _) fun s2 acc c2 hm at3 ac => ?_⟩
    show wpAny _ A (load s.heap.objs.size >>= _) _ _ s2
    refine wpAny_bind (wpAny_load at3 (wpAny_pure ?_))
    rw [Moved.eq_with hm]
    refine h s2.heap s2.toks acc (fun b o hb e => ?_) ac
    have nb : b ≠ s.heap.objs.size := fun z => absurd (Heap.lt_size e) (by rw [z]; exact Nat.lt_irrefl _)
    refine hm.heap b o (fun hmem => ?_) (kp b o nb (Heap.get?_push_of_some _ e))
    rcases List.mem_cons.mp hmem with z | z
    · exact nb z
    · exact hb (List.mem_singleton.mp z)
  by_cases c : items.size ≠ 0
  · rw [decide_eq_true c]
    show wpAny _ A.in1 (rule "list.extend.makes-room" >>= fun _ => Builtin.List.listTouch (.ref s.heap.objs.size) >>= fun _ => again (.builtin "list.extend.loop" ⟨[.ref s.heap.objs.size, .ref it, .ref s.heap.objs.size], []⟩)) _ _ _
    refine wpAny_bind (wpAny_rule (wpAny_bind ?_))
    show wpAny _ A.in1 (updateSeq s.heap.objs.size (·.push .none) >>= fun _ => updateSeq s.heap.objs.size (·.pop)) _ _ _
    refine wpAny_bind (wpAny_updateSeq (s := { s with heap := s.heap.push { cls := .type "list", data := .seq ([] : List Value).toArray }, toks := tk0 }) at1 rfl ?_)
    have at2 := Heap.get?_update_self (Obj.mapSeq (·.push Value.none)) at1 rfl
    refine wpAny_updateSeq (s := { s with heap := (s.heap.push { cls := .type "list", data := .seq ([] : List Value).toArray }).update s.heap.objs.size (Obj.mapSeq (·.push Value.none)), toks := tk0 }) at2 rfl ?_
    have at3 := Heap.get?_update_self (Obj.mapSeq (·.pop)) at2 rfl
    exact go _ _ tk0 (fun b o hb e => (Heap.get?_update_other _ _ (Ne.symm hb)).trans ((Heap.get?_update_other _ _ (Ne.symm hb)).trans e)) at3
  · rw [decide_eq_false c]
    rw [if_neg (by decide)]
    exact go _ _ tk0 (fun b o _ e => e) at1
theorem new_rt {it t : Addr} {items : Array Value} {Q₁ : Value → Shared → Prop} (nh : A.handled = none) (at0 : IsRt s.heap it t ((items.size : Int) - 1)) (tp : IsTup s.heap t items) (ne : t ≠ it) (sz : items.size ≤ sizeLine)
    (h : ∀ (g : Heap) (tk : Nat) (acc : Array Value), (∀ b o, b ≠ it → s.heap.get? b = some o → g.get? b = some o) → ItemsOf (fun i v => items[items.size - 1 - i]? = some v) acc items.size → Q₁ (.ref g.objs.size) { s with heap := g.push { cls := .type "tuple", data := .seq acc }, toks := tk }) :
    codeAny (model prog w) A (.call (.builtin "tuple.__new__") ⟨[.type "tuple", .ref it], []⟩) (wants Q₁ E) s := by
  refine codeAny_of_tree ?_
  show wpAny _ A.in1 (do checkBuiltinCall "tuple.__new__" ⟨[.type "tuple", .ref it], []⟩; again (.builtin "tuple.__new__" ⟨[.type "tuple", .ref it], []⟩)) _ _ s
  refine wpAny_bind (wpAny_of_eq (F.newCall_tuple_1 _) (wpAny_pure ⟨plainId_quiet F.plain_tuple_new _, codeAny_builtin F.entry_tuple_new ?_⟩))
  rw [Around.under_plainId F.plain_tuple_new _]
  have hsub := sub_tuple_self; have hinit := init_tuple_lookup; have hmh := madeHere_tuple
  have hTI : s.TypeIs (.ref it) "reversed" := at0.typeIs
  have nh1 : A.in1.handled = none := nh
  wp_walk using wpAny_typeOf hTI, collect_rt (A := A.in1) nh1 at0 tp ne sz
  intro g tk acc kp ac
  show wpAny _ _ (Builtin.Tuple.tupleExact acc.toList.toArray >>= fun v => ret v) _ _ _
  unfold Builtin.Tuple.tupleExact
  refine wpAny_bind (wpAny_newObj_type (wpAny_pure ?_) (by show acc.toList.toArray.size ≤ sizeLine; simp only [Array.toArray_toList]; rw [ac.1]; exact sz))
  have e : acc.toList.toArray = acc := by simp
  rw [e]
  exact h g tk acc kp ac
theorem tuple_rt {it t : Addr} {items : Array Value} {Q : Value → Shared → Prop} (nh : A.handled = none) (at0 : IsRt s.heap it t ((items.size : Int) - 1)) (tp : IsTup s.heap t items) (ne : t ≠ it) (sz : items.size ≤ sizeLine)
    (h : ∀ (g : Heap) (tk : Nat) (acc : Array Value), (∀ b o, b ≠ it → s.heap.get? b = some o → g.get? b = some o) → ItemsOf (fun i v => items[items.size - 1 - i]? = some v) acc items.size → Q (.ref g.objs.size) { s with heap := g.push { cls := .type "tuple", data := .seq acc }, toks := tk }) :
    wpAny (model prog w) A (call (.type "tuple") [.ref it]) Q E s := by
  refine callType_codes (Q₁ := fun ob t1 => t1.TypeIs ob "tuple" ∧ Q ob t1) F.called_tuple (F.typeCall_tuple_1 _) F.entry_object_init (new_rt (A := A.in1) nh at0 tp ne sz fun g tk acc kp ac => ⟨⟨_, Heap.get?_push_size _ rfl, rfl⟩, h g tk acc kp ac⟩) fun ob t1 z => ?_
  exact ⟨z.1, F.args_object_init_2 ob _, object_init_meets F.called_tuple.init.lookup F.called_tuple.made (by decide) prog w A.in1 _ t1 ⟨z.1, rfl, z.2⟩⟩
end
end RT
namespace M
open PySem PySem.Spec PyProof.Rows L2
section
variable {X : Cx}
theorem pe_tupRevT {e : Expr} {te : TE} {p p2 pos pos2 : Pos} (hc : X.calm = true) (hg : Gl X "tuple") (hm : X.mg "tuple" = none) (hg2 : Gl X "reversed") (hm2 : X.mg "reversed" = none) (he : PE X e te)
    (hs : starEach [e] X.env = (false, eval e X.env) :: starEach [] X.env)
    (hs2 : starEach [.Call (.Name "reversed" p2) [e] [] pos2] X.env = (false, eval (.Call (.Name "reversed" p2) [e] [] pos2) X.env) :: starEach [] X.env := by rfl) :
    PE X (.Call (.Name "tuple" p) [.Call (.Name "reversed" p2) [e] [] pos2] [] pos) (fun σ H Q => te σ H fun v H1 => ∃ (a : Addr) (xs : List V), v = .ref a ∧ SqT X.K H1 a xs ∧ ∀ (q : Addr) (o : Obj), H1 q = none → o.dict = none → Q (.ref q) (upd H1 q (.frz o (.tup xs.reverse)))) := by
  refine ⟨fun pins s σ H Q I h => ?_⟩
  refine Call_ (ld_blt I hg hm boot_tuple (PyProof.Rows.callWith_type1 (args_cons (Call_ (ld_blt I hg2 hm2 PyProof.Rows.boot_reversed (PyProof.Rows.callWith_type1 (args_cons (thn (he.run pins s σ H _ I h) fun u s1 ⟨v, H1, I1, r1, q1⟩ => args_nil ?_) hs) hs rfl))) hs2) hs2 rfl))
  obtain ⟨a, xs, ev, hq, q⟩ := q1
  subst ev
  obtain rfl : u = Value.ref a := r1
  obtain ⟨its, rv, pt, hz⟩ := I1.tuple hq
  have sz : its.toArray.size ≤ sizeLine := by rw [List.size_toArray, ← rv.length]; exact hz
  have sz2 := sz
  rw [sizeLine_eq] at sz2
  refine RT.call_reversed_tup pt (fun A E Q k => len_tuple pt (by omega) k) (args_nil ?_)
  have I2 : Inv X pins σ H1 { s1 with heap := s1.heap.push (RT.rtObj a ((its.toArray.size : Int) - 1)), toks := s1.toks + 1 + 1 } := I1.kept fun b o e => Heap.get?_push_of_some _ e
  obtain ⟨f0, f1, f2, f3, f4, f5⟩ := I1.fpOk (H' := H1) (b := s1.heap.objs.size) (Nat.le_refl _) (I1.hok.fresh (Nat.le_refl _))
  obtain ⟨ot, hot, rt⟩ := id pt
  have hne : a ≠ s1.heap.objs.size := Nat.ne_of_lt (Heap.lt_size hot)
  refine RT.tuple_rt (s := { s1 with heap := s1.heap.push (RT.rtObj a ((its.toArray.size : Int) - 1)), toks := s1.toks + 1 + 1 }) (I1.ok.hd hc) ⟨_, Heap.get?_push_size _ rfl, rfl, rfl⟩ ⟨ot, Heap.get?_push_of_some _ hot, rt⟩ hne sz fun g tk acc hk hi => ?_
  have I3 : Inv X pins σ H1 { s1 with heap := g, toks := tk } := I2.turned (t' := tk) (fun b o hb e => hk b o hb e) f0 f1 f3 f4 f5
  have := laidN I3 (xs := xs.reverse) (its := acc.toList) (by rw [List.length_reverse]; exact hz) (RT.vals_rev rv hi)
  refine ⟨.ref g.objs.size, _, ?_, rfl, q _ (tupO acc.toList) (I3.hok.fresh (Nat.le_refl _)) rfl⟩
  simpa using this
end
end M

set_option maxHeartbeats 1000000
namespace M
open PySem PySem.Spec PyProof.Rows L2 HT
section
variable {prog : Program} {w : World} {A : Around} {E : Value → Shared → Prop} {s : Shared}
theorem sliceApplied_rev {sl : Addr} {vl vu vs : Value} {n : Nat} {Q : Int × Int × Nat → Shared → Prop} (hs : s.heap.IsSliceOf sl vl vu vs) (pl : IsPart vl none) (pu : IsPart vu none) (ps : IsPart vs (some (-1)))
    (h : Q ((n : Int) - 1, -1, n) s) : wpAny (model prog w) A (Builtin.Slice.sliceApplied (.ref sl) (pure (n : Int))) Q E s := by
  obtain ⟨os, hos, hcs, hds⟩ := id hs
  unfold Builtin.Slice.sliceApplied Builtin.Slice.sliceFields
  refine wpAny_bind (wpAny_bind (wpAny_field hos hds (x := vl) rfl (wpAny_bind (wpAny_field hos hds (x := vu) rfl (wpAny_bind (wpAny_field hos hds (x := vs) rfl (wpAny_pure ?_)))))))
  refine wpAny_bind (slicePart_ ps ?_)
  show wpAny _ _ (if ((-1 : Int) == 0) = true then _ else _) _ _ s
  rw [if_neg (by decide)]
  refine wpAny_bind (slicePart_ pl (wpAny_bind (slicePart_ pu (wpAny_bind (wpAny_pure ?_)))))
  show wpAny _ _ (pure ((n : Int) - 1, (-1 : Int), Builtin.Slice.slicePlaces ((n : Int) - 1) (-1) (-1))) _ _ s
  have e : Builtin.Slice.slicePlaces ((n : Int) - 1) (-1) (-1) = n := by
    unfold Builtin.Slice.slicePlaces
    rw [if_neg (by decide)]
    split
    · rw [show -(-1 : Int) = 1 from rfl, Int.ediv_one]; omega
    · omega
  rw [e]
  exact wpAny_pure h
theorem pick_rev (xs : Array Value) : ((List.range xs.size).filterMap fun (m : Nat) => xs[((xs.size : Int) - 1 + (m : Int) * (-1)).toNat]?).toArray = xs.toList.reverse.toArray := by
  congr 1
  have e : ∀ k, k ≤ xs.size → (List.range k).filterMap (fun (m : Nat) => xs[((xs.size : Int) - 1 + (m : Int) * (-1)).toNat]?) = xs.toList.reverse.take k := by
    intro k
    induction k with
    | zero => intro _; rfl
    | succ k ih =>
      intro hk
      rw [List.range_succ, List.filterMap_append, ih (by omega), List.take_add_one]
      congr 1
      have e1 : ((xs.size : Int) - 1 + (k : Int) * (-1)).toNat = xs.size - 1 - k := by omega
      have e2 : xs[xs.size - 1 - k]? = some xs[xs.size - 1 - k] := by simp
      rw [List.getElem?_reverse (by rw [Array.length_toList]; omega)]
      simp only [List.filterMap_cons, List.filterMap_nil, e1, e2, Array.length_toList]
      rw [Array.getElem?_toList, e2]; rfl
  rw [e _ (Nat.le_refl _), List.take_of_length_le (by simp)]
theorem getItem_tuple_rev {t sl : Addr} {items : Array Value} {vl vu vs : Value} {Q : Value → Shared → Prop} (ht : IsTup s.heap t items) (hs : s.heap.IsSliceOf sl vl vu vs) (pl : IsPart vl none) (pu : IsPart vu none) (ps : IsPart vs (some (-1)))
    (h : Q (.ref s.heap.objs.size) { s with heap := s.heap.push { cls := .type "tuple", data := .seq items.toList.reverse.toArray } })
    (hsz : items.size ≤ sizeLine) : wpAny (model prog w) A (getItem (.ref t) (.ref sl)) Q E s := by
  have htake : sizeOk (.seq items.toList.reverse.toArray) := by
    show items.toList.reverse.toArray.size ≤ sizeLine
    rw [List.size_toArray, List.length_reverse, Array.length_toList]
    exact hsz
  obtain ⟨os, hos, hcs, hds⟩ := id hs
  have hTs : s.TypeIs (.ref sl) "slice" := ⟨os, hos, hcs⟩
  unfold getItem
  try with_reducible refine wpAny_holding ?_
  first | refine wpAny_bind (wpAny_pure ?_) | skip
  refine wpAny_bind (wpAny_sequenceKey ht.typeIs (by decide) ?_)
  refine wpAny_bind (wpAny_callSpecial?_slot (name := Str.ofString "__getitem__") ht.typeIs PyProof.Rows.slot_tuple_getitem
    (wpAny_call_entry PyProof.Rows.slot_tuple_getitem ht.typeIs entry_tuple_getitem ?_ (args_tuple_getitem _ _)))
  show wpAny _ _ (Builtin.Tuple.tupleItemsOf (.ref t) >>= _) _ _ s
  refine wpAny_bind (tupleItemsOf_ ht ?_)
  refine wpAny_bind (wpAny_typeOf hTs ?_)
  rw [if_pos (by decide)]
  refine wpAny_bind (sliceApplied_rev hs pl pu ps ?_)
  show wpAny _ _ (if ((((items.size : Nat) : Int) - 1) == 0 && (-1 : Int) == 1 && items.size == items.size) = true then _ else _) _ _ s
  rw [if_neg (by simp), pick_rev]
  first
    | exact wpAny_bind (m := Builtin.Tuple.tupleExact _) (wpAny_newObj_type (wpAny_pure ⟨_, rfl, wpAny_pure h⟩) htake)
    | exact wpAny_bind (m := Builtin.Tuple.tupleExact _) (wpAny_newObj_type (wpAny_bind (wpAny_pure (wpAny_pure ⟨_, rfl, wpAny_pure h⟩))) htake)
    | exact wpAny_bind (wpAny_bind (m := Builtin.Tuple.tupleExact _) (wpAny_newObj_type (wpAny_pure (wpAny_pure ⟨_, rfl, wpAny_pure h⟩)) htake))
    | exact wpAny_bind (wpAny_bind (m := Builtin.Tuple.tupleExact _) (wpAny_newObj_type (wpAny_pure ⟨_, rfl, wpAny_pure h⟩) htake))
end
section
variable {X : Cx}
def tRevT (K : PySem.W.Frag) (te : TE) : TE := fun σ H Q => te σ H fun x H1 => ∃ a xs, x = .ref a ∧ SqT K H1 a xs ∧ ∀ (p : Addr) (o : Obj), H1 p = none → o.dict = none → Q (.ref p) (upd H1 p (.frz o (.tup xs.reverse)))
theorem pe_revT {e : Expr} {te : TE} {k : Nat} {p1 p2 p3 pos : Pos} (he : PE X e te) : PE X (.Subscript e (.Slice none none (some (.UnaryOp .USub (.Constant (.int 1) k p1) p2)) p3) pos) (tRevT X.K te) := by
  refine ⟨fun pins s σ H Q I h => ?_⟩
  refine Subscript_ (thn (he.run pins s σ H _ I h) fun v s1 ⟨x, H1, I1, r1, q1⟩ => ?_)
  obtain ⟨a, xs, ex, hx, q⟩ := q1
  subst ex
  cases r1
  have hst : PO X (some (.UnaryOp .USub (.Constant (.int 1) k p1) p2)) (tPart (tUn (rU fun i => .int (-i)) (tC (.int 1)))) := po_some (pe_un un_neg pe_int)
  refine wpAny_Slice (thn (po_none.run pins s1 σ H1 (fun o H2 => o = none ∧ H2 = H1) I1 ⟨rfl, rfl⟩) fun vl s2 ⟨l, H2, I2, pl, el, e2⟩ => ?_)
  subst el e2
  refine thn (po_none.run pins s2 σ H2 (fun o H3 => o = none ∧ H3 = H2) I2 ⟨rfl, rfl⟩) fun vu s3 ⟨u, H3, I3, pu, eu, e3⟩ => ?_
  subst eu e3
  refine thn (hst.run pins s3 σ H3 (fun o H4 => o = some (-1) ∧ H4 = H3) I3 ⟨1, rfl, -1, rfl, rfl, rfl⟩) fun vs s4 ⟨o, H4, I4, ps, eo, e4⟩ => ?_
  subst eo e4
  have I5 : Inv X pins σ H4 { s4 with heap := s4.heap.push { cls := .type "slice", data := .fields #[vl, vu, vs] } } := I4.kept (t' := s4.toks) fun b ob q => Heap.get?_push_of_some _ q
  obtain ⟨its, r, ht, hz⟩ := I5.tuple hx
  have hlen : its.toArray.size = xs.length := by rw [List.size_toArray]; exact r.length.symm
  show wpAny (model X.prog X.w) X.A (subscriptTail e (.Slice none none (some (.UnaryOp .USub (.Constant (.int 1) k p1) p2)) p3) (.ref a) (.ref s4.heap.objs.size)) (EP X pins σ Q) X.xe { s4 with heap := s4.heap.push { cls := .type "slice", data := .fields #[vl, vu, vs] } }
  refine tail_any (ops := [.ref a, .ref s4.heap.objs.size]) ht.typeIs PyProof.Rows.slot_tuple_getitem.lookup ?_ (by with_unfolding_all rfl)
  refine getItem_tuple_rev ht (Heap.IsSliceOf.new _ vl vu vs) pl pu ps ?_ (by rw [hlen]; exact hz)
  exact ⟨.ref _, _, laidN I5 (by rw [List.length_reverse]; exact hz) r.reverse, rfl, q _ _ (I5.hok.fresh (Nat.le_refl _)) rfl⟩
def tDispT (tk tv : TE) : TE := fun σ H Q => ∀ p, H p = none → tk σ (upd H p (.dT [])) fun x H1 => tv σ H1 fun y H2 => H2 p = some (.dT []) ∧ ∃ (ks : List Key) (b : Addr), x = .ref b ∧ H2 b = some (.tup (ks.map kV)) ∧ Q (.ref p) (upd H2 p (.dT [(ks, y)]))
theorem pe_dispT {k v : Expr} {tk tv : TE} {pos : Pos} (hu : X.A.units + 1 < cLine) (hk : PE X k tk) (hv : PE X v tv) : PE X (.Dict [some k] [v] pos) (tDispT tk tv) := by
  refine ⟨fun pins s σ H Q I q => ?_⟩
  have hn := I.hok.fresh (Nat.le_refl s.heap.objs.size)
  have I1 := I.laid (a := s.heap.objs.size) (o := .dT []) (h' := s.heap.push { cls := .type "dict", data := .dict #[] }) (t' := s.toks) (fun _ _ q => Heap.get?_push_of_some _ q) (Nat.le_refl _) (dt_empty s.heap I.big)
  have hpn := pairTrees_length [some k] [v] X.env pos rfl rfl
  rw [arm_eval_Dict, zip_pairTrees [some k] [v] X.env pos rfl rfl, dictDisplay_pairs _ (fun e => by rw [e] at hpn; cases hpn) (by rw [hpn]; simp)]
  refine wpAny_bind (wpAny_standAt (wpAny_bind (wpAny_subDictH (knd := tupleKind (mixKind X.prog X.w)) (Q := fun d s' => wpAny (model X.prog X.w) X.A (pure (Value.ref d)) (EP X pins σ Q) X.xe s') (by show X.A.units < cLine; omega) (by rw [hpn]; simp) ?_)))
  let R : List (V × V) → Hp → Prop := fun ps H2 => match ps with
    | [(x, y)] => H2 s.heap.objs.size = some (.dT []) ∧ ∃ (ks : List Key) (b : Addr), x = .ref b ∧ H2 b = some (.tup (ks.map kV)) ∧ Q (.ref s.heap.objs.size) (upd H2 s.heap.objs.size (.dT [(ks, y)]))
    | _ => False
  refine thn ((pps_cons hk hv pps_nil).run pins _ σ _ R I1 (q _ hn)) fun ws s2 ⟨ps, H2, I2, rel, q2⟩ => ?_
  match ps, q2 with
  | [(x, y)], q2 =>
  obtain ⟨e, ks, b, rfl, eb, q2⟩ := q2
  cases rel with
  | @cons pa wv pas ws h t =>
  cases t
  obtain ⟨kv, vv⟩ := wv
  obtain ⟨h1, h2⟩ := h
  obtain rfl : kv = Value.ref b := h1
  obtain ⟨z, hd, xs, rel, dd⟩ := dt_of I2.hok e
  cases rel
  refine ⟨[(ks, b, vv)], ⟨rfl, rfl, key_of I2.hok eb, trivial⟩, dd, fun h' tk dd' hs => wpAny_pure ⟨.ref s.heap.objs.size, _, ?_, rfl, q2⟩⟩
  obtain ⟨q, es, ep, hq, h2', h3, h4, _, h5⟩ := dd'
  have wr := d_write (ob := .dT [(ks, y)]) (t' := tk) I2 (by rw [e]; exact True.intro) hs ⟨q, hq⟩ ⟨show 1 ≤ sizeLine from by decide, hd, [(ks, b, vv)], ?_, q, es, ep, hq, h2', h3, h4, h5⟩
  · exact wr
  · refine .cons ⟨rfl, ?_, h2⟩ .nil
    rw [upd_ne (ne_of eb e (fun z => nomatch z))]
    exact eb
end
def tChain3 (r r' r'' : R2) (ta tb tc td : TE) : TT := fun σ H Q => ta σ H fun x H1 => tb σ H1 fun y H2 => r x y H2 fun z H3 => ∃ k, z = .bl k ∧
  (if k = true then tc σ H3 fun w' H4 => r' y w' H4 fun z' H5 => ∃ k', z' = .bl k' ∧
    (if k' = true then td σ H5 fun u' H6 => r'' w' u' H6 fun z'' H7 => ∃ k'', z'' = .bl k'' ∧ Q k'' H7 else Q false H5) else Q false H3)
theorem pt_chain3 {X : Cx} {a b c d : Expr} {ta tb tc td : TE} {pos : Pos} {op op' op'' : CmpOp} {r r' r'' : R2} (ho : OpR X (compareOp op) r) (ho' : OpR X (compareOp op') r') (ho'' : OpR X (compareOp op'') r'') (ha : PE X a ta) (hb : PE X b tb) (hc : PE X c tc) (hd : PE X d td)
    (hm : lastMarks [op, op', op''] [b, c, d] = false) : PT X (.Compare a [op, op', op''] [b, c, d] pos) (tChain3 r r' r'' ta tb tc td) := by
  refine ⟨fun pins s σ H Q I h => ?_⟩
  refine isTrue_chain (thn (ha.run pins s σ H _ I h) fun v s1 ⟨x, H1, I1, r1, q1⟩ => test_link (thn (hb.run pins s1 σ H1 _ I1 q1) fun u s2 ⟨y, H2, I2, r2, q2⟩ =>
    thn (ho pins s2 σ H2 x y v u _ I2 r1 r2 q2) fun d s3 ⟨z, H3, I3, r3, k, e, q3⟩ => ?_)) hm
  subst e
  cases r3
  refine wpAny_truthy_bool ?_
  cases k with
  | false => exact ite_ff ⟨H3, I3, q3⟩
  | true =>
    refine ite_tt (test_link (thn (hc.run pins s3 σ H3 _ I3 q3) fun w' s4 ⟨z', H4, I4, r4, q4⟩ => thn (ho' pins s4 σ H4 y z' u w' _ I4 r2 r4 q4) fun d' s5 ⟨z2, H5, I5, r5, k2, e2, q5⟩ => ?_))
    subst e2
    cases r5
    refine wpAny_truthy_bool ?_
    cases k2 with
    | false => exact ite_ff ⟨H5, I5, q5⟩
    | true =>
      refine ite_tt (test_last (thn (hd.run pins s5 σ H5 _ I5 q5) fun w2 s6 ⟨z3, H6, I6, r6, q6⟩ => thn (ho'' pins s6 σ H6 z' z3 w' w2 _ I6 r4 r6 q6) fun d2 s7 ⟨z4, H7, I7, r7, k3, e3, q7⟩ => ?_))
      subst e3
      cases r7
      exact wpAny_truthy_bool ⟨H7, I7, q7⟩
/-- o.f = .. -/
def gFld (K : PySem.W.Frag) (ta : TE) (f : Str) : TG := fun v σ H Q => ta σ H fun x H1 => ∃ a C dx fs, x = .ref a ∧ H1 a = some (.ins C dx fs) ∧ Cls K C ∧ NoAttr K C f ∧ fs.length < 1000 ∧ Q σ (upd H1 a (.ins C dx (putF f v fs)))
theorem pg_fld {X : Cx} {o : Expr} {f : Str} {pos : Pos} {ta : TE} (ha : PE X o ta) : PG X (.Attribute o f pos) (gFld X.K ta f) := by
  refine ⟨fun pins s σ H v u Q I r h => ?_⟩
  refine PySem.W.kas_attr (thn (ha.run pins s σ H _ I h) fun ov s1 ⟨x, H1, I1, rx, a, C, dx, fs, ex, ea, c, n, l, q⟩ => ?_)
  subst ex
  obtain rfl : ov = Value.ref a := rx
  exact setattr_ok I1 ea c n l r fun s3 I3 => ⟨σ, _, I3, q⟩
/-- o[i] of a list -/
def rGetL (K : PySem.W.Frag) : V → V → Hp → VK → Prop := fun o i H Q => ∃ p xs k j x, o = .ref p ∧ i = .int k ∧ SqL K H p xs ∧ ixN xs.length k = some j ∧ xs[j]? = some x ∧ Q x H
theorem get_list {X : Cx} : PGet X (rGetL X.K) := by
  intro pins s σ H o i ov iv Q I ro ri h
  obtain ⟨p, xs, k, j, x, rfl, rfl, hp, hj, hx, q⟩ := h
  cases ro
  obtain ⟨t, rfl⟩ := ri
  obtain ⟨its, r, pl, hz⟩ := I.list hp
  obtain ⟨h1, h2, h3, h4⟩ := ixN_seq hj
  have hl := r.length
  have hn := line63
  obtain ⟨u, hu, ru⟩ := r.get hx
  by_cases h0 : 0 ≤ k
  · have hk : k.toNat = j := by
      rw [PySem.seqIndex_of h0 h4] at h1
      exact Option.some.inj h1
    exact wpAny_getItem_list pl.isList h0 (by omega) (x := u) (by rw [hk]; simpa using hu) ⟨x, H, I, ru, q⟩
  · have hk : (k + (its.toArray.size : Int)).toNat = j := by
      rw [PySem.seqIndex_neg (by omega) h3] at h1
      rw [List.size_toArray, ← hl]
      exact Option.some.inj h1
    exact wpAny_getItem_list_neg pl.isList (by omega) (by rw [List.size_toArray, ← hl]; exact h3) (by omega) (x := u) (by rw [hk]; simpa using hu) ⟨x, H, I, ru, q⟩
end M

set_option maxHeartbeats 1000000
namespace M
open PySem PySem.Spec L2
/-- a value wanted behind -/
def fin (K : PySem.W.Frag) (S : Sto) (H : Hp) (Q : VK) : Post := fun r S' => ∀ H' z, Evo S H S' H' → Cor K S' H' → RepV K H' r z → Q z H'
def l2 (K : PySem.W.Frag) (f : Val → Val → Sto → Post → Prop) : R2 := fun x y H Q => ∃ v w S, RepV K H v x ∧ RepV K H w y ∧ Cor K S H ∧ f v w S (fin K S H Q)
section
variable {K : PySem.W.Frag} {S : Sto} {H : Hp} {Q : VK}
theorem fin.int {i : Int} (c : Cor K S H) (h : fin K S H Q (.int i) S) : Q (.int i) H := h H _ .refl c (by simp only [RepV])
theorem fin.bl {i : Bool} (c : Cor K S H) (h : fin K S H Q (.bl i) S) : Q (.bl i) H := h H _ .refl c (by simp only [RepV])
theorem fin.str {i : Str} (c : Cor K S H) (h : fin K S H Q (.str i) S) : Q (.str i) H := h H _ .refl c (by simp only [RepV])
theorem fin.non (c : Cor K S H) (h : fin K S H Q .non S) : Q .non H := h H _ .refl c (by simp only [RepV])
theorem fin.tupN {vs : List Val} {xs : List V} {p : Addr} {o : Obj} (c : Cor K S H) (h : fin K S H Q (.tup vs) S) (r : RepVs K H vs xs) (hp : H p = none) (ho : o.dict = none) : Q (.ref p) (upd H p (.frz o (.tup xs))) :=
  h _ _ (.more (upd_keep hp)) (c.more (upd_keep hp)) (by simp only [RepV]; exact ⟨p, xs, rfl, .inl ⟨o, upd_same, ho⟩, RepVs.evo' (fun _ _ h => upd_keep hp _ _ h) (fun _ _ _ h => upd_keep hp _ _ h) _ r⟩)
theorem fin.ptupN {vs : List Val} {xs : List V} {p : Addr} (c : Cor K S H) (h : fin K S H Q (.ptup vs) S) (r : RepVs K H vs xs) (hp : H p = none) : Q (.ref p) (upd H p (.tup xs)) :=
  h _ _ (.tupN hp) (c.tupN hp) (by simp only [RepV]; exact ⟨p, xs, rfl, upd_same, RepVs.evo' (fun _ _ h => upd_keep hp _ _ h) (fun _ _ _ h => upd_keep hp _ _ h) _ r⟩)
theorem fin.lstN {vs : List Val} {xs : List V} {p : Addr} (c : Cor K S H) (h : ∀ p, S p = none → fin K S H Q (.ref p) (S.upd p (.lst vs))) (r : RepVs K H vs xs) (hp : H p = none) : Q (.ref p) (upd H p (.lst xs)) :=
  h p (c.free hp) _ _ (.newO hp) (c.newL hp r) (by simp only [RepV])
end
/-- ints by their sizes -/
theorem mulOk {i j : Int} (h : MulOk i j) : CMulX i j := by unfold MulOk bits at h; unfold CMulX; omega
section
variable {X : Cx}
theorem OpR.imp {f : Value → Value → Sem Value} {r : R2} {pins : List (Addr × Obj)} {s : Shared} {σ : L2.St} {H : Hp} {x y : V} {v u : Value} {Q : VK} (h : OpR X f r) (I : Inv X pins σ H s) (rx : RelV x v) (ry : RelV y u) (q : r x y H Q) :
    wpAny (model X.prog X.w) X.A (f v u) (EP X pins σ Q) X.xe s := h pins s σ H x y v u Q I rx ry q
theorem op_fdivM : OpR X (binaryOp .FloorDiv) (rI DivOk fun i j => .int (idiv i j)) := opI fun i j _ _ _ _ _ hc q => by
  refine PyProof.Rows.floordiv_int hc.1 ?_ (.inl hc.2)
  unfold idiv at q
  split at q
  · rename_i h
    rw [Int.fdiv_eq_ediv_of_nonneg _ (by omega)]; exact q
  · exact q
theorem op_modM : OpR X (binaryOp .Mod) (rI (fun _ j => j ≠ 0) fun i j => .int (imod i j)) := opI fun i j _ _ _ _ _ hc q => by
  refine PyProof.Rows.mod_int' hc ?_
  unfold imod at q
  split at q
  · rename_i h
    rw [Int.fmod_eq_emod_of_nonneg _ (by omega)]; exact q
  · exact q
theorem add_snd : OpR X (binaryOp .Add) (l2 X.K bAdd) := fun pins s σ H x y v u Q I rx ry ⟨a, b, S, ra, rb, c, q⟩ => by
  unfold bAdd at q
  split at q
  · simp only [RepV] at ra rb; subst ra; subst rb
    exact OpR.imp op_add I rx ry ⟨_, _, rfl, rfl, q.int c⟩
  · simp only [RepV] at ra rb; subst ra; subst rb
    exact OpR.imp op_add_ib I rx ry ⟨_, _, rfl, rfl, q.int c⟩
  · simp only [RepV] at ra rb; subst ra; subst rb
    exact OpR.imp op_add_str I rx ry ⟨_, _, rfl, rfl, q.1, q.2.str c⟩
  · simp only [RepV] at ra rb
    obtain ⟨p1, xs1, rfl, t1, r1⟩ := ra
    obtain ⟨p2, xs2, rfl, t2, r2⟩ := rb
    obtain ⟨hl, q⟩ := q
    refine OpR.imp op_catN I rx ry ⟨_, _, _, _, rfl, rfl, t1.sq, t2.sq, by rw [r1.length, r2.length]; exact hl, fun e => ?_, fun _ e => ?_, fun _ _ p o hp ho => q.tupN c (r1.append r2) hp ho⟩
    · refine q H _ .refl c ?_
      simp only [RepV]
      refine ⟨p2, xs2, rfl, t2, ?_⟩
      have := r1.append r2
      rw [e] at this; exact this
    · refine q H _ .refl c ?_
      simp only [RepV]
      refine ⟨p1, xs1, rfl, t1, ?_⟩
      have := r1.append r2
      rw [e, List.append_nil] at this; exact this
  · simp only [RepV] at ra rb; subst ra; subst rb
    obtain ⟨vs, ws, h1, h2, hl, q⟩ := q
    obtain ⟨xs, e1, r1⟩ := c.lst h1
    obtain ⟨ys, e2, r2⟩ := c.lst h2
    exact OpR.imp op_cat I rx ry ⟨_, _, xs, ys, rfl, rfl, e1, e2, by rw [r1.length, r2.length]; exact hl, fun p hp => fin.lstN c q (r1.append r2) hp⟩
  · exact q.elim
theorem addL_snd : OpR X (binaryOp .Add) (l2 X.K lAdd) := fun pins s σ H x y v u Q I rx ry ⟨a, b, S, ra, rb, c, q⟩ => by
  unfold lAdd at q
  split at q
  · simp only [RepV] at ra rb; subst ra; subst rb
    obtain ⟨vs, ws, h1, h2, hl, q⟩ := q
    obtain ⟨xs, e1, r1⟩ := c.rd h1
    obtain ⟨ys, e2, r2⟩ := c.rd h2
    exact OpR.imp op_catL I rx ry ⟨_, _, xs, ys, rfl, rfl, e1, e2, by rw [r1.length, r2.length]; exact hl, fun p hp => fin.lstN c q (r1.append r2) hp⟩
  · exact q.elim
theorem sub_snd : OpR X (binaryOp .Sub) (l2 X.K bSub) := fun pins s σ H x y v u Q I rx ry ⟨a, b, S, ra, rb, c, q⟩ => by
  unfold bSub at q
  split at q
  · simp only [RepV] at ra rb; subst ra; subst rb
    exact OpR.imp op_sub I rx ry ⟨_, _, rfl, rfl, q.int c⟩
  · exact q.elim
theorem mul_snd : OpR X (binaryOp .Mult) (l2 X.K bMul) := fun pins s σ H x y v u Q I rx ry ⟨a, b, S, ra, rb, c, q⟩ => by
  unfold bMul at q
  split at q
  · simp only [RepV] at ra rb; subst ra; subst rb
    exact OpR.imp op_mulX I rx ry ⟨_, _, rfl, rfl, mulOk q.1, q.2.int c⟩
  · simp only [RepV] at ra rb; subst ra; subst rb
    obtain ⟨vs, h1, k1, k2, hl, q⟩ := q
    obtain ⟨xs, e1, r1⟩ := c.lst h1
    exact OpR.imp op_rep I rx ry ⟨_, _, xs, rfl, rfl, e1, k1, k2, by rw [r1.length]; exact hl, fun p hp => fin.lstN c q (r1.rep _) hp⟩
  · rename_i xs j
    simp only [RepV] at ra rb; subst rb
    obtain ⟨p1, xs1, rfl, t1, r1⟩ := ra
    obtain ⟨k1, k2, hl, q⟩ := q
    refine OpR.imp op_mulN I rx ry ⟨_, _, xs1, rfl, rfl, t1.sq, k1, k2, by rw [r1.length]; exact hl, fun e => ?_, fun _ _ p o hp ho => q.tupN c (r1.rep _) hp ho⟩
    refine q H _ .refl c ?_
    simp only [RepV]
    refine ⟨p1, xs1, rfl, t1, ?_⟩
    have z := r1.rep j.toNat
    have : (List.replicate j.toNat xs1).flatten = xs1 := by
      rcases e with e | e
      · rw [e]
        exact List.flatten_eq_nil_iff.mpr fun l hl => (List.mem_replicate.mp hl).2
      · rw [e]; simp
    rw [this] at z
    exact z
  · exact q.elim
theorem shl_ok' {i j : Int} (h : 0 ≤ j ∧ (bits i : Int) + j ≤ 2 ^ 27) : CShl i j := h
theorem bin_snd (op : Operator) : OpR X (binaryOp op) (l2 X.K (wBin op)) := fun pins s σ H x y v u Q I rx ry ⟨a, b, S, ra, rb, c, q⟩ => by
  cases op <;> simp only [wBin] at q
  case Add => exact add_snd pins s σ H x y v u Q I rx ry ⟨a, b, S, ra, rb, c, q⟩
  case Sub => exact sub_snd pins s σ H x y v u Q I rx ry ⟨a, b, S, ra, rb, c, q⟩
  case Mult => exact mul_snd pins s σ H x y v u Q I rx ry ⟨a, b, S, ra, rb, c, q⟩
  case FloorDiv =>
    unfold bDiv at q; split at q
    · simp only [RepV] at ra rb; subst ra; subst rb
      exact OpR.imp op_fdivM I rx ry ⟨_, _, rfl, rfl, q.1, q.2.int c⟩
    · exact q.elim
  case Mod =>
    unfold bMod at q; split at q
    · simp only [RepV] at ra rb; subst ra; subst rb
      exact OpR.imp op_modM I rx ry ⟨_, _, rfl, rfl, q.1, q.2.int c⟩
    · exact q.elim
  case Pow =>
    unfold bPow at q; split at q
    · simp only [RepV] at ra rb; subst ra; subst rb
      exact OpR.imp op_pow I rx ry ⟨_, _, rfl, rfl, q.1, q.2.int c⟩
    · exact q.elim
  case LShift =>
    unfold bShl at q; split at q
    · simp only [RepV] at ra rb; subst ra; subst rb
      exact OpR.imp op_shlW I rx ry ⟨_, _, rfl, rfl, shl_ok' q.1, q.2.int c⟩
    · exact q.elim
  case RShift =>
    unfold bShr at q; split at q
    · simp only [RepV] at ra rb; subst ra; subst rb
      exact OpR.imp op_shr I rx ry ⟨_, _, rfl, rfl, q.1, q.2.int c⟩
    · exact q.elim
  case BitAnd =>
    unfold bAnd at q; split at q
    · simp only [RepV] at ra rb; subst ra; subst rb
      exact OpR.imp op_and I rx ry ⟨_, _, rfl, rfl, q.int c⟩
    · exact q.elim
  case BitXor =>
    unfold bXor at q; split at q
    · simp only [RepV] at ra rb; subst ra; subst rb
      exact OpR.imp op_xor I rx ry ⟨_, _, rfl, rfl, q.int c⟩
    · exact q.elim
  all_goals exact q.elim
mutual
theorem dp_pure (K : PySem.W.Frag) (H : Hp) : ∀ (v : Val) {x : V}, isPure v = true → RepV K H v x → Dp K H x (toD v)
  | .non, _, _, h => by simp only [RepV, toD] at h ⊢; subst h; exact .non
  | .bl b, _, _, h => by simp only [RepV, toD] at h ⊢; subst h; exact .bl b
  | .int i, _, _, h => by simp only [RepV, toD] at h ⊢; subst h; exact .int i
  | .str z, _, _, h => by simp only [RepV, toD] at h ⊢; subst h; exact .str z
  | .ref a, _, p, _ => by simp [isPure] at p
  | .tup vs, _, p, h => by
    simp only [RepV, toD] at h ⊢
    obtain ⟨a, xs, rfl, t, r⟩ := h
    exact .tup t.sq (dps_pure K H vs (by simpa [isPure] using p) r)
  | .ptup vs, _, p, h => by
    simp only [RepV, toD] at h ⊢
    obtain ⟨a, xs, rfl, t, r⟩ := h
    exact .tup (.inl (.inl t)) (dps_pure K H vs (by simpa [isPure] using p) r)
theorem dps_pure (K : PySem.W.Frag) (H : Hp) : ∀ (vs : List Val) {xs : List V}, arePure vs = true → RepVs K H vs xs → DpAll K H xs (toDs vs)
  | [], _, _, h => by simp only [RepVs, toDs] at h ⊢; subst h; exact .nil
  | v :: vs, _, p, h => by
    simp only [RepVs, toDs] at h ⊢
    obtain ⟨y, ys, rfl, a, b⟩ := h
    simp only [arePure, Bool.and_eq_true] at p
    exact .cons (dp_pure K H v p.1 a) (dps_pure K H vs p.2 b)
end
mutual
theorem dp_of {K : PySem.W.Frag} {S : Sto} {H : Hp} (c : Cor K S H) : ∀ {v : Val} {d : PyData} {x : V}, Dv S v d → RepV K H v x → Dp K H x d
  | _, _, _, .non, h => by simp only [RepV] at h; subst h; exact .non
  | _, _, _, .bl b, h => by simp only [RepV] at h; subst h; exact .bl b
  | _, _, _, .int b, h => by simp only [RepV] at h; subst h; exact .int b
  | _, _, _, .str b, h => by simp only [RepV] at h; subst h; exact .str b
  | _, _, _, .tup q, h => by
    simp only [RepV] at h
    obtain ⟨a, xs, rfl, t, r⟩ := h
    exact .tup t.sq (dps_of c q r)
  | _, _, _, .lst l q, h => by
    simp only [RepV] at h; subst h
    obtain ⟨xs, e, r⟩ := c.rd l
    exact .lst e (dps_of c q r)
  | _, _, _, .ptup q, h => by
    simp only [RepV] at h
    obtain ⟨a, xs, rfl, t, r⟩ := h
    exact .tup (.inl (.inl t)) (dps_of c q r)
theorem dps_of {K : PySem.W.Frag} {S : Sto} {H : Hp} (c : Cor K S H) : ∀ {vs : List Val} {ds : List PyData} {xs : List V}, DvAll S vs ds → RepVs K H vs xs → DpAll K H xs ds
  | _, _, _, .nil, h => by simp only [RepVs] at h; subst h; exact .nil
  | _, _, _, .cons a b, h => by
    simp only [RepVs] at h
    obtain ⟨y, ys, rfl, p, q⟩ := h
    exact .cons (dp_of c a p) (dps_of c b q)
end
theorem eq_snd (hu : X.A.units + 64 < cLine) : OpR X (compareOp .Eq) (l2 X.K (cEq false)) := fun pins s σ H x y v u Q I rx ry ⟨a, b, S, ra, rb, c, q⟩ => by
  unfold cEq at q
  split at q
  · rename_i hd
    simp only [okD, Bool.and_eq_true] at hd
    exact OpR.imp (op_eqD hu) I rx ry ⟨_, _, dp_pure _ _ _ hd.1.1 ra, dp_pure _ _ _ hd.2.1 rb, hd.1.2, hd.2.2, by simpa using q.bl c⟩
  · rcases q with ⟨z1, z2, rfl, rfl, q⟩ | ⟨d, e, h1, h2, h3, h4, q⟩
    · simp only [RepV] at ra rb; subst ra; subst rb
      exact OpR.imp op_eq I rx ry ⟨rfl, by simpa using q.bl c⟩
    exact OpR.imp (op_eqD hu) I rx ry ⟨_, _, dp_of c h1 ra, dp_of c h2 rb, h3, h4, by simpa using q.bl c⟩
theorem ne_snd (hu : X.A.units + 64 < cLine) : OpR X (compareOp .NotEq) (l2 X.K (cEq true)) := fun pins s σ H x y v u Q I rx ry ⟨a, b, S, ra, rb, c, q⟩ => by
  unfold cEq at q
  split at q
  · rename_i hd
    simp only [okD, Bool.and_eq_true] at hd
    exact OpR.imp (op_neD hu) I rx ry ⟨_, _, dp_pure _ _ _ hd.1.1 ra, dp_pure _ _ _ hd.2.1 rb, hd.1.2, hd.2.2, by simpa using q.bl c⟩
  · rcases q with ⟨z1, z2, rfl, rfl, q⟩ | ⟨d, e, h1, h2, h3, h4, q⟩
    · simp only [RepV] at ra rb; subst ra; subst rb
      exact OpR.imp op_ne I rx ry ⟨rfl, by simpa using q.bl c⟩
    exact OpR.imp (op_neD hu) I rx ry ⟨_, _, dp_of c h1 ra, dp_of c h2 rb, h3, h4, by simpa using q.bl c⟩
theorem cint_snd {op : CmpOp} {f : Int → Int → Bool} (h : OpR X (compareOp op) (rI0 fun i j => .bl (f i j))) : OpR X (compareOp op) (l2 X.K (cInt f)) := fun pins s σ H x y v u Q I rx ry ⟨a, b, S, ra, rb, c, q⟩ => by
  unfold cInt at q
  split at q
  · simp only [RepV] at ra rb; subst ra; subst rb
    exact OpR.imp h I rx ry ⟨_, _, rfl, rfl, q.bl c⟩
  · exact q.elim
theorem flat_rep {K : PySem.W.Frag} {H : Hp} {v : Val} {x : V} (f : flat v = true) (r : RepV K H v x) : flatV x = true := by
  cases v <;> simp only [flat, RepV] at f r <;> first | (subst r; rfl) | cases f
theorem flats_rep {K : PySem.W.Frag} {H : Hp} : ∀ {vs : List Val} {xs : List V}, vs.all flat = true → RepVs K H vs xs → xs.all flatV = true
  | [], _, _, r => by simp only [RepVs] at r; subst r; rfl
  | v :: vs, _, f, r => by
    simp only [RepVs] at r
    obtain ⟨y, ys, rfl, a, b⟩ := r
    simp only [List.all_cons, Bool.and_eq_true] at f ⊢
    exact ⟨flat_rep f.1 a, flats_rep f.2 b⟩
theorem eqV_rep {K : PySem.W.Frag} {H : Hp} {v w : Val} {x y : V} (f : flat v = true) (g : flat w = true) (r : RepV K H v x) (q : RepV K H w y) : eqV x y = PyData.eqv (toD v) (toD w) := by
  cases v <;> simp only [flat, RepV] at f r <;> (first | cases f | skip) <;> subst r <;> cases w <;> simp only [flat, RepV] at g q <;> (first | cases g | skip) <;> subst q <;> simp [eqV, toD, PyData.eqv] <;> first | rfl | exact Bool.eq_iff_iff.mpr (by simp) | skip
theorem inV_rep {K : PySem.W.Frag} {H : Hp} {v : Val} {x : V} (f : flat v = true) (r : RepV K H v x) : ∀ {vs : List Val} {xs : List V}, vs.all flat = true → RepVs K H vs xs → inV x xs = (toDs vs).any fun z => PyData.eqv z (toD v)
  | [], _, _, q => by simp only [RepVs] at q; subst q; rfl
  | w :: vs, _, g, q => by
    simp only [RepVs] at q
    obtain ⟨y, ys, rfl, a, b⟩ := q
    simp only [List.all_cons, Bool.and_eq_true] at g
    have ih := inV_rep f r g.2 b
    unfold inV at ih ⊢
    rw [List.any_cons, toDs, List.any_cons, ih, eqV_rep g.1 f a r]
theorem in_snd (hu : X.A.units + 65 < cLine) : OpR X (compareOp .In) (l2 X.K (cIn false)) := fun pins s σ H x y v u Q I rx ry ⟨a, b, S, ra, rb, c, q⟩ => by
  unfold cIn at q
  split at q
  · simp only [RepV] at rb; subst rb
    obtain ⟨xs, d, ds, hs, h1, h2, h3, h4, q⟩ := q
    exact OpR.imp (op_inD hu) I rx ry ⟨d, ds, dp_of c h1 ra, dp_of c (.lst hs h2) (by simp only [RepV]), h3, h4, by simpa using q.bl c⟩
  · simp only [RepV] at rb
    obtain ⟨p, xs, rfl, t, r⟩ := rb
    obtain ⟨f, g, q⟩ := q
    refine OpR.imp op_in_seq I rx ry ⟨p, xs, rfl, .inr t.sq, flat_rep f ra, flats_rep g r, ?_⟩
    have := q.bl c
    rw [← inV_rep f ra g r] at this
    simpa using this
  · exact q.elim
theorem notIn_snd (hu : X.A.units + 65 < cLine) : OpR X (compareOp .NotIn) (l2 X.K (cIn true)) := fun pins s σ H x y v u Q I rx ry ⟨a, b, S, ra, rb, c, q⟩ => by
  unfold cIn at q
  split at q
  · simp only [RepV] at rb; subst rb
    obtain ⟨xs, d, ds, hs, h1, h2, h3, h4, q⟩ := q
    exact OpR.imp (op_notInD hu) I rx ry ⟨d, ds, dp_of c h1 ra, dp_of c (.lst hs h2) (by simp only [RepV]), h3, h4, by simpa using q.bl c⟩
  · simp only [RepV] at rb
    obtain ⟨p, xs, rfl, t, r⟩ := rb
    obtain ⟨f, g, q⟩ := q
    refine OpR.imp op_notIn_seq I rx ry ⟨p, xs, rfl, .inr t.sq, flat_rep f ra, flats_rep g r, ?_⟩
    have := q.bl c
    rw [← inV_rep f ra g r] at this
    simpa using this
  · exact q.elim
theorem isN_rep {K : PySem.W.Frag} {H : Hp} {v : Val} {x : V} (r : RepV K H v x) : decide (x = .non) = isNon v := by
  cases v <;> simp only [RepV] at r <;> (first | (subst r; rfl) | (obtain ⟨p, xs, rfl, _⟩ := r; rfl)| (obtain ⟨p, xs, rfl, _⟩ := r; rfl))
theorem is_snd : OpR X (compareOp .Is) (l2 X.K (cIs false)) := fun pins s σ H x y v u Q I rx ry ⟨a, b, S, ra, rb, c, q⟩ => by
  unfold cIs at q
  split at q
  · simp only [RepV] at rb; subst rb
    refine OpR.imp op_isN I rx ry ⟨rfl, ?_⟩
    have := q.bl c
    rw [isN_rep ra]; simpa using this
  · simp only [RepV] at ra rb; subst ra; subst rb
    exact OpR.imp op_isBl I rx ry ⟨_, _, rfl, rfl, by simpa using q.bl c⟩
  · exact q.elim
theorem isnot_snd : OpR X (compareOp .IsNot) (l2 X.K (cIs true)) := fun pins s σ H x y v u Q I rx ry ⟨a, b, S, ra, rb, c, q⟩ => by
  unfold cIs at q
  split at q
  · simp only [RepV] at rb; subst rb
    refine OpR.imp op_notN I rx ry ⟨rfl, ?_⟩
    have := q.bl c
    rw [isN_rep ra]; simpa using this
  · simp only [RepV] at ra rb; subst ra; subst rb
    exact OpR.imp op_notBl I rx ry ⟨_, _, rfl, rfl, by simpa using q.bl c⟩
  · exact q.elim
theorem cmp_snd (hu : X.A.units + 65 < cLine) (op : CmpOp) : OpR X (compareOp op) (l2 X.K (wCmp op)) := by
  cases op <;> simp only [wCmp]
  · exact eq_snd (by omega)
  · exact ne_snd (by omega)
  · exact cint_snd op_lt
  · exact cint_snd op_le
  · exact cint_snd op_gt
  · exact cint_snd op_ge
  · exact is_snd
  · exact isnot_snd
  · exact in_snd hu
  · exact notIn_snd hu
theorem tru_snd : TruR X (fun x H Q => ∃ v S, RepV X.K H v x ∧ Cor X.K S H ∧ wTru v S (fun b S' => ∀ H', Evo S H S' H' → Cor X.K S' H' → Q b H')) := fun pins s σ H x v Q I rx ⟨a, S, ra, c, q⟩ => by
  refine tru_ok pins s σ H x v Q I rx ?_
  unfold wTru at q
  split at q
  · simp only [RepV] at ra; subst ra
    exact ⟨_, rfl, q H .refl c⟩
  · simp only [RepV] at ra; subst ra
    exact ⟨_, rfl, q H .refl c⟩
  · simp only [RepV] at ra; subst ra
    exact ⟨_, rfl, q H .refl c⟩
  · simp only [RepV] at ra
    obtain ⟨p, xs, rfl, t, r⟩ := ra
    refine ⟨_, .inr (.inl ⟨xs, t.sq, rfl⟩), ?_⟩
    have e : xs.isEmpty = (‹List Val›).isEmpty := by
      have := r.length
      cases xs <;> cases ‹List Val› <;> simp_all
    rw [e]; exact q H .refl c
  · simp only [RepV] at ra; subst ra
    obtain ⟨vs, l, q⟩ := q
    obtain ⟨xs, e, r⟩ := c.rd l
    refine ⟨_, .inl ⟨xs, e, rfl⟩, ?_⟩
    have e : xs.isEmpty = vs.isEmpty := by
      have := r.length
      cases xs <;> cases vs <;> simp_all
    rw [e]; exact q H .refl c
  · exact q.elim
theorem ix_snd : IxR X (l2 X.K vIx) := fun e1 e2 pins s σ H x y v u Q I rx ry ⟨a, b, S, ra, rb, c, q⟩ hs => by
  refine ix_seq e1 e2 pins s σ H x y v u Q I rx ry ?_ hs
  unfold vIx at q
  split at q
  · simp only [RepV] at ra rb; subst rb
    obtain ⟨p, xs, rfl, t, r⟩ := ra
    obtain ⟨w, e, q⟩ := q
    obtain ⟨z, e', rz⟩ := r.atI e
    exact .inr (.inl ⟨p, xs, _, z, rfl, rfl, t.sq, e', q H z .refl c rz⟩)
  · simp only [RepV] at ra rb; subst ra; subst rb
    obtain ⟨vs, w, l, e, q⟩ := q
    obtain ⟨xs, t, r⟩ := c.rd l
    obtain ⟨z, e', rz⟩ := r.atI e
    exact .inl ⟨_, xs, _, z, rfl, rfl, t, e', q H z .refl c rz⟩
  · simp only [RepV] at ra rb; subst ra; subst rb
    obtain ⟨w, h, e, q⟩ := q
    exact .inr (.inr ⟨_, _, w, rfl, rfl, h, e, q.str c⟩)
  · simp only [RepV] at ra rb; subst rb
    obtain ⟨p, xs, rfl, t, r⟩ := ra
    obtain ⟨w, e, q⟩ := q
    obtain ⟨z, e', rz⟩ := r.atI e
    exact .inr (.inl ⟨p, xs, _, z, rfl, rfl, .inl (.inl t), e', q H z .refl c rz⟩)
  · exact q.elim
theorem cut_whole {K : PySem.W.Frag} {H : Hp} {vs : List Val} {xs : List V} {lo hi : Option Int} (r : RepVs K H vs xs) (h1 : HT.sIx xs.length 0 lo = 0) (h2 : HT.sIx xs.length xs.length hi = xs.length) : RepVs K H (M.cut vs lo hi) xs := by
  have := r.cut lo hi
  unfold cutV at this
  rw [h1, h2, List.drop_zero, Nat.sub_zero, List.take_length] at this
  exact this
def lS3 (K : PySem.W.Frag) : V → Option Int → Option Int → Hp → VK → Prop := fun x lo hi H Q => ∃ v S, RepV K H v x ∧ Cor K S H ∧ vSl v lo hi S (fin K S H Q)
theorem sl_snd : L2.SlR X (lS3 X.K) := fun pins s σ H x v vl vu lo hi sl Q I rx hs pl pu ⟨a, S, ra, c, q⟩ => by
  refine (sl_list.or (sl_tupN.or sl_str)) pins s σ H x v vl vu lo hi sl Q I rx hs pl pu ?_
  unfold vSl at q
  split at q
  · simp only [RepV] at ra
    obtain ⟨p, xs, rfl, t, r⟩ := ra
    refine .inr (.inl ⟨p, xs, rfl, t.sq, fun ⟨h1, h2⟩ => ?_, fun _ p o hp ho => q.tupN c (r.cut _ _) hp ho⟩)
    refine q H _ .refl c ?_
    simp only [RepV]
    refine ⟨p, xs, rfl, t, ?_⟩
    exact cut_whole r h1 h2
  · simp only [RepV] at ra; subst ra
    obtain ⟨vs, l, q⟩ := q
    obtain ⟨xs, t, r⟩ := c.rd l
    exact .inl ⟨_, xs, rfl, t, fun p hp => fin.lstN c q (r.cut _ _) hp⟩
  · simp only [RepV] at ra; subst ra
    exact .inr (.inr ⟨_, rfl, q.1, q.2.str c⟩)
  · exact q.elim
end
end M

set_option maxHeartbeats 1000000
namespace M
open PySem PySem.Spec L2
theorem lexL_app : ∀ {as bs cs ds : List Int}, as.length = bs.length → lexL (as ++ cs) (bs ++ ds) = (lexL as bs || (decide (as = bs) && lexL cs ds))
  | [], [], _, _, _ => by simp [lexL]
  | a :: as, b :: bs, cs, ds, h => by
    have := lexL_app (as := as) (bs := bs) (cs := cs) (ds := ds) (by simpa using h)
    simp only [List.cons_append, lexL, this, List.cons.injEq]
    by_cases e : a = b
    · subst e; simp
    · simp [e]
  | [], _ :: _, _, _, h => by simp at h
  | _ :: _, [], _, _, h => by simp at h
theorem lexL_refl : ∀ (as : List Int), lexL as as = false
  | [] => rfl
  | a :: as => by simp [lexL, lexL_refl as]
theorem lexL_asym : ∀ {as bs : List Int}, lexL as bs = true → lexL bs as = false
  | [], [], h => by simp [lexL] at h
  | [], _ :: _, _ => rfl
  | _ :: _, [], h => by simp [lexL] at h
  | a :: as, b :: bs, h => by
    simp only [lexL, Bool.or_eq_true, decide_eq_true_eq, Bool.and_eq_true, Bool.or_eq_false_iff, decide_eq_false_iff_not, Bool.and_eq_false_iff] at *
    rcases h with h | ⟨h, h2⟩
    · exact ⟨by omega, .inl (by omega)⟩
    · exact ⟨by omega, .inr (lexL_asym h2)⟩
theorem lexL_tri : ∀ {as bs : List Int}, lexL as bs = false → lexL bs as = false → as = bs
  | [], [], _, _ => rfl
  | [], _ :: _, h, _ => by simp [lexL] at h
  | _ :: _, [], _, h => by simp [lexL] at h
  | a :: as, b :: bs, h, h' => by
    simp only [lexL, Bool.or_eq_false_iff, decide_eq_false_iff_not, Bool.and_eq_false_iff] at *
    have e : a = b := by omega
    subst e
    rw [lexL_tri (h.2.resolve_left (by simp)) (h'.2.resolve_left (by simp))]
theorem lexL_trans : ∀ {as bs cs : List Int}, lexL as bs = true → lexL bs cs = true → lexL as cs = true
  | [], [], _, h, _ => by simp [lexL] at h
  | [], _ :: _, [], _, h => by simp [lexL] at h
  | [], _ :: _, _ :: _, _, _ => rfl
  | _ :: _, [], _, h, _ => by simp [lexL] at h
  | _ :: _, _ :: _, [], _, h => by simp [lexL] at h
  | a :: as, b :: bs, c :: cs, h, h' => by
    simp only [lexL, Bool.or_eq_true, decide_eq_true_eq, Bool.and_eq_true] at *
    rcases h with h | ⟨h, h2⟩ <;> rcases h' with h' | ⟨h', h3⟩
    · exact .inl (by omega)
    · exact .inl (by omega)
    · exact .inl (by omega)
    · exact .inr ⟨by omega, lexL_trans h2 h3⟩
theorem lexL_swo {α : Type} (f : α → List Int) : SrtO.Swo fun x y => lexL (f x) (f y) := by
  refine ⟨fun x y h => lexL_asym h, fun x y z h1 h2 => ?_⟩
  cases h : lexL (f z) (f x) with
  | false => rfl
  | true =>
    cases h3 : lexL (f x) (f y) with
    | true => rw [lexL_trans h h3] at h2; cases h2
    | false =>
      have := lexL_tri h3 h1
      rw [this, h2] at h; cases h
mutual
theorem shV_len : ∀ (v w : Val), shV v w = true → (flV v).length = (flV w).length
  | .int _, w, h => by cases w <;> simp [shV, flV] at h ⊢
  | .tup xs, w, h => by cases w <;> simp only [shV, flV, Bool.false_eq_true] at h ⊢; exact shVs_len xs _ h
  | .ptup xs, w, h => by cases w <;> simp only [shV, flV, Bool.false_eq_true] at h ⊢; exact shVs_len xs _ h
  | .non, w, h => by simp [shV] at h
  | .bl _, w, h => by simp [shV] at h
  | .str _, w, h => by simp [shV] at h
  | .ref _, w, h => by simp [shV] at h
theorem shVs_len : ∀ (xs ys : List Val), shVs xs ys = true → (flVs xs).length = (flVs ys).length
  | [], ys, h => by cases ys <;> simp [shVs, flVs] at h ⊢
  | x :: xs, ys, h => by
    cases ys with
    | nil => simp [shVs] at h
    | cons y ys =>
      simp only [shVs, Bool.and_eq_true] at h
      simp only [flVs, List.length_append]
      rw [shV_len x y h.1, shVs_len xs ys h.2]
end
theorem shVs_len' : ∀ (xs ys : List Val), shVs xs ys = true → xs.length = ys.length
  | [], ys, h => by cases ys <;> simp [shVs] at h ⊢
  | x :: xs, ys, h => by
    cases ys with
    | nil => simp [shVs] at h
    | cons y ys => simp only [shVs, Bool.and_eq_true] at h; simp [shVs_len' xs ys h.2]
mutual
theorem eqv_sh : ∀ (v w : Val), shV v w = true → PyData.eqv (toD v) (toD w) = decide (flV v = flV w)
  | .int i, w, h => by
    cases w <;> simp [shV] at h
    simp [toD, flV, PyData.eqv]
    try rfl
  | .tup xs, w, h => by
    cases w <;> simp only [shV, Bool.false_eq_true] at h
    simp only [toD, flV, PyData.eqv]
    exact eqv_shs xs _ h
  | .ptup xs, w, h => by
    cases w <;> simp only [shV, Bool.false_eq_true] at h
    simp only [toD, flV, PyData.eqv]
    exact eqv_shs xs _ h
  | .non, w, h => by simp [shV] at h
  | .bl _, w, h => by simp [shV] at h
  | .str _, w, h => by simp [shV] at h
  | .ref _, w, h => by simp [shV] at h
theorem eqv_shs : ∀ (xs ys : List Val), shVs xs ys = true → PyData.eqvAll (toDs xs) (toDs ys) = decide (flVs xs = flVs ys)
  | [], ys, h => by cases ys <;> simp [shVs, flVs, toDs, PyData.eqvAll] at h ⊢
  | x :: xs, ys, h => by
    cases ys with
    | nil => simp [shVs] at h
    | cons y ys =>
      simp only [shVs, Bool.and_eq_true] at h
      have e1 : PyData.eqvAll (toDs (x :: xs)) (toDs (y :: ys)) = (decide (flV x = flV y) && decide (flVs xs = flVs ys)) := by
        simp only [toDs, PyData.eqvAll]
        rw [eqv_sh x y h.1, eqv_shs xs ys h.2]
      rw [e1]
      have := shV_len x y h.1
      have e2 : (flVs (x :: xs) = flVs (y :: ys)) ↔ (flV x = flV y ∧ flVs xs = flVs ys) := by
        simp only [flVs]
        exact ⟨fun e => List.append_inj e this, fun ⟨a, b⟩ => by rw [a, b]⟩
      rw [Bool.eq_iff_iff]
      simp only [Bool.and_eq_true, decide_eq_true_eq]
      exact e2.symm
end

theorem lexAt_flVs {e r : Nat → Bool} : ∀ (k i : Nat) (xs ys : List Val), shVs xs ys = true → xs.length = k → (∀ j x y, xs[j]? = some x → ys[j]? = some y → e (i + j) = decide (flV x = flV y) ∧ r (i + j) = lexL (flV x) (flV y)) →
    Ob.lexAt e r false i k = lexL (flVs xs) (flVs ys)
  | 0, i, xs, ys, h, hl, _ => by
    have : xs = [] := List.eq_nil_of_length_eq_zero hl
    subst this
    cases ys <;> simp [shVs] at h
    simp [Ob.lexAt_zero, flVs, lexL]
  | k + 1, i, xs, ys, h, hl, hj => by
    cases xs with
    | nil => simp at hl
    | cons x xs =>
      cases ys with
      | nil => simp [shVs] at h
      | cons y ys =>
        simp only [shVs, Bool.and_eq_true] at h
        have h0 := hj 0 x y rfl rfl
        simp only [Nat.add_zero] at h0
        rw [Ob.lexAt_succ, h0.1, h0.2]
        simp only [flVs]
        rw [lexL_app (shV_len x y h.1)]
        have ih := lexAt_flVs (e := e) (r := r) k (i + 1) xs ys h.2 (by simpa using hl) (fun j a b ha hb => by
          have := hj (j + 1) a b (by simpa using ha) (by simpa using hb)
          rw [show i + 1 + j = i + (j + 1) by omega]; exact this)
        by_cases eq : flV x = flV y
        · simp only [eq, decide_true, if_true, Bool.true_and, lexL_refl, Bool.false_or]; exact ih
        · simp [eq]
theorem reads_get {h : Heap} : ∀ {us : List Value} {xs : List Val} {as : List Addr}, ReadsAll h us (toDs xs) as → ∀ {j : Nat} {x : Val}, xs[j]? = some x → ∃ u bs, us[j]? = some u ∧ Reads h u (toD x) bs
  | _, [], _, _, _, _, e => by simp at e
  | us, x :: xs, as, h, j, y, e => by
    simp only [toDs] at h
    cases h with
    | cons a b =>
      cases j with
      | zero => simp only [List.getElem?_cons_zero, Option.some.injEq] at e; subst e; exact ⟨_, _, rfl, a⟩
      | succ j => simp only [List.getElem?_cons_succ] at e ⊢; exact reads_get b e
theorem reads_len {h : Heap} : ∀ {us : List Value} {xs : List Val} {as : List Addr}, ReadsAll h us (toDs xs) as → us.length = xs.length
  | us, [], _, h => by simp only [toDs] at h; cases h; rfl
  | us, x :: xs, as, h => by
    simp only [toDs] at h
    cases h with
    | cons a b => simp [reads_len b]
mutual
def dpV : Val → Nat
  | .tup xs => dpVs xs + 1
  | .ptup xs => dpVs xs + 1
  | _ => 0
def dpVs : List Val → Nat
  | [] => 0
  | v :: vs => max (dpV v) (dpVs vs)
end
theorem dpVs_le {x : Val} : ∀ {xs : List Val}, x ∈ xs → dpV x ≤ dpVs xs
  | y :: ys, h => by
    simp only [dpVs]
    rcases List.mem_cons.mp h with rfl | h
    · omega
    · have := dpVs_le h; omega
mutual
theorem shV_data : ∀ (v w : Val), shV v w = true → (toD v).canLay0 = true ∧ (toD v).depth ≤ dpV v
  | .int _, w, h => by simp [toD, PyData.canLay0, PyData.depth, dpV]
  | .tup xs, w, h => by
    cases w <;> simp only [shV, Bool.false_eq_true] at h
    have := shVs_data xs _ h
    simp only [toD, PyData.canLay0, PyData.depth, dpV]
    exact ⟨this.1, by omega⟩
  | .ptup xs, w, h => by
    cases w <;> simp only [shV, Bool.false_eq_true] at h
    have := shVs_data xs _ h
    simp only [toD, PyData.canLay0, PyData.depth, dpV]
    exact ⟨this.1, by omega⟩
  | .non, w, h => by simp [shV] at h
  | .bl _, w, h => by simp [shV] at h
  | .str _, w, h => by simp [shV] at h
  | .ref _, w, h => by simp [shV] at h
theorem shVs_data : ∀ (xs ys : List Val), shVs xs ys = true → PyData.canLayAll0 (toDs xs) = true ∧ PyData.depthAll (toDs xs) ≤ dpVs xs
  | [], ys, h => by simp [toDs, PyData.canLayAll0, PyData.depthAll, dpVs]
  | x :: xs, ys, h => by
    cases ys with
    | nil => simp [shVs] at h
    | cons y ys =>
      simp only [shVs, Bool.and_eq_true] at h
      have h1 := shV_data x y h.1
      have h2 := shVs_data xs ys h.2
      simp only [toDs, PyData.canLayAll0, PyData.depthAll, dpVs, Bool.and_eq_true]
      exact ⟨⟨h1.1, h2.1⟩, by omega⟩
end
mutual
theorem shV_symm : ∀ (v w : Val), shV v w = true → shV w v = true
  | .int _, w, h => by cases w <;> simp [shV] at h ⊢
  | .tup xs, w, h => by cases w <;> simp only [shV, Bool.false_eq_true] at h ⊢; exact shVs_symm xs _ h
  | .ptup xs, w, h => by cases w <;> simp only [shV, Bool.false_eq_true] at h ⊢; exact shVs_symm xs _ h
  | .non, w, h => by simp [shV] at h
  | .bl _, w, h => by simp [shV] at h
  | .str _, w, h => by simp [shV] at h
  | .ref _, w, h => by simp [shV] at h
theorem shVs_symm : ∀ (xs ys : List Val), shVs xs ys = true → shVs ys xs = true
  | [], ys, h => by cases ys <;> simp [shVs] at h ⊢
  | x :: xs, ys, h => by
    cases ys with
    | nil => simp [shVs] at h
    | cons y ys =>
      simp only [shVs, Bool.and_eq_true] at h ⊢
      exact ⟨shV_symm x y h.1, shVs_symm xs ys h.2⟩
end
theorem shVs_at : ∀ {xs ys : List Val}, shVs xs ys = true → ∀ {j : Nat} {x y : Val}, xs[j]? = some x → ys[j]? = some y → shV x y = true
  | [], _, _, _, _, _, e, _ => by simp at e
  | a :: xs, [], h, _, _, _, _, _ => by simp [shVs] at h
  | a :: xs, b :: ys, h, j, x, y, e, e' => by
    simp only [shVs, Bool.and_eq_true] at h
    cases j with
    | zero => simp only [List.getElem?_cons_zero, Option.some.injEq] at e e'; subst e; subst e'; exact h.1
    | succ j => simp only [List.getElem?_cons_succ] at e e'; exact shVs_at h.2 e e'
theorem sh_eqAt {A : Around} {s : Shared} {v w : Val} {u x : Value} {as bs : List Addr} (h : shV v w = true) (r : Reads s.heap u (toD v) as) (r' : Reads s.heap x (toD w) bs) (hu : A.units + dpV v < cLine) : SeqAt.EqAt A s u x (decide (flV v = flV w)) := by
  rw [← eqv_sh v w h]
  have d1 := shV_data v w h
  have d2 := shV_data w v (shV_symm v w h)
  exact SeqAt.eqAt_reads _ _ A s u x as bs r r' d1.1 d2.1 (by omega)
theorem rcV : ∀ (n : Nat) (v w : Val), dpV v ≤ n → shV v w = true → ∀ {A : Around} {s : Shared} {u x : Value} {as bs : List Addr}, Reads s.heap u (toD v) as → Reads s.heap x (toD w) bs → A.units + n < cLine → Ob.RcOp .Lt A s u x (lexL (flV v) (flV w)) := by
  intro n
  induction n with
  | zero =>
    intro v w hn h A s u x as bs r r' hu
    cases v <;> simp only [dpV] at hn <;> try omega
    all_goals cases w <;> simp [shV] at h
    rename_i i j
    simp only [toD] at r r'
    cases r; cases r'
    simp only [flV]
    have e : lexL [i] [j] = decide (i < j) := by simp [lexL]
    rw [e]; exact Ob.RcOp.lt_int (A := A) (s := s) i j _ _
  | succ n ih =>
    intro v w hn h A s u x as bs r r' hu
    have tup : ∀ xs ys : List Val, dpVs xs ≤ n → shVs xs ys = true → Reads s.heap u (.tuple (toDs xs)) as → Reads s.heap x (.tuple (toDs ys)) bs → Ob.RcOp .Lt A s u x (lexL (flVs xs) (flVs ys)) := by
      intro xs ys hd hs r r'
      cases r with
      | tuple g1 g2 g3 ra =>
      cases r' with
      | tuple g1' g2' g3' rb =>
      rename_i a o vs m b o' ws m'
      have la := reads_len ra
      have lb := reads_len rb
      have lxy := shVs_len' xs ys hs
      have := Ob.RcOp.tuples_lt (A := A) (s := s) (l := a) (b := b) (items := vs) (items2 := ws) (e := fun j => decide (flV (xs.getD j .non) = flV (ys.getD j .non))) (r := fun j => lexL (flV (xs.getD j .non)) (flV (ys.getD j .non)))
        ⟨o, g1, g2, m, g3⟩ ⟨o', g1', g2', m', g3'⟩ (by omega) ?_ ?_
      · rw [Array.length_toList] at la lb
        have ez : decide (vs.size < ws.size) = false := by rw [decide_eq_false_iff_not]; omega
        rw [ez, show min vs.size ws.size = xs.length by omega] at this
        rw [lexAt_flVs xs.length 0 xs ys hs rfl (fun j p q hp hq => by
          simp only [Nat.zero_add, List.getD_eq_getElem?_getD, hp, hq, Option.getD_some]; exact ⟨trivial, trivial⟩)] at this
        exact this
      all_goals
        intro j h1 h2
        have hx : j < xs.length := by rw [← la]; exact h1
        have hy : j < ys.length := by rw [← lb]; exact h2
        obtain ⟨p, cs, e1, rp⟩ := reads_get ra (List.getElem?_eq_getElem hx)
        obtain ⟨q, ds, e2, rq⟩ := reads_get rb (List.getElem?_eq_getElem hy)
        have e1' : vs[j] = p := by
          rw [Array.getElem?_toList, Array.getElem?_eq_getElem h1] at e1
          exact Option.some.inj e1
        have e2' : ws[j] = q := by
          rw [Array.getElem?_toList, Array.getElem?_eq_getElem h2] at e2
          exact Option.some.inj e2
        have hsh := shVs_at hs (List.getElem?_eq_getElem hx) (List.getElem?_eq_getElem hy)
        have hdp := dpVs_le (List.getElem_mem hx)
        simp only [List.getD_eq_getElem?_getD, List.getElem?_eq_getElem hx, List.getElem?_eq_getElem hy, Option.getD_some]
        rw [e1', e2']
      · exact sh_eqAt hsh rp rq (by show A.units + 1 + _ < _; omega)
      · exact fun _ => ih _ _ (by omega) hsh rp rq (by show A.units + 1 + n < _; omega)
    cases v <;> simp only [dpV] at hn
    case int i =>
      cases w <;> simp [shV] at h
      exact ih (.int i) _ (by simp [dpV]) (by simp [shV]) r r' (by omega)
    case tup xs =>
      cases w <;> simp only [shV, Bool.false_eq_true] at h
      simp only [toD] at r r'
      simp only [flV]
      exact tup xs _ (by omega) h r r'
    case ptup xs =>
      cases w <;> simp only [shV, Bool.false_eq_true] at h
      simp only [toD] at r r'
      simp only [flV]
      exact tup xs _ (by omega) h r r'
    all_goals simp [shV] at h

/-- the sort's comparing of two items -/
theorem katlex {prog : Program} {w : World} {A : Around} {s : Shared} {Q : Bool → Shared → Prop} (hu : A.units + 70 < cLine) : ∀ {xs ys : List Val} {us ws : List Value} {as bs : List Addr} {i : Nat}, shVs xs ys = true → dpVs xs ≤ 64 → ReadsAll s.heap us (toDs xs) as → ReadsAll s.heap ws (toDs ys) bs →
    (i = 0 → ∃ k r, xs = .int k :: r) → Q (lexL (flVs xs) (flVs ys)) s → PySem.W.KatLex prog w A true false Q (us.zip ws) i s
  | [], ys, us, ws, as, bs, i, h, hd, r, r', h0, q => by
    cases ys with
    | cons y ys => simp [shVs] at h
    | nil =>
      have := reads_len r
      have : us = [] := List.eq_nil_of_length_eq_zero this
      subst this
      rw [List.zip_nil_left]
      unfold PySem.W.KatLex
      simpa only [flVs, lexL] using q
  | x :: xs, ys, us, ws, as, bs, i, h, hd, r, r', h0, q => by
    cases ys with
    | nil => simp [shVs] at h
    | cons y ys =>
      simp only [shVs, Bool.and_eq_true] at h
      simp only [toDs] at r r'
      cases r with
      | cons ra rr =>
      cases r' with
      | cons rb rr' =>
      rename_i p us as1 as2 z ws bs1 bs2
      simp only [dpVs] at hd
      simp only [List.zip_cons_cons]
      unfold PySem.W.KatLex
      refine sh_eqAt h.1 ra rb (by omega) prog w _ _ ?_
      simp only [flVs] at q
      rw [lexL_app (shV_len x y h.1)] at q
      by_cases e : flV x = flV y
      · simp only [e, decide_true, if_true]
        simp only [e, lexL_refl, decide_true, Bool.true_and, Bool.false_or] at q
        exact katlex hu (i := i + 1) h.2 (by omega) rr rr' (fun z => by omega) q
      · simp only [e, decide_false, Bool.false_eq_true, if_false]
        simp only [e, decide_false, Bool.false_and, Bool.or_false] at q
        by_cases hi : i = 0
        · obtain ⟨k, r, e2⟩ := h0 hi
          cases e2
          cases y <;> simp [shV] at h
          simp only [toD] at ra rb
          cases ra; cases rb
          refine TS.oneLt_ints _ ?_
          simp only [flV] at q
          rename_i j _ _
          rw [show lexL [k] [j] = decide (k < j) by simp [lexL]] at q
          exact q
        · have e0 : (true && i == 0) = false := by simp [hi]
          rw [e0, PyProof.Rows.oneLt'_eq]
          simp only [Bool.false_eq_true, if_false]
          refine wpAny_bind (rcV 64 x y (by omega) h.1 ra rb (by omega) prog w _ _ ?_)
          unfold truthOfDropped
          exact wpAny_pure q
mutual
def flD : PyData → List Int
  | .int i => [i]
  | .tuple ds => flDs ds
  | _ => []
def flDs : List PyData → List Int
  | [] => []
  | d :: ds => flD d ++ flDs ds
end
mutual
theorem flD_toD : ∀ v : Val, flD (toD v) = flV v
  | .int i => by simp only [toD, flD, flV]
  | .tup xs => by simp only [toD, flD, flV]; exact flDs_toDs xs
  | .ptup xs => by simp only [toD, flD, flV]; exact flDs_toDs xs
  | .non => by simp only [toD, flD, flV]
  | .bl _ => by simp only [toD, flD, flV]
  | .str _ => by simp only [toD, flD, flV]
  | .ref _ => by simp only [toD, flD, flV]
theorem flDs_toDs : ∀ vs : List Val, flDs (toDs vs) = flVs vs
  | [] => by simp only [toDs, flDs, flVs]
  | v :: vs => by simp only [toDs, flDs, flVs]; rw [flD_toD v, flDs_toDs vs]
end
noncomputable def keyAt (h : Heap) (u : Value) : List Int := flD (SeqAt.readOf h u)
theorem keyAt_of {h : Heap} {u : Value} {v : Val} {as : List Addr} (r : Reads h u (toD v) as) (hs : shV v v = true) : keyAt h u = flV v := by
  unfold keyAt
  rw [SeqAt.readOf_eq (shV_data v v hs).1 r, flD_toD]
/-- two lists, side by side -/
theorem paired_perm {α β : Type} {R : α → β → Prop} {us out : List β} (p : us.Perm out) : ∀ {vs : List α}, Paired R vs us → ∃ ws, Paired R ws out ∧ vs.Perm ws := by
  induction p with
  | nil => intro vs h; cases h; exact ⟨[], .nil, .nil⟩
  | cons x _ ih =>
    intro vs h
    cases h with
    | cons a b =>
      obtain ⟨ws, h1, h2⟩ := ih b
      exact ⟨_ :: ws, .cons a h1, h2.cons _⟩
  | swap x y l =>
    intro vs h
    cases h with
    | cons a b =>
      cases b with
      | cons c d => exact ⟨_, .cons c (.cons a d), .swap _ _ _⟩
  | trans _ _ ih1 ih2 =>
    intro vs h
    obtain ⟨ws, h1, h2⟩ := ih1 h
    obtain ⟨zs, h3, h4⟩ := ih2 h1
    exact ⟨zs, h3, h2.trans h4⟩
theorem pd_mem2 {α β : Type} {R : α → β → Prop} {xs : List α} {ys : List β} (h : Paired R xs ys) : ∀ y ∈ ys, ∃ x ∈ xs, R x y := by
  induction h with
  | nil => intro y hy; cases hy
  | cons a _ ih =>
    intro y hy
    rcases List.mem_cons.mp hy with rfl | hy
    · exact ⟨_, List.mem_cons_self, a⟩
    · obtain ⟨x, hx, r⟩ := ih y hy; exact ⟨x, List.mem_cons_of_mem _ hx, r⟩
theorem pd_pw {α β : Type} {R : α → β → Prop} {f : β → β → Prop} {g : α → α → Prop} {xs : List α} {ys : List β} (h : Paired R xs ys) (hi : ∀ x ∈ xs, ∀ x' ∈ xs, ∀ y ∈ ys, ∀ y' ∈ ys, R x y → R x' y' → f y y' → g x x') (p : ys.Pairwise f) : xs.Pairwise g := by
  have m1 : ∀ {xs : List α} {ys : List β}, Paired R xs ys → ∀ x ∈ xs, ∃ y ∈ ys, R x y := by
    intro xs ys h
    induction h with
    | nil => intro x hx; cases hx
    | cons a _ ih =>
      intro x hx
      rcases List.mem_cons.mp hx with rfl | hx
      · exact ⟨_, List.mem_cons_self, a⟩
      · obtain ⟨y, hy, r⟩ := ih x hx; exact ⟨y, List.mem_cons_of_mem _ hy, r⟩
  induction h with
  | nil => exact .nil
  | cons a b ih =>
    rw [List.pairwise_cons] at p ⊢
    refine ⟨fun x hx => ?_, ih (fun x hx x' hx' y hy y' hy' => hi x (List.mem_cons_of_mem _ hx) x' (List.mem_cons_of_mem _ hx') y (List.mem_cons_of_mem _ hy) y' (List.mem_cons_of_mem _ hy')) p.2⟩
    obtain ⟨y, hy, r⟩ := m1 b x hx
    exact hi _ List.mem_cons_self x (List.mem_cons_of_mem _ hx) _ List.mem_cons_self y (List.mem_cons_of_mem _ hy) a r (p.1 y hy)
/-- a value and what stands for it -/
def RV (K : PySem.W.Frag) (H : Hp) (v : Val) (u : Value) : Prop := ∃ x, RepV K H v x ∧ RelV x u
theorem rv_split {K : PySem.W.Frag} {H : Hp} {vs : List Val} {us : List Value} (h : Paired (RV K H) vs us) : ∃ xs, RepVs K H vs xs ∧ Vals xs us := by
  induction h with
  | nil => exact ⟨[], .nil, .nil⟩
  | cons a _ ih =>
    obtain ⟨xs, h1, h2⟩ := ih
    obtain ⟨x, r1, r2⟩ := a
    exact ⟨x :: xs, .cons r1 h1, .cons r2 h2⟩
theorem rv_join {K : PySem.W.Frag} {H : Hp} : ∀ {vs : List Val} {xs : List V} {us : List Value}, RepVs K H vs xs → Vals xs us → Paired (RV K H) vs us
  | [], xs, us, r, v => by
    simp only [RepVs] at r; subst r
    cases v; exact .nil
  | w :: vs, xs, us, r, v => by
    simp only [RepVs] at r
    obtain ⟨y, ys, rfl, a, b⟩ := r
    cases v with
    | cons c d => exact .cons ⟨y, a, c⟩ (rv_join b d)
mutual
theorem shDep : ∀ v : Val, (shV v v = true → (toD v).depth = dpV v)
  | .int i => by intro; simp [toD, PyData.depth, dpV]
  | .tup xs => by intro h; simp only [shV] at h; simp only [toD, PyData.depth, dpV]; rw [shDeps xs h]; try omega
  | .ptup xs => by intro h; simp only [shV] at h; simp only [toD, PyData.depth, dpV]; rw [shDeps xs h]; try omega
  | .non => by intro h; simp [shV] at h
  | .bl _ => by intro h; simp [shV] at h
  | .str _ => by intro h; simp [shV] at h
  | .ref _ => by intro h; simp [shV] at h
theorem shDeps : ∀ vs : List Val, (shVs vs vs = true → PyData.depthAll (toDs vs) = dpVs vs)
  | [] => by intro; simp [toDs, PyData.depthAll, dpVs]
  | v :: vs => by
    intro h; simp only [shVs, Bool.and_eq_true] at h
    simp only [toDs, PyData.depthAll, dpVs]; rw [shDep v h.1, shDeps vs h.2]
end
theorem okD_dp {v : Val} (h : okD v = true) (h2 : shV v v = true) : dpV v ≤ 64 := by
  have key : (∀ v : Val, shV v v = true → (toD v).depth = dpV v) := by
    intro v
    exact shDep v
  unfold okD SeqAt.shaped at h
  simp only [Bool.and_eq_true, decide_eq_true_eq] at h
  rw [← key v h2]; exact h.2.2

theorem okD_pure {v : Val} (h : okD v = true) : isPure v = true := by unfold okD at h; simp only [Bool.and_eq_true] at h; exact h.1
section
variable {X : Cx}
theorem rv_reads {pins : List (Addr × Obj)} {σ : L2.St} {H : Hp} {s : Shared} {v : Val} {u : Value} (I : Inv X pins σ H s) (h : RV X.K H v u) (hv : okD v = true) : ∃ as, Reads s.heap u (toD v) as := by
  obtain ⟨x, r, e⟩ := h
  exact Dp.reads I _ x u (dp_pure _ _ v (okD_pure hv) r) e
theorem tup1_cases {v : Val} (h : tup1 v = true) : ∃ k r, (v = .tup (.int k :: r) ∨ v = .ptup (.int k :: r)) := by
  unfold tup1 at h
  split at h
  · exact ⟨_, _, .inl rfl⟩
  · exact ⟨_, _, .inr rfl⟩
  · cases h
/-- a value that stands for a tuple that begins with an int -/
theorem tup1_reads {h : Heap} {v : Val} {u : Value} {as : List Addr} (k : tup1 v = true) (r : Reads h u (toD v) as) : ∃ a o n ws zs bs i t, u = .ref a ∧ h.get? a = some o ∧ o.cls = .type "tuple" ∧ o.data = .seq ws n ∧ ReadsAll h ws.toList (toDs zs) bs ∧ (v = .tup zs ∨ v = .ptup zs) ∧ (∃ r, zs = .int i :: r) ∧ ws[0]? = some (.int i t) := by
  obtain ⟨i, z, e⟩ := tup1_cases k
  have e2 : toD v = .tuple (toDs (.int i :: z)) := by rcases e with rfl | rfl <;> simp only [toD]
  rw [e2] at r
  cases r with
  | tuple g1 g2 g3 ra =>
    rename_i a o ws n
    have ra' := ra
    simp only [toDs, toD] at ra'
    cases h0 : ws.toList with
    | nil => rw [h0] at ra'; cases ra'
    | cons w0 wr =>
      rw [h0] at ra'
      cases ra' with
      | cons p _ =>
        cases p
        rename_i t
        exact ⟨a, o, n, ws, _, _, i, t, rfl, g1, g2, g3, ra, e, ⟨_, rfl⟩, by rw [← Array.getElem?_toList, h0]; rfl⟩
theorem katTups {h : Heap} : ∀ {vs : List Val} {us : List Value}, Paired (fun v u => tup1 v = true ∧ ∃ as, Reads h u (toD v) as) vs us → ∃ fs, PySem.W.KatTups h us fs ∧ fs.length = us.length ∧ ∀ f ∈ fs, ∃ i t, f = Value.int i t := by
  intro vs us p
  induction p with
  | nil => exact ⟨[], by unfold PySem.W.KatTups; trivial, rfl, by intro f hf; cases hf⟩
  | cons a _ ih =>
    obtain ⟨fs, h1, h2, h3⟩ := ih
    obtain ⟨k, as, r⟩ := a
    obtain ⟨a, o, n, ws, zs, bs, i, t, e1, e2, e3, e4, e5, e6, e7, e8⟩ := tup1_reads k r
    refine ⟨.int i t :: fs, ?_, by simp [h2], ?_⟩
    · unfold PySem.W.KatTups
      exact ⟨⟨a, o, ws, n, e1, e2, e3, e4, e8⟩, h1⟩
    · intro f hf
      rcases List.mem_cons.mp hf with rfl | hf
      · exact ⟨i, t, rfl⟩
      · exact h3 f hf
theorem paired_imp {α β : Type} {R T : α → β → Prop} {xs : List α} {ys : List β} (h : Paired R xs ys) (i : ∀ x ∈ xs, ∀ y, R x y → T x y) : Paired T xs ys := by
  induction h with
  | nil => exact .nil
  | cons a _ ih => exact .cons (i _ List.mem_cons_self _ a) (ih fun x hx => i x (List.mem_cons_of_mem _ hx))
theorem sorted_data (hu : X.A.units + 80 < cLine) {pins : List (Addr × Obj)} {σ : L2.St} {H : Hp} {s : Shared} {x : Value} {S : Sto} {vs : List Val} {us : List Value} {Q : VK} (I : Inv X pins σ H s) (c : Cor X.K S H)
    (hcol : ∀ Q' : List Value → Shared → Prop, (∀ h' tk, (∀ b o, s.heap.get? b = some o → h'.get? b = some o) → Q' us { s with heap := h', toks := tk }) → wpAny (model X.prog X.w) X.A.in1 (collect x) Q' X.xe s)
    (hp : Paired (RV X.K H) vs us) (hz : us.length ≤ sizeLine) (ok : SrtOk vs)
    (q : ∀ ws : List Val, ws.Perm vs → SrtV ws → ∀ ys, RepVs X.K H ws ys → ∀ p, H p = none → Q (.ref p) (upd H p (.lst ys))) : wpAny (model X.prog X.w) X.A (call (.builtin "sorted") [x]) (EP X pins σ Q) X.xe s := by
  have rd : ∀ {s' : Shared}, Inv X pins σ H s' → ∀ u ∈ us, ∃ v ∈ vs, RV X.K H v u ∧ ∃ as, Reads s'.heap u (toD v) as := fun I' u hu' => by
    obtain ⟨v, hv, r⟩ := pd_mem2 hp u hu'
    exact ⟨v, hv, r, rv_reads I' r (ok.1 v hv).2⟩
  have ky : ∀ {v : Val} {u : Value}, v ∈ vs → RV X.K H v u → keyAt s.heap u = flV v := fun {v u} hv r => by
    obtain ⟨as, h⟩ := rv_reads I r (ok.1 v hv).2
    exact keyAt_of h (ok.2 v hv v hv)
  refine SrtO.sorted_col (C := fun s1 vs' => vs' = us ∧ ∃ h' tk, (∀ b o, s.heap.get? b = some o → h'.get? b = some o) ∧ s1 = { s with heap := h', toks := tk }) (fun Q' hq => hcol Q' fun h' tk k => hq _ _ ⟨rfl, h', tk, k, rfl⟩) ?_
  rintro s1 vs' ⟨rfl, h', tk, k, rfl⟩
  have I1 : Inv X pins σ H { s with heap := h', toks := tk } := I.kept (t' := tk) k
  refine ⟨hz, fun u x => lexL (keyAt s.heap u) (keyAt s.heap x), lexL_swo _, fun h2 => ?_, fun out h1 h2 => ?_⟩
  · intro h'' kk
    have k2 : ∀ b o, s.heap.get? b = some o → h''.get? b = some o := fun b o e => by
      have e1 := k b o e
      have hlt := Heap.lt_size e1
      refine kk b o (Nat.ne_of_lt hlt) ?_
      exact Heap.get?_push_of_some _ e1
    have I2 : Inv X pins σ H { s with heap := h'', toks := tk } := I.kept (t' := tk) k2
    refine ⟨PyProof.Rows.tuples' true, fun Q E hq => ?_, fun p r hp' hr' => ?_⟩
    · obtain ⟨fs, f1, f2, f3⟩ := katTups (h := h'') (paired_imp (T := fun v u => tup1 v = true ∧ ∃ as, Reads h'' u (toD v) as) hp fun v hv u r => ⟨(ok.1 v hv).1, rv_reads I2 r (ok.1 v hv).2⟩)
      refine PySem.W.kat_kind (T := .type "int") f1 (by omega) (fun v hv => ?_) (by decide +kernel) ?_
      · obtain ⟨i, t, rfl⟩ := f3 v hv
        exact PySem.W.Looks.of_pure rfl
      · rw [show (Value.type "int" != Value.type "tuple") = true by decide +kernel]
        exact hq
    · obtain ⟨v, hv, rv, as, r1⟩ := rd I2 _ hp'
      obtain ⟨w, hw, rw_, bs, r2⟩ := rd I2 _ hr'
      obtain ⟨a, o, n, ws, zs, cs, i, t, e1, e2, e3, e4, e5, e6, e7, e8⟩ := tup1_reads (ok.1 v hv).1 r1
      obtain ⟨a', o', n', ws', zs', cs', i', t', e1', e2', e3', e4', e5', e6', e7', e8'⟩ := tup1_reads (ok.1 w hw).1 r2
      have hsh := ok.2 v hv w hw
      have key : shVs zs zs' = true ∧ flV v = flVs zs ∧ flV w = flVs zs' ∧ dpVs zs ≤ 64 := by
        have d := okD_dp (ok.1 v hv).2 (ok.2 v hv v hv)
        rcases e6 with rfl | rfl <;> rcases e6' with rfl | rfl <;> simp only [shV, Bool.false_eq_true] at hsh <;> simp only [dpV] at d <;> exact ⟨hsh, by simp only [flV], by simp only [flV], by omega⟩
      have hl : ws.size = ws'.size := by
        have a1 := reads_len e5
        have a2 := reads_len e5'
        have a3 := shVs_len' _ _ key.1
        rw [Array.length_toList] at a1 a2
        omega
      rw [e1, e1']
      refine PySem.W.kat_lt e2 e4 e2' e4' ?_
      rw [show decide (ws.size < ws'.size) = false by rw [decide_eq_false_iff_not]; omega]
      refine katlex (by show X.A.units + 1 + 1 + 70 < _; omega) key.1 key.2.2.2 e5 e5' (fun _ => let ⟨r, e⟩ := e7; ⟨i, r, e⟩) ⟨rfl, ?_⟩
      show lexL (flVs zs) (flVs zs') = lexL (keyAt s.heap p.fst) (keyAt s.heap r.fst)
      rw [ky hv rv, ky hw rw_, key.2.1, key.2.2.1]
  · obtain ⟨ws, p1, p2⟩ := paired_perm h2.perm.symm hp
    obtain ⟨ys, y1, y2⟩ := rv_split p1
    have hs : SrtV ws := pd_pw p1 (fun a ha b hb y _ y' _ r r' hlt => by
      have hlt' : lexL (keyAt s.heap y') (keyAt s.heap y) = false := hlt
      rw [ky (p2.mem_iff.mpr ha) r, ky (p2.mem_iff.mpr hb) r'] at hlt'
      exact hlt') h1
    exact ⟨.ref _, _, sorted_laid (s1 := { s with heap := h', toks := tk }) I1 (fun _ _ z => z) (Nat.le_refl _) rfl rfl (zs := ys) (by rw [y2.length]; rw [h2.perm.length_eq]; exact hz) y2, rfl, q ws p2.symm hs ys y1 _ (I1.hok.fresh (Nat.le_refl _))⟩

/-- sorted(a list) -/
theorem sorted_listT (hu : X.A.units + 80 < cLine) {pins : List (Addr × Obj)} {σ : L2.St} {H : Hp} {s : Shared} {a : Addr} {S : Sto} {vs : List Val} {xs : List V} {Q : VK} (I : Inv X pins σ H s) (c : Cor X.K S H) (hs : SqL X.K H a xs) (rv : RepVs X.K H vs xs) (ok : SrtOk vs)
    (q : ∀ ws : List Val, ws.Perm vs → SrtV ws → ∀ ys, RepVs X.K H ws ys → ∀ p, H p = none → Q (.ref p) (upd H p (.lst ys))) : wpAny (model X.prog X.w) X.A (call (.builtin "sorted") [.ref a]) (EP X pins σ Q) X.xe s := by
  obtain ⟨its, v, pl, hz⟩ := I.list hs
  have hz' : its.length ≤ sizeLine := by rw [← v.length]; exact hz
  refine sorted_data hu I c (fun Q' hq => ?_) (rv_join rv v) hz' ok q
  obtain ⟨o, n, ho, hc, _, hd⟩ := pl
  exact wpAny_collect_seq a (.inl rfl) ho hc hd (fun h' k => hq h' _ k) (by rw [List.size_toArray]; exact hz')
/-- sorted(a dict) -/
theorem sorted_dictT (hc : X.calm = true) (hu : X.A.units + 80 < cLine) {pins : List (Addr × Obj)} {σ : L2.St} {H : Hp} {s : Shared} {a : Addr} {S : Sto} {kvs : List (List Key × Val)} {us : List (List Key × V)} {Q : VK} (I : Inv X pins σ H s) (c : Cor X.K S H) (hd : H a = some (.dT us)) (rk : RepK X.K H kvs us)
    (ok : SrtOk (kvs.map fun kv => .ptup (kv.1.map kval)))
    (q : ∀ ws : List Val, ws.Perm (kvs.map fun kv => .ptup (kv.1.map kval)) → SrtV ws → ∀ ys, RepVs X.K H ws ys → ∀ p, H p = none → Q (.ref p) (upd H p (.lst ys))) : wpAny (model X.prog X.w) X.A (call (.builtin "sorted") [.ref a]) (EP X pins σ Q) X.xe s := by
  obtain ⟨hz, hsm, xs, kt, o, es, ep, ho, hex, hda, hes, hkey, hnd⟩ := dt_of I.hok hd
  have hlen : xs.length = us.length := kt.length.symm
  have hel : es.toList = xs.map (entryOfKey (tupleKind (mixKind X.prog X.w))) := hes
  have hesz : es.size = us.length := by rw [← Array.length_toList, hel, List.length_map, hlen]
  have hp : Paired (RV X.K H) (kvs.map fun kv => Val.ptup (kv.1.map kval)) (xs.map fun e => Value.ref e.2.1) := by
    clear hel hes hkey hnd hesz hda q ok hlen hz hd
    unfold RepK at rk
    induction rk generalizing xs with
    | nil => cases kt; exact .nil
    | cons p _ ih =>
      cases kt with
      | cons k1 k2 =>
        refine .cons ⟨.ref _, ?_, rfl⟩ (ih _ k2)
        simp only [RepV]
        refine ⟨_, _, rfl, k1.2.1, ?_⟩
        rw [p.1]
        exact rep_kvals
  refine sorted_data hu I c (fun Q' hq => ?_) hp (by rw [List.length_map, hlen]; exact hz) ok q
  refine PySem.W.kdu_collect (kdl_raw (prog := X.prog) (w := X.w) hsm hex hda) (I.ok.hd hc) ho (by rw [hesz]; exact hz) fun h' tk acc k it => ?_
  have e : acc.toList = xs.map fun e => Value.ref e.2.1 := by
    apply List.ext_getElem?
    intro j
    rw [Array.getElem?_toList, List.getElem?_map]
    cases ha : acc[j]? with
    | none =>
      have h1 : acc.size ≤ j := Array.getElem?_eq_none_iff.mp ha
      rw [List.getElem?_eq_none (by rw [it.1, hesz, ← hlen] at h1; exact h1)]; rfl
    | some v =>
      obtain ⟨en, h1, rfl⟩ := it.2 j v ha
      rw [← Array.getElem?_toList, hel, List.getElem?_map] at h1
      cases hx : xs[j]? with
      | none => rw [hx] at h1; cases h1
      | some z => rw [hx] at h1; cases h1; rfl
  rw [e]
  exact hq h' tk k
end
end M

set_option maxHeartbeats 1000000
namespace M
open PySem PySem.Spec PyProof.Rows L2
theorem argBest_gt {val : Nat → Int} : ∀ (k j : Nat), j ≤ k → PySem.argBest (fun i j => decide (val i > val j)) k ≤ k ∧ val j ≤ val (PySem.argBest (fun i j => decide (val i > val j)) k)
  | 0, j, h => by
    have : j = 0 := by omega
    subst this
    simp [PySem.argBest]
  | k + 1, j, h => by
    have h1 := fun j hj => argBest_gt (val := val) k j hj
    simp only [PySem.argBest]
    split
    · rename_i e
      simp only [decide_eq_true_eq] at e
      refine ⟨Nat.le_refl _, ?_⟩
      by_cases c : j = k + 1
      · subst c; exact Int.le_refl _
      · have := (h1 j (by omega)).2; omega
    · rename_i e
      simp only [decide_eq_true_eq] at e
      refine ⟨by have := (h1 0 (by omega)).1; omega, ?_⟩
      by_cases c : j = k + 1
      · subst c; omega
      · exact (h1 j (by omega)).2
section
variable {X : Cx}
theorem max_tup (hc : X.calm = true) {pins : List (Addr × Obj)} {σ : L2.St} {H : Hp} {s : Shared} {a : Addr} {ns : List Int} {Q : VK} (I : Inv X pins σ H s) (hs : SqT X.K H a (ns.map V.int)) (hn : 0 < ns.length)
    (q : ∀ m, m ∈ ns → (∀ y ∈ ns, y ≤ m) → Q (.int m) H) : wpAny (model X.prog X.w) X.A (call (.builtin "max") [.ref a]) (EP X pins σ Q) X.xe s := by
  obtain ⟨its, rv, hl, hz⟩ := I.tuple hs
  have hi : IntsAre its ns := rv.ints
  have hlen : its.length = ns.length := by rw [← rv.length, List.length_map]
  obtain ⟨o, ho, hcl, n, hd⟩ := hl
  have hlt : a < s.heap.objs.size := Heap.lt_size ho
  have key : ∀ (i : Nat) (v : Value), its.toArray[i]? = some v → ∃ t, v = .int (ns.getD i 0) t := fun i v e => by
    have e' : its[i]? = some v := by simpa using e
    have hi2 : i < ns.length := by rw [← hlen]; exact (List.getElem?_eq_some_iff.mp e').1
    obtain ⟨w, hw, t, hw'⟩ := rv.get (i := i) (x := .int ns[i]) (by simp [hi2])
    rw [e'] at hw; cases hw
    exact ⟨t, by rw [hw', List.getD_eq_getElem?_getD, List.getElem?_eq_getElem hi2]; rfl⟩
  refine PySem.call_max_walk (PySem.wpAny_pyIter_tuple (items := its.toArray) ⟨o, ho, hcl, n, hd⟩ ?_)
  refine ⟨s.heap.objs.size, [s.heap.objs.size, a], [s.heap.objs.size], its.toArray.size, _, _, _, rfl, PySem.Walks.tuple (A := X.A.in1) (I.ok.hd hc) _ a (Nat.ne_of_lt hlt) its.toArray, And.intro ?_ ⟨o, Heap.get?_push_of_some _ ho, hcl, n, hd⟩, ?_, ?_, PySem.CmpOf.ints_gt (fun i => ns.getD i 0) key, ?_⟩
  · exact ⟨_, Heap.get?_push_size _ rfl, rfl, rfl⟩
  · intro b hb
    rw [size_push']
    simp only [List.mem_cons, List.not_mem_nil, or_false] at hb
    rcases hb with rfl | rfl
    · exact Nat.lt_succ_self _
    · exact Nat.lt_succ_of_lt hlt
  · simp; omega
  · intro v h' tk hP hk
    obtain ⟨t, rfl⟩ := key _ _ hP
    have I2 : Inv X pins σ H { s with heap := h', toks := tk } := I.kept (t' := tk) fun b u e => hk b u (by simp; exact Nat.ne_of_lt (Heap.lt_size e)) (Heap.get?_push_of_some _ e)
    have hb := fun j (hj : j < ns.length) => argBest_gt (val := fun i => ns.getD i 0) (its.toArray.size - 1) j (by simp; omega)
    have h0 := hb 0 hn
    have hlt2 : PySem.argBest (fun i j => decide (ns.getD i 0 > ns.getD j 0)) (its.toArray.size - 1) < ns.length := by
      have := h0.1
      simp at this ⊢; omega
    refine ⟨.int _, H, I2, ⟨t, rfl⟩, q _ ?_ fun y hy => ?_⟩
    · rw [List.getD_eq_getElem?_getD, List.getElem?_eq_getElem hlt2]; exact List.getElem_mem hlt2
    · obtain ⟨j, hj, rfl⟩ := List.getElem_of_mem hy
      have := (hb j hj).2
      have e : ns.getD j 0 = ns[j] := by rw [List.getD_eq_getElem?_getD, List.getElem?_eq_getElem hj]; rfl
      simp only [e] at this
      exact this
end
end M

set_option maxHeartbeats 1000000
namespace M
open PySem PySem.Spec L2
def lN (K : PySem.W.Frag) (f : List Val → Sto → Post → Prop) : List V → Hp → VK → Prop := fun xs H Q => ∃ vs S, RepVs K H vs xs ∧ Cor K S H ∧ f vs S (fin K S H Q)
def bltTy : Blt → Bool
  | .int1 | .str1 | .list1 | .tuple1 | .set1 | .bool1 => true
  | _ => false
def bltId : Blt → String
  | .len => "len" | .abs => "abs" | .min2 => "min" | .max2 => "max" | .int1 => "int" | .str1 => "str" | .list1 => "list" | .tuple1 => "tuple"
  | .sorted1 | .sortT | .sortD => "sorted" | .set1 => "set" | .sum1 => "sum" | .min1 => "min" | .max1 => "max" | .bool1 => "bool"
def bltVal (b : Blt) : Value := if bltTy b = true then .type (bltId b) else .builtin (bltId b)
def bltName : Blt → Str
  | .len => "len" | .abs => "abs" | .min2 => "min" | .max2 => "max" | .int1 => "int" | .str1 => "str" | .list1 => "list" | .tuple1 => "tuple"
  | .sorted1 | .sortT | .sortD => "sorted" | .set1 => "set" | .sum1 => "sum" | .min1 => "min" | .max1 => "max" | .bool1 => "bool"
theorem bltBoot : ∀ b : Blt, bootBuiltins (bltName b) = some (bltVal b) := by
  intro b; cases b <;> decide +kernel
theorem bltNN : ∀ b : Blt, bltName b ≠ "__name__" ∧ (bltName b == ("__debug__" : Str)) = false := by
  intro b; cases b <;> decide +kernel
section
variable {K : PySem.W.Frag} {H : Hp}
theorem reps1 {v : Val} {xs : List V} (h : RepVs K H [v] xs) : ∃ x, xs = [x] ∧ RepV K H v x := by
  simp only [RepVs] at h
  obtain ⟨y, ys, rfl, a, rfl⟩ := h
  exact ⟨y, rfl, a⟩
theorem reps2 {v w : Val} {xs : List V} (h : RepVs K H [v, w] xs) : ∃ x y, xs = [x, y] ∧ RepV K H v x ∧ RepV K H w y := by
  simp only [RepVs] at h
  obtain ⟨y, ys, rfl, a, z, zs, rfl, b, rfl⟩ := h
  exact ⟨y, z, rfl, a, b⟩
theorem ints_reps : ∀ (ns : List Int) {xs : List V}, RepVs K H (ns.map .int) xs → xs = ns.map V.int
  | [], _, h => by simpa only [List.map_nil, RepVs] using h
  | n :: ns, _, h => by
    simp only [List.map_cons, RepVs, RepV] at h ⊢
    obtain ⟨y, ys, rfl, rfl, h⟩ := h
    rw [ints_reps ns h]
theorem reps_ints : ∀ (ns : List Int), RepVs K H (ns.map .int) (ns.map V.int)
  | [] => .nil
  | n :: ns => .cons (by simp only [RepV]) (reps_ints ns)
theorem reps0 {xs : List V} (h : RepVs K H [] xs) : xs = [] := by simpa only [RepVs] using h
theorem valD_rep {S : Sto} {v : Val} {x : V} {ys : List Val} (c : Cor K S H) (r : RepV K H v x) (h : valD S v ys) : ∃ p xs, x = .ref p ∧ RepVs K H ys xs ∧ ((∃ a, v = .ref a ∧ SqL K H p xs) ∨ (SqN K H p xs ∧ v = .tup ys) ∨ H p = some (.tup xs) ∧ v = .ptup ys) := by
  cases v <;> simp only [valD, RepV] at h r
  · subst h
    obtain ⟨p, xs, rfl, t, r⟩ := r
    exact ⟨p, xs, rfl, r, .inr (.inl ⟨t, rfl⟩)⟩
  · subst r
    obtain ⟨xs, e, r⟩ := c.rd h
    exact ⟨_, xs, rfl, r, .inl ⟨_, rfl, e⟩⟩
  · subst h
    obtain ⟨p, xs, rfl, hp, r⟩ := r
    exact ⟨p, _, rfl, r, .inr (.inr ⟨hp, rfl⟩)⟩
end
section
variable {X : Cx}
theorem CallR.imp {f : Value} {r : List V → Hp → VK → Prop} {pins : List (Addr × Obj)} {s : Shared} {σ : L2.St} {H : Hp} {xs : List V} {us : List Value} {Q : VK} (h : CallR X f r) (I : Inv X pins σ H s) (rx : Vals xs us) (q : r xs H Q) :
    wpAny (model X.prog X.w) X.A (call f us) (EP X pins σ Q) X.xe s := h pins s σ H xs us Q I rx q
theorem blt_snd (hc : X.calm = true) (hu : X.A.units + 80 < cLine) (b : Blt) : CallR X (bltVal b) (lN X.K (wBlt b)) := fun pins s σ H xs us Q I rx ⟨vs, S, rv, c, q⟩ => by
  unfold wBlt at q
  split at q
  · -- len of a tuple
    obtain ⟨x, rfl, r⟩ := reps1 rv
    simp only [RepV] at r
    obtain ⟨p, xs, rfl, t, r⟩ := r
    refine CallR.imp call_len I rx ⟨_, _, rfl, .inr ⟨xs, t.sq, rfl⟩, ?_⟩
    rw [r.length]; exact q.int c
  · obtain ⟨x, rfl, r⟩ := reps1 rv
    simp only [RepV] at r; subst r
    split at q
    · rename_i e
      obtain ⟨xs, e, r⟩ := c.rd (.lst e)
      refine CallR.imp call_len I rx ⟨_, _, rfl, .inl ⟨xs, e, rfl⟩, ?_⟩
      rw [r.length]; exact q.int c
    · rename_i e
      obtain ⟨xs, e, r⟩ := c.rd (.ro e)
      refine CallR.imp call_len I rx ⟨_, _, rfl, .inl ⟨xs, e, rfl⟩, ?_⟩
      rw [r.length]; exact q.int c
    · rename_i kvs e
      have := c _ _ e
      simp only [RepA] at this
      obtain ⟨us', e, r⟩ := this
      refine CallR.imp call_lenD I rx ⟨_, us', rfl, e, ?_⟩
      have hl : kvs.length = us'.length := Paired.length r
      rw [← hl]; exact q.int c
    · rename_i kvs e
      have := c _ _ e
      simp only [RepA] at this
      obtain ⟨us', e, r⟩ := this
      refine CallR.imp call_len_dT I rx ⟨_, us', rfl, e, ?_⟩
      have hl : kvs.length = us'.length := Paired.length r
      rw [← hl]; exact q.int c
    · exact q.elim
  · obtain ⟨x, rfl, r⟩ := reps1 rv
    simp only [RepV] at r; subst r
    exact CallR.imp call_len I rx ⟨_, _, rfl, ⟨q.1, rfl⟩, q.2.int c⟩
  · obtain ⟨x, rfl, r⟩ := reps1 rv
    simp only [RepV] at r; subst r
    exact CallR.imp call_abs I rx ⟨_, rfl, q.int c⟩
  · obtain ⟨x, y, rfl, r, r'⟩ := reps2 rv
    simp only [RepV] at r r'; subst r; subst r'
    exact CallR.imp (call_min2 hc) I rx ⟨_, _, rfl, q.int c⟩
  · obtain ⟨x, y, rfl, r, r'⟩ := reps2 rv
    simp only [RepV] at r r'; subst r; subst r'
    exact CallR.imp (call_max2 hc) I rx ⟨_, _, rfl, q.int c⟩
  · obtain ⟨x, rfl, r⟩ := reps1 rv
    simp only [RepV] at r; subst r
    exact CallR.imp call_int1 I rx (.inl ⟨_, rfl, q.int c⟩)
  · obtain ⟨x, rfl, r⟩ := reps1 rv
    simp only [RepV] at r; subst r
    exact CallR.imp call_int1 I rx (.inr ⟨_, rfl, q.int c⟩)
  · obtain ⟨x, rfl, r⟩ := reps1 rv
    simp only [RepV] at r; subst r
    exact CallR.imp call_bool1 I rx (.inl ⟨_, rfl, q.bl c⟩)
  · obtain ⟨x, rfl, r⟩ := reps1 rv
    simp only [RepV] at r; subst r
    exact CallR.imp call_str_int I rx ⟨_, rfl, q.1, q.2.str c⟩
  · obtain ⟨x, rfl, r⟩ := reps1 rv
    obtain ⟨ys, hv, q⟩ := q
    obtain ⟨p, xs, rfl, r, h | h | h⟩ := valD_rep c r hv
    · obtain ⟨a, e, t⟩ := h
      exact CallR.imp call_list_of I rx ⟨p, xs, rfl, .inl t, fun l hl => fin.lstN c q r hl⟩
    · exact CallR.imp call_list_of I rx ⟨p, xs, rfl, .inr h.1.sq, fun l hl => fin.lstN c q r hl⟩
    · exact CallR.imp call_list_of I rx ⟨p, xs, rfl, .inr (.inl (.inl h.1)), fun l hl => fin.lstN c q r hl⟩
  · obtain ⟨x, rfl, r⟩ := reps1 rv
    have r0 := r
    simp only [RepV] at r
    obtain ⟨p, xs, rfl, t, r⟩ := r
    exact CallR.imp call_tupN I rx ⟨p, xs, rfl, .inr ⟨.inl (.inl t), q H _ .refl c r0⟩⟩
  · obtain ⟨x, rfl, r⟩ := reps1 rv
    have r0 := r
    simp only [RepV] at r
    obtain ⟨p, xs, rfl, t, r⟩ := r
    exact CallR.imp call_tupN I rx ⟨p, xs, rfl, .inr ⟨t.sq, q H _ .refl c r0⟩⟩
  · obtain ⟨x, rfl, r⟩ := reps1 rv
    simp only [RepV] at r; subst r
    obtain ⟨ys, hv, q⟩ := q
    obtain ⟨xs, t, r⟩ := c.rd hv
    exact CallR.imp call_tupN I rx ⟨_, xs, rfl, .inl ⟨t, fun l o hl ho => q.tupN c r hl ho⟩⟩
  · obtain ⟨x, rfl, r⟩ := reps1 rv
    simp only [RepV] at r
    obtain ⟨p, xs, rfl, tt, r⟩ := r
    obtain ⟨ns, rfl, hn, q⟩ := q
    have := ints_reps ns r; subst this
    rw [Vals.ref1 rx]
    exact max_tup hc I tt.sq hn fun m h1 h2 => (q m h1 h2).int c
  · obtain ⟨x, rfl, r⟩ := reps1 rv
    simp only [RepV] at r; subst r
    obtain ⟨ns, l, hn, q⟩ := q
    obtain ⟨xs, t, rx'⟩ := c.rd l
    have := ints_reps ns rx'; subst this
    exact CallR.imp (cr_max hc) I rx ⟨_, ns, rfl, t, hn, fun m h1 h2 => (q m h1 h2).int c⟩
  · obtain ⟨x, rfl, r⟩ := reps1 rv
    simp only [RepV] at r; subst r
    obtain ⟨ns, l, hn, q⟩ := q
    obtain ⟨xs, t, rx'⟩ := c.rd l
    have := ints_reps ns rx'; subst this
    exact CallR.imp (cr_min hc) I rx ⟨_, ns, rfl, t, hn, fun m h1 h2 => (q m h1 h2).int c⟩
  · obtain ⟨x, rfl, r⟩ := reps1 rv
    simp only [RepV] at r; subst r
    obtain ⟨ns, l, q⟩ := q
    obtain ⟨xs, t, rx'⟩ := c.rd l
    have := ints_reps ns rx'; subst this
    exact CallR.imp (cr_sum hc) I rx ⟨_, ns, rfl, t, q.int c⟩
  · obtain ⟨x, rfl, r⟩ := reps1 rv
    simp only [RepV] at r; subst r
    obtain ⟨ns, l, q⟩ := q
    obtain ⟨xs, t, rx'⟩ := c.rd l
    have := ints_reps ns rx'; subst this
    exact CallR.imp cr_sortedI I rx ⟨_, ns, rfl, t, fun ns' p h1 h2 hp => fin.lstN c (fun p hp => q ns' h1 h2 p hp) (reps_ints ns') hp⟩
  · obtain ⟨x, rfl, r⟩ := reps1 rv
    simp only [RepV] at r; subst r
    obtain ⟨ns, l, ok, q⟩ := q
    obtain ⟨xs, t, rx'⟩ := c.rd l
    rw [Vals.ref1 rx]
    exact sorted_listT hu I c t rx' ok fun ws h1 h2 ys ry p hp => fin.lstN c (fun p hp => q ws h1 h2 p hp) ry hp
  · obtain ⟨x, rfl, r⟩ := reps1 rv
    simp only [RepV] at r; subst r
    obtain ⟨kvs, l, ok, q⟩ := q
    have hd := c _ _ l
    simp only [RepA] at hd
    obtain ⟨us', e, rk⟩ := hd
    rw [Vals.ref1 rx]
    exact sorted_dictT hc hu I c e rk ok fun ws h1 h2 ys ry p hp => fin.lstN c (fun p hp => q ws h1 h2 p hp) ry hp
  · obtain ⟨x, rfl, r⟩ := reps1 rv
    simp only [RepV] at r
    obtain ⟨p, xs, rfl, t, r⟩ := r
    obtain ⟨ns, rfl, q⟩ := q
    have := ints_reps ns r; subst this
    exact CallR.imp cr_sortedTI I rx ⟨_, ns, rfl, t.sq, fun ns' p h1 h2 hp => fin.lstN c (fun p hp => q ns' h1 h2 p hp) (reps_ints ns') hp⟩
  · obtain ⟨x, rfl, r⟩ := reps1 rv
    simp only [RepV] at r
    obtain ⟨p, xs, rfl, hp, r⟩ := r
    refine CallR.imp call_len I rx ⟨_, _, rfl, .inr ⟨_, .inl (.inl hp), rfl⟩, ?_⟩
    rw [r.length]; exact q.int c
  · exact q.elim
def mthTy : Mth → String
  | .split | .join | .sindex => "str"
  | .dget1 | .dget2 | .dkeys | .dsetd => "dict"
  | .tindex | .tcount => "tuple"
  | _ => "list"
def mthName : Mth → Str
  | .append => "append" | .pop0 => "pop" | .pop1 => "pop" | .extend => "extend" | .insert => "insert" | .remove => "remove" | .reverse => "reverse" | .index => "index" | .count => "count"
  | .dget1 => "get" | .dget2 => "get" | .dkeys => "keys" | .split => "split" | .join => "join" | .sindex => "index" | .dsetd => "setdefault" | .tindex => "index" | .tcount => "count"
def mthId : Mth → String
  | .append => "list.append" | .pop0 => "list.pop" | .pop1 => "list.pop" | .extend => "list.extend" | .insert => "list.insert" | .remove => "list.remove" | .reverse => "list.reverse" | .index => "list.index" | .count => "list.count"
  | .dget1 => "dict.get" | .dget2 => "dict.get" | .dkeys => "dict.keys" | .split => "str.split" | .join => "str.join" | .sindex => "str.index" | .dsetd => "dict.setdefault" | .tindex => "tuple.index" | .tcount => "tuple.count"
theorem tyM_rep {K : PySem.W.Frag} {S : Sto} {H : Hp} {m : Mth} {v : Val} {x : V} (c : Cor K S H) (r : RepV K H v x) (h : tyM m v S) (hn : m ≠ .tindex) : tyV K (mthTy m) x H := by
  unfold tyM at h
  split at h
  case h_14 => exact h.elim
  case h_1 => simp only [RepV] at r; subst r; rfl
  case h_2 => simp only [RepV] at r; subst r; rfl
  case h_3 => simp only [RepV] at r; subst r; rfl
  case h_13 => exact (hn rfl).elim
  all_goals
    simp only [RepV] at r; subst r
    obtain ⟨xs, e⟩ := h
    obtain ⟨ys, e, _⟩ := c.rd e
    exact Or.inl ⟨rfl, ys, e⟩
def lM (K : PySem.W.Frag) (f : Val → List Val → Sto → Post → Prop) : V → List V → Hp → VK → Prop := fun x xs H Q => ∃ v vs S, RepV K H v x ∧ RepVs K H vs xs ∧ Cor K S H ∧ f v vs S (fin K S H Q)
theorem fin.chg {K : PySem.W.Frag} {S : Sto} {H : Hp} {Q : VK} {a : Addr} {vs ws : List Val} {xs ys : List V} (c : Cor K S H) (hs : S a = some (.lst vs)) (e : H a = some (.lst xs)) (r : RepVs K H ws ys) {w : Val} {z : V} (rw' : RepV K H w z)
    (q : fin K S H Q w (S.upd a (.lst ws))) : Q z (upd H a (.lst ys)) :=
  q _ _ (.chg hs e trivial) (c.setL hs e r) (RepV.evo' (chg_tup e trivial) (chg_frz e trivial) _ rw')
theorem seqIx_nat {i : Int} {n : Nat} (h : 0 ≤ i) (hn : i.toNat < n) : seqIndex? i n = some i.toNat := by
  unfold seqIndex?
  split <;> first | (simp; omega) | skip
theorem strs_reps {K : PySem.W.Frag} {H : Hp} : ∀ (ys : List Str) {zs : List V}, RepVs K H (ys.map Val.str) zs → zs = ys.map V.str
  | [], zs, r => by
    cases zs with
    | nil => rfl
    | cons _ _ => simp only [List.map_nil, RepVs] at r; cases r
  | y :: ys, zs, r => by
    simp only [List.map_cons, RepVs] at r
    obtain ⟨a, b, rfl, h1, h2⟩ := r
    simp only [RepV] at h1
    rw [h1, strs_reps ys h2]; rfl
theorem mth_snd (m : Mth) : MtM X (mthId m) (lM X.K (wMth m)) := fun pins s σ H x xs v us Q I rx rxs ⟨w, ws, S, ra, rv, c, q⟩ => by
  unfold wMth at q
  split at q
  · simp only [RepV] at ra; subst ra
    obtain ⟨y, rfl, r⟩ := reps1 rv
    obtain ⟨ys, hs, hl, q⟩ := q
    obtain ⟨zs, e, rz⟩ := c.lst hs
    refine mt_append pins s σ H _ _ v us Q I rx rxs ⟨_, zs, y, rfl, rfl, e, by rw [rz.length]; exact hl, ?_⟩
    exact fin.chg c hs e (rz.append (.cons r .nil)) (by simp only [RepV]) q
  · simp only [RepV] at ra; subst ra
    have := reps0 rv; subst this
    obtain ⟨ys, y, hs, hl, q⟩ := q
    obtain ⟨zs, e, rz⟩ := c.lst hs
    rw [List.getLast?_eq_getElem?] at hl
    obtain ⟨z, ez, r⟩ := rz.get hl
    refine mt_pop pins s σ H _ _ v us Q I rx rxs ⟨_, zs, z, rfl, rfl, e, by rw [rz.length]; exact ez, ?_⟩
    exact fin.chg c hs e rz.dropLast r q
  · simp only [RepV] at ra; subst ra
    obtain ⟨y, rfl, r⟩ := reps1 rv
    simp only [RepV] at r; subst r
    obtain ⟨ys, y, hs, h0, h1, hl, q⟩ := q
    obtain ⟨zs, e, rz⟩ := c.lst hs
    obtain ⟨z, ez, r⟩ := rz.get hl
    have hb := (List.getElem?_eq_some_iff.mp ez).1
    refine mt_popAt pins s σ H _ _ v us Q I rx rxs ⟨_, zs, _, _, z, rfl, rfl, e, by omega, by omega, seqIx_nat h0 hb, ez, ?_⟩
    exact fin.chg c hs e (rz.erase _) r q
  · simp only [RepV] at ra; subst ra
    obtain ⟨y, y', rfl, r, r'⟩ := reps2 rv
    simp only [RepV] at r; subst r
    obtain ⟨ys, hs, hz, h0, h1, q⟩ := q
    obtain ⟨zs, e, rz⟩ := c.lst hs
    refine mt_insert pins s σ H _ _ v us Q I rx rxs ⟨_, zs, _, y', rfl, rfl, e, by rw [rz.length]; exact hz, h0, by omega, ?_⟩
    exact fin.chg c hs e (((rz.take _).append (.cons r' .nil)).append (rz.drop _)) (by simp only [RepV]) q
  · simp only [RepV] at ra; subst ra
    obtain ⟨y, rfl, r⟩ := reps1 rv
    simp only [RepV] at r; subst r
    obtain ⟨xs, ys, hs, hs', hz, q⟩ := q
    obtain ⟨xs', e, rz⟩ := c.lst hs
    obtain ⟨ys', e', rz'⟩ := c.lst hs'
    refine mt_extend pins s σ H _ _ v us Q I rx rxs ⟨_, _, xs', ys', rfl, rfl, e, e', by rw [rz.length, rz'.length]; exact hz, ?_⟩
    exact fin.chg c hs e (rz.append rz') (by simp only [RepV]) q
  · simp only [RepV] at ra; subst ra
    obtain ⟨y, rfl, r⟩ := reps1 rv
    simp only [RepV] at r; subst r
    obtain ⟨ns, l, q⟩ := q
    obtain ⟨xs, t, rx'⟩ := c.rd l
    have := ints_reps ns rx'; subst this
    exact mt_lcount pins s σ H _ _ v us Q I rx rxs ⟨_, ns, _, rfl, rfl, t, q.int c⟩
  · simp only [RepV] at ra; subst ra
    obtain ⟨y, rfl, r⟩ := reps1 rv
    simp only [RepV] at r; subst r
    obtain ⟨ns, j, l, hj, hno, q⟩ := q
    obtain ⟨xs, t, rx'⟩ := c.rd l
    have := ints_reps ns rx'; subst this
    refine mt_index pins s σ H _ _ v us Q I rx rxs ⟨_, _, _, j, _, rfl, rfl, t, rfl, ?_, by rw [List.getElem?_map, hj]; rfl, by simp [eqV], fun m z hm hz => ?_, q.int c⟩
    · simp [flatV]
    · rw [List.getElem?_map] at hz
      cases e : ns[m]? with
      | none => rw [e] at hz; cases hz
      | some n =>
        rw [e] at hz; cases hz
        have := hno m hm
        rw [e] at this
        simp [eqV]
        intro h; exact this (by rw [h])
  · simp only [RepV] at ra
    obtain ⟨p, xs, rfl, t, r⟩ := ra
    obtain ⟨y, rfl, ry⟩ := reps1 rv
    simp only [RepV] at ry; subst ry
    obtain ⟨ns, j, rfl, hj, hno, q⟩ := q
    have := ints_reps ns r; subst this
    exact mt_tup_indexI pins s σ H _ _ v us Q I rx rxs ⟨p, ns, _, j, rfl, rfl, t.sq, hj, hno, q.int c⟩
  · simp only [RepV] at ra; subst ra
    have := reps0 rv; subst this
    obtain ⟨ys, hs, q⟩ := q
    obtain ⟨zs, e, rz⟩ := c.lst hs
    refine mt_reverse pins s σ H _ _ v us Q I rx rxs ⟨_, zs, rfl, rfl, e, ?_⟩
    exact fin.chg c hs e rz.reverse (by simp only [RepV]) q
  · simp only [RepV] at ra; subst ra
    obtain ⟨y, rfl, r⟩ := reps1 rv
    simp only [RepV] at r; subst r
    obtain ⟨ns, j, hs, hj, hno, q⟩ := q
    obtain ⟨zs, e, rz⟩ := c.lst hs
    have := ints_reps ns rz; subst this
    refine mt_remove pins s σ H _ _ v us Q I rx rxs ⟨_, ns, _, j, rfl, rfl, e, hj, hno, ?_⟩
    exact fin.chg c hs e (reps_ints _) (by simp only [RepV]) q
  · simp only [RepV] at ra; subst ra
    obtain ⟨y, rfl, r⟩ := reps1 rv
    simp only [RepV] at r; subst r
    obtain ⟨ys, hs, hz, q⟩ := q
    obtain ⟨zs, e, rz⟩ := c.rd hs
    have := strs_reps ys rz; subst this
    exact mt_join pins s σ H _ _ v us Q I rx rxs ⟨_, _, ys, rfl, rfl, .inl e, hz, q.str c⟩
  · exact q.elim
theorem ty_rep {K : PySem.W.Frag} {S : Sto} {H : Hp} {v : Val} {x : V} {n : String} (c : Cor K S H) (r : RepV K H v x) (h : tyName v S = some n) : TyX K H x (.type n) := by
  unfold tyName at h
  split at h
  · cases h; simp only [RepV] at r; subst r; exact .base .non
  · cases h; simp only [RepV] at r; subst r; exact .base (.bl _)
  · cases h; simp only [RepV] at r; subst r; exact .base (.int _)
  · cases h; simp only [RepV] at r; subst r; exact .base (.str _)
  · cases h; simp only [RepV] at r
    obtain ⟨p, xs, rfl, ⟨o, t, _⟩ | ⟨o, _, _, t, hc, _⟩, _⟩ := r
    · exact .fTuple t
    · exact .kTuple t hc
  · simp only [RepV] at r; subst r
    split at h
    · cases h; rename_i e
      obtain ⟨xs, e, _⟩ := c.lst e
      exact .base (.lst e)
    · cases h; rename_i e
      have := c _ _ e
      simp only [RepA] at this
      obtain ⟨xs, e | ⟨o, e⟩, _⟩ := this
      · exact .base (.lst e)
      · exact .base (.frz e)
    · cases h; rename_i e
      have := c _ _ e
      simp only [RepA] at this
      obtain ⟨xs, e, _⟩ := this
      exact .base (.dK e)
    · cases h; rename_i e
      have := c _ _ e
      simp only [RepA] at this
      obtain ⟨xs, e, _⟩ := this
      exact .base (.dT e)
    · cases h
  · cases h; simp only [RepV] at r
    obtain ⟨p, xs, rfl, t, _⟩ := r
    exact .base (.tup t)
theorem kitAny_of {K : PySem.W.Frag} {n : String} : ∀ ts : List String, (ts.all fun t => (kitB n t).isSome) = true → PySem.W.kitAny K (.type n) (ts.map Value.type) = some (ts.any fun t => kitB n t == some true)
  | [], _ => kitAny_nil
  | t :: ts, h => by
    simp only [List.all_cons, Bool.and_eq_true] at h
    obtain ⟨b, hb⟩ := Option.isSome_iff_exists.mp h.1
    refine kitAny_cons (b := b) (kit_ty hb) (fun e => ?_) (fun e => ?_)
    · subst e
      rw [kitAny_of ts h.2, List.any_cons, hb]; rfl
    · subst e
      rw [List.any_cons, hb]; rfl
end
end M

namespace M
open PySem PySem.Spec L2
def visB (sc : Scope) (x : Str) : Bool := match sc.names.lookup x with
  | some .local => true | some .cell => true | some .free => true | _ => false
def locB (sc : Scope) (x : Str) : Bool := match sc.names.lookup x with
  | some .local => true | some .cell => true | _ => false
def glB (sc : Scope) (x : Str) : Bool := match sc.names.lookup x with
  | some .globalImplicit => true | _ => false
def notDbg (x : Str) : Bool := !(x == ("__debug__" : Str)) && !(x == ("__classdict__" : Str))
def baseOk : Expr → Bool
  | .Call (.Name id _) [] [] _ => id != "super"
  | _ => true
def tyOk (t : String) : Bool := t == "int" || t == "bool" || t == "str" || t == "tuple" || t == "list" || t == "dict"
/-- class names of an isinstance's tuple -/
def mTys (sc : Scope) : List String → List Expr → Bool
  | [], [] => true
  | t :: ts, .Name x _ :: es => tyOk t && decide (x = Str.ofString t) && glB sc x && mTys sc ts es
  | _, _ => false
mutual
/-- a target's slots -/
def slots : T → List Nat
  | .nm i => [i]
  | .tup ts => slotss ts
  | _ => []
def slotss : List T → List Nat
  | [] => []
  | t :: ts => slots t ++ slotss ts
end
def notLock : E → Bool
  | .lockE _ => false
  | _ => true
/-- zip wants a target of several names -/
def zipOk : I → Expr → Bool
  | .zip _ _, .Tuple .. => true
  | .zip _ _, _ => false
  | .zip3 _ _ _, .Tuple .. => true
  | .zip3 _ _ _, _ => false
  | _, _ => true
mutual
def mE (N : List Str) (sc : Scope) : E → Expr → Bool
  | .v i, e => match e with
    | .Name x _ => decide (N[i]? = some x) && visB sc x && notDbg x
    | _ => false
  | .int i, e => match e with
    | .Constant (.int j) _ _ => decide (i = j)
    | _ => false
  | .bl i, e => match e with
    | .Constant (.bool j) _ _ => decide (i = j)
    | _ => false
  | .non, e => match e with
    | .Constant .none _ _ => true
    | _ => false
  | .str i, e => match e with
    | .Constant (.str j) _ _ => decide (i = j)
    | _ => false
  | .g x, e => match e with
    | .Name y _ => decide (x = y) && glB sc y && notDbg y
    | _ => false
  | .bin op a b, e => match e with
    | .BinOp a' op' b' _ => decide (op = op') && mE N sc a a' && mE N sc b b'
    | _ => false
  | .neg a, e => match e with
    | .UnaryOp .USub a' _ => mE N sc a a'
    | _ => false
  | .cmp op a b, e => match e with
    | .Compare a' [op'] [b'] _ => decide (op = op') && mE N sc a a' && mE N sc b b' && !(behindInMarks op' b')
    | _ => false
  | .chain o1 o2 a b c, e => match e with
    | .Compare a' [p1, p2] [b', c'] _ => decide (o1 = p1) && decide (o2 = p2) && mE N sc a a' && mE N sc b b' && mE N sc c c' && !(behindInMarks p1 b') && !(behindInMarks p2 c')
    | _ => false
  | .and es, e => match e with
    | .BoolOp .And es' _ => mEs N sc es es' && !es.isEmpty
    | _ => false
  | .or es, e => match e with
    | .BoolOp .Or es' _ => mEs N sc es es' && !es.isEmpty
    | _ => false
  | .not a, e => match e with
    | .UnaryOp .Not a' _ => mE N sc a a'
    | _ => false
  | .ife t a b, e => match e with
    | .IfExp t' a' b' _ => mB N sc t t' && mE N sc a a' && mE N sc b b'
    | _ => false
  | .tup es, e => match e with
    | .Tuple es' _ _ => mEs N sc es es'
    | _ => false
  | .lst es, e => match e with
    | .List es' _ => mEs N sc es es'
    | _ => false
  | .ix a i, e => match e with
    | .Subscript a' i' _ => mE N sc a a' && mE N sc i i'
    | _ => false
  | .sl a lo hi, e => match e with
    | .Subscript a' (.Slice lo' hi' none _) _ => mE N sc a a' && mP N sc lo lo' && mP N sc hi hi'
    | _ => false
  | .rev a, e => match e with
    | .Subscript a' (.Slice none none (some (.UnaryOp .USub (.Constant (.int 1) _ _) _)) _) _ => mE N sc a a'
    | _ => false
  | .fld a f, e => match e with
    | .Attribute a' f' _ => decide (f = f') && mE N sc a a' && baseOk a'
    | _ => false
  | .call f es, e => match e with
    | .Call (.Name x _) es' [] _ => decide (f = x) && glB sc x && notDbg x && mEs N sc es es'
    | _ => false
  | .new C es, e => match e with
    | .Call (.Name x _) es' [] _ => decide (C = x) && glB sc x && notDbg x && mEs N sc es es'
    | _ => false
  | .meth o m es, e => match e with
    | .Call (.Attribute o' m' ap) es' [] p => mE N sc o o' && decide (m = m') && baseOk o' && decide (ap.endLine = p.line) && mEs N sc es es' && decide (es.length < 5)
    | _ => false
  | .repr a, e => match e with
    | .Call (.Name x _) [a'] [] _ => decide (x = "repr") && glB sc x && mE N sc a a'
    | _ => false
  | .blt b es, e => match e with
    | .Call (.Name x _) es' [] _ => decide (x = bltName b) && glB sc x && mEs N sc es es' && !es.isEmpty
    | _ => false
  | .mth m o es, e => match e with
    | .Call (.Attribute o' m' ap) es' [] p => mE N sc o o' && decide (m' = mthName m) && baseOk o' && decide (ap.endLine = p.line) && mEs N sc es es' && decide (es.length < 5) && decide (m = .tindex → es.length ≠ 0)
    | _ => false
  | .isx a y, e => match e with
    | .Call (.Name x _) [a', .Name y' _] [] _ => decide (x = "isinstance") && glB sc x && mE N sc a a' && decide (y = y') && glB sc y' && notDbg y' && decide (y' ≠ "__name__")
    | _ => false
  | .isi a t, e => match e with
    | .Call (.Name x _) [a', .Name y _] [] _ => decide (x = "isinstance") && glB sc x && mE N sc a a' && tyOk t && decide (y = Str.ofString t) && glB sc y
    | _ => false
  | .isiT a ts, e => match e with
    | .Call (.Name x _) [a', .Tuple tys _ _] [] _ => decide (x = "isinstance") && glB sc x && mE N sc a a' && mTys sc ts tys && decide (ts.length ≤ 100)
    | _ => false
  | .lc own t it ifs b, e => match e with
    | .ListComp b' [⟨t', it', ifs', 0⟩] scope _ => zipOk it t' && blkC N sc scope own && mI N sc it it' && mT N (relS scope sc) t t' && mBs N (relS scope sc) ifs ifs' && decide (ifs.length ≤ 1) && mE N (relS scope sc) b b' && decide (∀ i ∈ slots t, i ∈ own.map (·.2)) && (own.all fun p => (match scope.names.lookup p.1 with | some .local => true | some .cell => true | _ => false))
    | _ => false
  | .dK0, e => match e with
    | .Dict [] [] _ => true
    | _ => false
  | .dT0, e => match e with
    | .Dict [] [] _ => true
    | _ => false
  | .dT1 k v, e => match e with
    | .Dict [some k'] [v'] _ => mE N sc k k' && mE N sc v v'
    | _ => false
  | .addL a b, e => match e with
    | .BinOp a' .Add b' _ => mE N sc a a' && mE N sc b b'
    | _ => false
  | .revT a, e => match e with
    | .Subscript a' (.Slice none none (some (.UnaryOp .USub (.Constant (.int 1) _ _) _)) _) _ => mE N sc a a'
    | _ => false
  | .ktup es, e => match e with
    | .Tuple es' _ _ => mEs N sc es es'
    | _ => false
  | .lrng1 a, e => match e with
    | .Call (.Name x _) [.Call (.Name y _) [a'] [] _] [] _ => decide (x = "list") && glB sc x && decide (y = "range") && glB sc y && mE N sc a a'
    | _ => false
  | .lrng2 a b, e => match e with
    | .Call (.Name x _) [.Call (.Name y _) [a', b'] [] _] [] _ => decide (x = "list") && glB sc x && decide (y = "range") && glB sc y && mE N sc a a' && mE N sc b b'
    | _ => false
  | .lrev a, e => match e with
    | .Call (.Name x _) [.Call (.Name y _) [a'] [] _] [] _ => decide (x = "list") && glB sc x && decide (y = "reversed") && glB sc y && mE N sc a a'
    | _ => false
  | .trev a, e => match e with
    | .Call (.Name x _) [.Call (.Name y _) [a'] [] _] [] _ => decide (x = "tuple") && glB sc x && decide (y = "reversed") && glB sc y && mE N sc a a'
    | _ => false
  | .sset a, e => match e with
    | .Call (.Name x _) [.Call (.Name y _) [a'] [] _] [] _ => decide (x = "sorted") && glB sc x && decide (y = "set") && glB sc y && mE N sc a a'
    | _ => false
  | .ssetL a, e => match e with
    | .Call (.Name x _) [.Call (.Name y _) [a'] [] _] [] _ => decide (x = "sorted") && glB sc x && decide (y = "set") && glB sc y && mE N sc a a'
    | _ => false
  | .trevT a, e => match e with
    | .Call (.Name x _) [.Call (.Name y _) [a'] [] _] [] _ => decide (x = "tuple") && glB sc x && decide (y = "reversed") && glB sc y && mE N sc a a'
    | _ => false
  | .dix a i, e => match e with
    | .Subscript a' i' _ => mE N sc a a' && mE N sc i i'
    | _ => false
  | .dg1 d k, e => match e with
    | .Call (.Attribute d' m' ap) [k'] [] p => decide (m' = "get") && baseOk d' && decide (ap.endLine = p.line) && mE N sc d d' && mE N sc k k'
    | _ => false
  | .dg2 d k y, e => match e with
    | .Call (.Attribute d' m' ap) [k', y'] [] p => decide (m' = "get") && baseOk d' && decide (ap.endLine = p.line) && mE N sc d d' && mE N sc k k' && mE N sc y y'
    | _ => false
  | .dsd d k y, e => match e with
    | .Call (.Attribute d' m' ap) [k', y'] [] p => decide (m' = "setdefault") && baseOk d' && decide (ap.endLine = p.line) && mE N sc d d' && mE N sc k k' && mE N sc y y'
    | _ => false
  | .dpop d k, e => match e with
    | .Call (.Attribute d' m' ap) [k'] [] p => decide (m' = "pop") && baseOk d' && decide (ap.endLine = p.line) && mE N sc d d' && mE N sc k k'
    | _ => false
  | .din neg k d, e => match e with
    | .Compare k' [op'] [d'] _ => decide (op' = if neg then .NotIn else .In) && mE N sc k k' && mE N sc d d' && !(behindInMarks op' d')
    | _ => false
  | .lockE a, e => match e with
    | .ListComp b g s p => mE N sc a (.ListComp b g s p)
    | _ => false
def mEs (N : List Str) (sc : Scope) : List E → List Expr → Bool
  | [], es => match es with
    | [] => true
    | _ => false
  | a :: as, es => match es with
    | e :: es => mE N sc a e && mEs N sc as es
    | _ => false
def mB (N : List Str) (sc : Scope) : B → Expr → Bool
  | .val a, e => match e with
    | .BoolOp .. => false
    | .UnaryOp .. => false
    | .IfExp .. => false
    | .Compare .. => false
    | e => mE N sc a e
  | .cmp op a b, e => match e with
    | .Compare a' [op'] [b'] _ => decide (op = op') && mE N sc a a' && mE N sc b b' && !(behindInMarks op' b')
    | _ => false
  | .chain o1 o2 a b c, e => match e with
    | .Compare a' [p1, p2] [b', c'] _ => decide (o1 = p1) && decide (o2 = p2) && mE N sc a a' && mE N sc b b' && mE N sc c c' && !(behindInMarks p1 b') && !(behindInMarks p2 c')
    | _ => false
  | .chain3 o1 o2 o3 a b c d, e => match e with
    | .Compare a' [p1, p2, p3] [b', c', d'] _ => decide (o1 = p1) && decide (o2 = p2) && decide (o3 = p3) && mE N sc a a' && mE N sc b b' && mE N sc c c' && mE N sc d d' && !(lastMarks [p1, p2, p3] [b', c', d'])
    | _ => false
  | .not b, e => match e with
    | .UnaryOp .Not b' _ => mB N sc b b'
    | _ => false
  | .and bs, e => match e with
    | .BoolOp .And bs' _ => mBs N sc bs bs' && !bs.isEmpty
    | _ => false
  | .or bs, e => match e with
    | .BoolOp .Or bs' _ => mBs N sc bs bs' && !bs.isEmpty
    | _ => false
  | .din neg k d, e => match e with
    | .Compare k' [op'] [d'] _ => decide (op' = if neg then .NotIn else .In) && mE N sc k k' && mE N sc d d' && !(behindInMarks op' d')
    | _ => false
def mBs (N : List Str) (sc : Scope) : List B → List Expr → Bool
  | [], es => match es with
    | [] => true
    | _ => false
  | a :: as, es => match es with
    | e :: es => mB N sc a e && mBs N sc as es
    | _ => false
def mP (N : List Str) (sc : Scope) : P → Option Expr → Bool
  | .no, e => match e with
    | none => true
    | _ => false
  | .at a, e => match e with
    | some e => mE N sc a e
    | _ => false
def mT (N : List Str) (sc : Scope) : T → Expr → Bool
  | .nm i, e => match e with
    | .Name x _ => decide (N[i]? = some x) && locB sc x
    | _ => false
  | .tup ts, e => match e with
    | .Tuple es _ _ => mTs N sc ts es
    | _ => false
  | .ix a i, e => match e with
    | .Subscript a' i' _ => mE N sc a a' && mE N sc i i'
    | _ => false
  | .fld a f, e => match e with
    | .Attribute a' f' _ => decide (f = f') && mE N sc a a'
    | _ => false
  | .dix a i, e => match e with
    | .Subscript a' i' _ => mE N sc a a' && mE N sc i i'
    | _ => false
def mTs (N : List Str) (sc : Scope) : List T → List Expr → Bool
  | [], es => match es with
    | [] => true
    | _ => false
  | a :: as, es => match es with
    | e :: es => mT N sc a e && mTs N sc as es
    | _ => false
def mI (N : List Str) (sc : Scope) : I → Expr → Bool
  | .val a, e => match e with
    | .Set .. => false
    | e => mE N sc a e
  | .rng1 a, e => match e with
    | .Call (.Name x _) [a'] [] _ => decide (x = "range") && glB sc x && mE N sc a a'
    | _ => false
  | .rng2 a b, e => match e with
    | .Call (.Name x _) [a', b'] [] _ => decide (x = "range") && glB sc x && mE N sc a a' && mE N sc b b'
    | _ => false
  | .keys a, e => match e with
    | .Set .. => false
    | e => mE N sc a e
  | .keysM a, e => match e with
    | .Call (.Attribute a' m' ap) [] [] p => decide (m' = "keys") && baseOk a' && decide (ap.endLine = p.line) && mE N sc a a'
    | _ => false
  | .zip a b, e => match e with
    | .Call (.Name x _) [a', b'] [] _ => decide (x = "zip") && glB sc x && mE N sc a a' && mE N sc b b'
    | _ => false
  | .zip3 a b c, e => match e with
    | .Call (.Name x _) [a', b', c'] [] _ => decide (x = "zip") && glB sc x && mE N sc a a' && mE N sc b b' && mE N sc c c'
    | _ => false
  | .rvs a, e => match e with
    | .Call (.Name x _) [a'] [] _ => decide (x = "reversed") && glB sc x && mE N sc a a'
    | _ => false
  | .rvs1 a, e => match e with
    | .Call (.Name x _) [.Call (.Name y _) [a'] [] _] [] _ => decide (x = "reversed") && decide (y = "range") && glB sc x && glB sc y && mE N sc a a'
    | _ => false
  | _, _ => false
end
/-- two or three different local names -/
def mPar (N : List Str) (sc : Scope) (line : Nat) : List Nat → List Expr → Bool
  | [], [] => true
  | i :: is, .Name x p :: es => decide (N[i]? = some x) && (match sc.names.lookup x with | some .local => true | _ => false) && decide (p.line = line) && mPar N sc line is es
  | _, _ => false
/-- tests of a caught error, n its name -/
def mHE (N : List Str) (sc : Scope) (n : Option Str) : HE → Expr → Bool
  | .bl b, e => match e with
    | .Constant (.bool k) _ _ => decide (b = k)
    | _ => false
  | .is y, e => match e with
    | .Call (.Name f _) [.Name a _, .Name y' _] [] _ => decide (f = "isinstance") && glB sc f && decide (n = some a) && visB sc a && notDbg a && decide (y = y') && glB sc y' && notDbg y' && decide (y' ≠ "__name__")
    | _ => false
  | .v i, e => match e with
    | .Name x _ => decide (N[i]? = some x) && visB sc x && notDbg x
    | _ => false
  | .not a, e => match e with
    | .UnaryOp .Not a' _ => mHE N sc n a a'
    | _ => false
  | .and a b, e => match e with
    | .BoolOp .And [a', b'] _ => mHE N sc n a a' && mHE N sc n b b'
    | _ => false
  | .and3 a b c, e => match e with
    | .BoolOp .And [a', b', c'] _ => mHE N sc n a a' && mHE N sc n b b' && mHE N sc n c c'
    | _ => false
def mHK (N : List Str) (sc : Scope) (n : Option Str) : HK → List Stmt → Bool
  | .ret h, su => match su with
    | [.Return (some e) _] => mHE N sc n h e
    | _ => false
  | .setB i h, su => match su with
    | [.Assign [.Name x _] e _] => decide (N[i]? = some x) && decide (sc.names.lookup x = some .local) && mHE N sc n h e
    | _ => false
  | .setN i, su => match su with
    | [.Assign [.Name x _] (.Constant .none _ _) _] => decide (N[i]? = some x) && decide (sc.names.lookup x = some .local)
    | _ => false
  | .setS i z, su => match su with
    | [.Assign [.Name x _] (.Constant (.str z') _ _) _] => decide (N[i]? = some x) && decide (sc.names.lookup x = some .local) && decide (z = z')
    | _ => false
def mHd (N : List Str) (sc : Scope) (rs : List Str) (h : Hd) : ExceptHandler → Bool
  | .ExceptHandler (some (.Name x _)) nm su _ => decide (h.more = []) && decide (x = h.y) && glB sc x && notDbg x && rs.contains x && mHK N sc nm h.k su && (match h.n, nm with
    | none, none => true
    | some i, some z => decide (N[i]? = some z) && decide (sc.names.lookup z = some .local)
    | _, _ => false)
  | .ExceptHandler (some (.Tuple [.Name x _, .Name x2 _] _ _)) none su _ => decide (h.n = none) && decide (h.more = [x2]) && decide (x = h.y) && (glB sc x && notDbg x && rs.contains x) && (glB sc x2 && notDbg x2 && rs.contains x2) && mHK N sc none h.k su
  | .ExceptHandler (some (.Tuple [.Name x _, .Name x2 _, .Name x3 _] _ _)) none su _ => decide (h.n = none) && decide (h.more = [x2, x3]) && decide (x = h.y) && (glB sc x && notDbg x && rs.contains x) && (glB sc x2 && notDbg x2 && rs.contains x2) && (glB sc x3 && notDbg x3 && rs.contains x3) && mHK N sc none h.k su
  | _ => false
def mHds (N : List Str) (sc : Scope) (rs : List Str) : List Hd → List ExceptHandler → Bool
  | [], hs => match hs with
    | [] => true
    | _ => false
  | h :: hs, xs => match xs with
    | x :: xs => mHd N sc rs h x && mHds N sc rs hs xs
    | [] => false
mutual
def mC (N : List Str) (sc : Scope) (rs : List Str) : C → Stmt → Bool
  | .asg t e, st => match st with
    | .Assign [.Attribute a' f' _] e' _ => (match t with
        | .fld a f => decide (f = f') && mE N sc a a' && mE N sc e e'
        | _ => false)
    | .Assign [t'] e' _ => notLock e && mT N sc t t' && mE N sc e e' && (match t', e' with
        | .Tuple ts _ _, .Tuple vs _ _ => vs.all (foldedForSure 8) || decide (3 < ts.length) || ts.any (fun t => match t with | .Name x _ => (match sc.names.lookup x with | some .local => false | _ => true) | _ => true)
        | _, _ => true)
    | _ => false
  | .par is es, st => match st with
    | .Assign [.Tuple ts _ _] (.Tuple es' _ _) _ => mPar N sc ((ts.head?.map (·.pos.line)).getD 0) is ts && mEs N sc es es' && decide (is.Nodup) && (decide (is.length = 2) || decide (is.length = 3)) && decide (es.length = is.length) && !(es'.all (foldedForSure 8)) && !(es'.all (constantsAlone 8))
    | _ => false
  | .aug i op e, st => match st with
    | .AugAssign (.Name x _) op' e' _ => decide (N[i]? = some x) && locB sc x && decide (op = op') && mE N sc e e'
    | _ => false
  | .ex e, st => match st with
    | .Expr e' _ => mE N sc e e' && (match e' with | .ListComp .. => false | _ => true)
    | _ => false
  | .ret e, st => match st with
    | .Return (some e') _ => mE N sc e e'
    | _ => false
  | .retN, st => match st with
    | .Return none _ => true
    | _ => false
  | .ite c p q, st => match st with
    | .If c' p' q' _ => mB N sc c c' && mCs N sc rs p p' && mCs N sc rs q q'
    | _ => false
  | .tryM p hs, st => match st with
    | .Try p' (h :: hds) [] [] _ => mCs N sc rs p p' && mHds N sc rs hs (h :: hds)
    | _ => false
  | .tryK p y n k, st => match st with
    | .Try p' [.ExceptHandler (some (.Name x _)) (some z) hb _] [] [] _ => decide (x = y) && glB sc x && notDbg x && rs.contains x && mCs N sc rs p p' && decide (N[n]? = some z) && decide (sc.names.lookup z = some .local) && notDbg z && (match k, hb with
        | .ret, [.Return (some (.Name z' _)) _] => decide (z' = z)
        | .set i, [.Assign [.Name w _] (.Name z' _) _] => decide (z' = z) && decide (N[i]? = some w) && decide (sc.names.lookup w = some .local)
        | _, _ => false)
    | _ => false
  | .tryR p y h, st => match st with
    | .Try p' [.ExceptHandler (some (.Name x _)) none hb _] [] [] _ => decide (x = y) && glB sc x && notDbg x && rs.contains x && mCs N sc rs p p' && (match h, hb with
        | .retB k, [.Return (some (.Constant (.bool k') _ _)) _] => decide (k = k')
        | _, _ => false)
    | _ => false
  | .whil c p, st => match st with
    | .While c' p' [] _ => mB N sc c c' && mCs N sc rs p p'
    | _ => false
  | .loop t it p, st => match st with
    | .For t' it' p' [] _ => zipOk it t' && mT N sc t t' && mI N sc it it' && mCs N sc rs p p'
    | _ => false
  | .brk, st => match st with
    | .Break _ => true
    | _ => false
  | .cnt, st => match st with
    | .Continue _ => true
    | _ => false
  | .pass, st => match st with
    | .Pass _ => true
    | _ => false
  | .rais x, st => match st with
    | .Raise (some (.Call (.Name y _) [.Constant (.str _) _ _] [] _)) none _ => decide (x = y) && glB sc y && decide (x ∈ rs) && notDbg y
    | _ => false
  | .lock c, st => mC N sc rs c st
  | .augI a i op e, st => match st with
    | .AugAssign (.Subscript a' i' _) op' e' _ => mE N sc a a' && mE N sc i i' && decide (op = op') && mE N sc e e'
    | _ => false
def mCs (N : List Str) (sc : Scope) (rs : List Str) : List C → List Stmt → Bool
  | [], es => match es with
    | [] => true
    | _ => false
  | a :: as, es => match es with
    | e :: es => mC N sc rs a e && mCs N sc rs as es
    | _ => false
end
end M

set_option maxHeartbeats 1000000
namespace M
open PySem PySem.Spec L2
abbrev XLoc := Str → Loc → Sto → Prop
/-- a promise over heaps -/
def lSp (K : PySem.W.Frag) (ec : Str → Option Addr) (sp : Spec) : Sp := fun xs H Q E => ∃ vs S, RepVs K H vs xs ∧ Cor K S H ∧
  app sp vs S (fin K S H Q) (fun c S' => ∀ C, ec c = some C → ∀ H', Evo S H S' H' → Cor K S' H' → E (.ref C) none H')
def FnM (P : Program) (w : World) (K : PySem.W.Frag) (mg : Str → Option Value) (base : Heap) (k : Nat) (ec : Str → Option Addr) (x : Str) (sp : Spec) : Prop :=
  ∃ f fd ps, mg x = some (.ref f) ∧ PySem.W.keepIn K (.ref f) = true ∧ Binds K fd ps [] ∧ FnOk P w K mg base (L2.CX P w) k f fd ps (lSp K ec sp)
def bltNames : List Str := ["len", "abs", "min", "max", "int", "str", "list", "tuple", "sorted", "set", "sum", "bool", "isinstance", "range", "zip", "enumerate", "reversed", "repr", "dict"]
/-- a class that makes instances -/
def NewM (P : Program) (w : World) (K : PySem.W.Frag) (mg : Str → Option Value) (base : Heap) (k : Nat) (ec : Str → Option Addr) (C : Str) (sp : Spec) : Prop :=
  ∃ j f fd ps, j + 1 ≤ k ∧ mg C = some (.ref (He.ga K C)) ∧ Mk K (He.ga K C) f ∧ Binds K fd ps [] ∧ FnOk P w K mg base (L2.CX P w) j f fd ps (lSp K ec sp)
/-- a method -/
def MetM (P : Program) (w : World) (K : PySem.W.Frag) (mg : Str → Option Value) (base : Heap) (k : Nat) (ec : Str → Option Addr) (C m : Str) (sp : Spec) : Prop :=
  ∃ f fd ps, Cls K (He.ga K C) ∧ Meth K (He.ga K C) m f ∧ Binds K fd ps [] ∧ FnOk P w K mg base (L2.CX P w) k f fd ps (lSp K ec sp)
structure GOk (P : Program) (w : World) (K : PySem.W.Frag) (mg : Str → Option Value) (base : Heap) (k : Nat) (G : Gam) : Prop where
  fn : ∀ x sp, G.fn x = some sp → FnM P w K mg base k G.ecls x sp
  cst : ∀ x v, G.cst x = some v → ∃ y u, mg x = some u ∧ RelV y u ∧ ∀ H, RepV K H v y
  blt : ∀ x ∈ bltNames, mg x = none
  fo : ∀ C f, G.fo C f = true → Cls K (He.ga K C) ∧ NoAttr K (He.ga K C) f
  new : ∀ C sp, G.new C = some sp → NewM P w K mg base k G.ecls C sp
  mt : ∀ C m sp, G.mt C m = some sp → MetM P w K mg base k G.ecls C m sp
  exm : ∀ c y b, G.exm c y = some b → ∃ C Y, G.ecls c = some C ∧ G.ecls y = some Y ∧ PySem.W.exmOne K (.ref C) (.ref Y) = some b
  exi : ∀ c y b, G.exi c y = some b → ∃ C, G.ecls c = some C ∧ ExcC K C ∧ ((∃ Y, mg y = some (.ref Y) ∧ PySem.W.kitOne K (.ref C) (.ref Y) = some b) ∨ mg y = none ∧ ∃ t, bootBuiltins y = some (.type t) ∧ PySem.W.kitOne K (.ref C) (.type t) = some b)
  ga : ∀ c C, G.ecls c = some C → C = He.ga K c
def WM (K : PySem.W.Frag) (ec : Str → Option Addr) (S0 : Sto) (H0 : Hp) (XP : XLoc) : WX := fun cls d σ H =>
  ∃ c C ρ S, ec c = some C ∧ cls = .ref C ∧ d = none ∧ CorL K H ρ σ ∧ Cor K S H ∧ Evo S0 H0 S H ∧ XP c ρ S
structure Sd (X : Cx) (G : Gam) (k : Nat) (S0 : Sto) (H0 : Hp) (XP : XLoc) : Prop where
  room : Room k X.A
  calm : X.calm = true
  nd : X.N.Nodup
  g : GOk X.prog X.w X.K X.mg X.base k G
  tk : Takes X (WM X.K G.ecls S0 H0 XP)
  gd : G.rp = true → X.A.guards = some []
/-- readings over stores -/
def lE (K : PySem.W.Frag) (S0 : Sto) (H0 : Hp) (t : Loc → Sto → Post → Prop) : TE := fun σ H Q => ∃ ρ S, CorL K H ρ σ ∧ Cor K S H ∧ Evo S0 H0 S H ∧ t ρ S (fin K S H Q)
def lB (K : PySem.W.Frag) (S0 : Sto) (H0 : Hp) (t : Loc → Sto → (Bool → Sto → Prop) → Prop) : TT := fun σ H Q => ∃ ρ S, CorL K H ρ σ ∧ Cor K S H ∧ Evo S0 H0 S H ∧ t ρ S (fun b S' => ∀ H', Evo S H S' H' → Cor K S' H' → Q b H')
def lA (K : PySem.W.Frag) (S0 : Sto) (H0 : Hp) (t : Loc → Sto → (List Val → Sto → Prop) → Prop) : TA := fun σ H Q => ∃ ρ S, CorL K H ρ σ ∧ Cor K S H ∧ Evo S0 H0 S H ∧ t ρ S (fun vs S' => ∀ H' xs, Evo S H S' H' → Cor K S' H' → RepVs K H' vs xs → Q xs H')
def lP (K : PySem.W.Frag) (S0 : Sto) (H0 : Hp) (t : Loc → Sto → (Option Int → Sto → Prop) → Prop) : TO := fun σ H Q => ∃ ρ S, CorL K H ρ σ ∧ Cor K S H ∧ Evo S0 H0 S H ∧ t ρ S (fun o S' => ∀ H', Evo S H S' H' → Cor K S' H' → Q o H')
theorem PE.imp {X : Cx} {e : Expr} {t t' : TE} (h : PE X e t) (i : ∀ σ H Q, t' σ H Q → t σ H Q) : PE X e t' := ⟨fun pins s σ H Q I q => h.run pins s σ H Q I (i _ _ _ q)⟩
theorem PT.imp {X : Cx} {e : Expr} {t t' : TT} (h : PT X e t) (i : ∀ σ H Q, t' σ H Q → t σ H Q) : PT X e t' := ⟨fun pins s σ H Q I q => h.run pins s σ H Q I (i _ _ _ q)⟩
theorem PW.imp {X : Cx} {e : Expr} {t t' : TT} (h : PW X e t) (i : ∀ σ H Q, t' σ H Q → t σ H Q) : PW X e t' := ⟨fun wh pins s σ H Q I q => h.run wh pins s σ H Q I (i _ _ _ q)⟩
theorem PA.imp {X : Cx} {e : List Expr} {t t' : TA} (h : PA X e t) (i : ∀ σ H Q, t' σ H Q → t σ H Q) : PA X e t' := ⟨fun pos pins s σ H Q I q => h.run pos pins s σ H Q I (i _ _ _ q)⟩
theorem PO.imp {X : Cx} {e : Option Expr} {t t' : TO} (h : PO X e t) (i : ∀ σ H Q, t' σ H Q → t σ H Q) : PO X e t' := ⟨fun pins s σ H Q I q => h.run pins s σ H Q I (i _ _ _ q)⟩
theorem PTs.imp {X : Cx} {e : List Expr} {t t' : TT} (h : PTs X e t) (i : ∀ σ H Q, t' σ H Q → t σ H Q) : PTs X e t' := ⟨fun pins s σ H Q I q => h.run pins s σ H Q I (i _ _ _ q)⟩
theorem fin.mono {K : PySem.W.Frag} {S S1 : Sto} {H H1 : Hp} {Q : VK} (e : Evo S H S1 H1) {r : Val} {S' : Sto} (h : fin K S H Q r S') : fin K S1 H1 Q r S' := fun H' z e' c r => h H' z (e.trans e') c r
/-- two readings in a row -/
theorem lE.two {K : PySem.W.Frag} {S0 : Sto} {H0 : Hp} {ta tb : Loc → Sto → Post → Prop} {f : Val → Val → Sto → Post → Prop} {σ : L2.St} {H : Hp} {Q : VK} {R : R2}
    (ma : ∀ {ρ S Q Q'}, (∀ v S', Q v S' → Q' v S') → ta ρ S Q → ta ρ S Q') (mb : ∀ {ρ S Q Q'}, (∀ v S', Q v S' → Q' v S') → tb ρ S Q → tb ρ S Q')
    (mf : ∀ {v w S Q Q'}, (∀ v S', Q v S' → Q' v S') → f v w S Q → f v w S Q')
    (hR : ∀ x y H Q, l2 K f x y H Q → R x y H Q)
    (h : lE K S0 H0 (fun ρ S Q => ta ρ S fun v S1 => tb ρ S1 fun w S2 => f v w S2 Q) σ H Q) : tOp R (lE K S0 H0 ta) (lE K S0 H0 tb) σ H Q := by
  obtain ⟨ρ, S, cl, c, e0, q⟩ := h
  refine ⟨ρ, S, cl, c, e0, ma (fun v S1 q H1 x e1 c1 r1 => ?_) q⟩
  refine ⟨ρ, S1, cl.evo e1, c1, e0.trans e1, mb (fun w S2 q H2 y e2 c2 r2 => ?_) q⟩
  exact hR _ _ _ _ ⟨v, w, S2, r1.evo e2, r2, c2, mf (fun r S3 q => q.mono (e1.trans e2)) q⟩
theorem lookup_vis {sc : Scope} {x : Str} (h : visB sc x = true) : Vis sc x := by
  unfold visB at h
  split at h
  · exact .inl (by assumption)
  · exact .inr (.inl (by assumption))
  · exact .inr (.inr (by assumption))
  · cases h
theorem lookup_loc {sc : Scope} {x : Str} (h : locB sc x = true) : L2.Loc sc x := by
  unfold locB at h
  split at h
  · exact .inl (by assumption)
  · exact .inr (by assumption)
  · cases h
theorem gl_of {X : Cx} {x : Str} (h : glB X.env.scope x = true) : Gl X x := by
  unfold glB at h
  split at h
  · assumption
  · cases h
theorem dbg_of {x : Str} (h : notDbg x = true) : (x == ("__debug__" : Str)) = false ∧ (x == ("__classdict__" : Str)) = false := by
  unfold notDbg at h
  simp only [Bool.and_eq_true, Bool.not_eq_true'] at h
  exact h
theorem base_of {e : Expr} {f : Str} {env : Env} {whole : Sem Value} (h : baseOk e = true) : attributeBase e f env whole = whole := by
  unfold baseOk at h
  split at h
  · unfold attributeBase
    simp only [h, Bool.true_or, if_true]
  · rename_i hne
    unfold attributeBase
    split
    · exact absurd rfl (hne _ _ _)
    · rfl
end M

set_option maxHeartbeats 1000000
namespace M
open PySem PySem.Spec PyProof.Rows L2
open PySem.Sem (wp)
abbrev IsTrip (h : Heap) (T : Addr) (a b c : Value) : Prop := h.get? T = some { cls := .type "tuple", data := .seq #[a, b, c] }
structure Apart3 (z TI TO i1 i2 i3 l1 l2 l3 : Nat) : Prop where
  TIz : TI ≠ z
  TOz : TO ≠ z
  i1z : i1 ≠ z
  i2z : i2 ≠ z
  i3z : i3 ≠ z
  TITO : TI ≠ TO
  TIi1 : TI ≠ i1
  TIi2 : TI ≠ i2
  TIi3 : TI ≠ i3
  TOi1 : TO ≠ i1
  TOi2 : TO ≠ i2
  TOi3 : TO ≠ i3
  i12 : i1 ≠ i2
  i13 : i1 ≠ i3
  i23 : i2 ≠ i3
  l1z : l1 ≠ z
  l2z : l2 ≠ z
  l2TO : l2 ≠ TO
  l2i1 : l2 ≠ i1
  l3z : l3 ≠ z
  l3TO : l3 ≠ TO
  l3i1 : l3 ≠ i1
  l3i2 : l3 ≠ i2
theorem apart3_new (I l1 l2 l3 : Nat) (h1 : l1 < I) (h2 : l2 < I) (h3 : l3 < I) : Apart3 (I + 5) (I + 3) (I + 4) I (I + 1) (I + 2) l1 l2 l3 := by
  constructor <;> omega
namespace F3
theorem typeCall_zip_3 (a b c : Value) : checkTypeCall "zip" ⟨[a, b, c], []⟩ = pure () := by kernel_rfl
theorem newCall_zip_3 (a b c : Value) : checkBuiltinCall "zip.__new__" ⟨[.type "zip", a, b, c], []⟩ = pure () := by kernel_rfl
theorem args_object_init_4 (a b c d : Value) : argsOk "object.__init__" ⟨[a, b, c, d], []⟩ := by
  unfold argsOk; rw [signature?_of (id := "object.__init__") (n := ['_', '_', 't', 'i', 'n', 'i', '_', '_']) (o := ['t', 'c', 'e', 'j', 'b', 'o']) (by kernel_rfl) F.owner_object]; kernel_rfl
end F3
section
variable {prog : Program} {w : World} {A : Around} {E : Value → Shared → Prop} {s : Shared}
theorem updTrip {T : Addr} {a b c x : Value} {k : Nat} {Q : Unit → Shared → Prop} (hT : IsTrip s.heap T a b c)
    (h : ∀ h', h'.get? T = some { cls := .type "tuple", data := .seq ((#[a, b, c] : Array Value).setIfInBounds k x) } → Heap.SameBut T s.heap h' → Q () { s with heap := h' }) :
    wpAny (model prog w) A (updateSeq T (·.setIfInBounds k x)) Q E s := by
  refine wpAny_updateSeq hT rfl (h _ ?_ (Heap.SameBut.update ..))
  rw [Heap.get?_update_self _ hT rfl]
  simp [Obj.mapSeq]
theorem zip3_next_item {z TI TO i1 i2 i3 l1 l2 l3 : Addr} {k : Nat} {xs ys zs : Array Value} {x y u a b c : Value} {Q : Value → Shared → Prop} (D : Apart3 z TI TO i1 i2 i3 l1 l2 l3)
    (hz : IsZip s.heap z TI TO .none) (hTI : IsTrip s.heap TI (.ref i1) (.ref i2) (.ref i3)) (hTO : IsTrip s.heap TO a b c)
    (h1 : s.heap.IsTupleIter i1 l1 k) (h2 : s.heap.IsTupleIter i2 l2 k) (h3 : s.heap.IsTupleIter i3 l3 k) (hl1 : s.heap.IsTuple l1 xs) (hl2 : s.heap.IsTuple l2 ys) (hl3 : s.heap.IsTuple l3 zs)
    (hx : xs[k]? = some x) (hy : ys[k]? = some y) (hu : zs[k]? = some u)
    (hQ : ∀ h', IsZip h' z TI TO (rawInt s.heap.objs.size) → IsTrip h' TO x y u → h'.IsTupleIter i1 l1 (k + 1) → h'.IsTupleIter i2 l2 (k + 1) → h'.IsTupleIter i3 l3 (k + 1) → IsTrip h' s.heap.objs.size x y u →
      (∀ c o, c ≠ z → c ≠ TO → c ≠ i1 → c ≠ i2 → c ≠ i3 → s.heap.get? c = some o → h'.get? c = some o) → Q (.ref s.heap.objs.size) { s with heap := h' }) :
    wpAny (model prog w) A (Builtin.«zip.__next__» ⟨[.ref z], []⟩) (fun fin s' => ∃ v, fin = .done (.ret v) ∧ Q v s') E s := by
  show wpAny _ _ (field (.ref z) 2 >>= _) _ _ _
  refine wpAny_bind (wpAny_field hz rfl (x := .bool false) rfl ?_)
  show wpAny _ _ (field (.ref z) 3 >>= _) _ _ _
  refine wpAny_bind (wpAny_field hz rfl (x := .ref TI) rfl ?_)
  refine wpAny_bind (wpAny_seqItems hTI rfl ?_)
  show wpAny _ _ (Builtin.SmallTypes.ownedTupleIsFree (.ref z) >>= _) _ _ _
  refine wpAny_bind ?_
  unfold Builtin.SmallTypes.ownedTupleIsFree
  refine wpAny_bind (wpAny_field hz rfl (x := .none) rfl (wpAny_pure ?_))
  simp only [if_true]
  refine wpAny_bind (wpAny_rule ?_)
  refine wpAny_bind (wpAny_field hz rfl (x := .ref TO) rfl ?_)
  refine wpAny_bind (wpAny_setField_rec hz (by simp) fun h₁ hz₁ hs₁ => ?_)
  replace hz₁ : IsZip h₁ z TI TO .ellipsis := hz₁
  refine wpAny_bind ?_
  simp only [List.zipIdx_cons, List.zipIdx_nil, List.forIn_cons, List.forIn_nil]
  -- the first
  refine wpAny_bind (wpAny_bind (wpAny_onRaise ?_))
  show wpAny _ _ (Builtin.SmallTypes.nextOf (.ref i1) >>= _) _ _ _
  refine wpAny_bind (RZ.nextOf_tuple_item (h1.extBut hs₁.extBut D.i1z) (hl1.extBut hs₁.extBut D.l1z) hx fun h₂ h1₂ hs₂ => wpAny_pure ?_)
  have hTO₂ : IsTrip h₂ TO a b c := hs₂.extBut _ _ D.TOi1 (hs₁.extBut _ _ D.TOz hTO)
  refine wpAny_bind (wpAny_seqItems hTO₂ rfl ?_)
  refine wpAny_bind (updTrip hTO₂ fun h₃ hTO₃ hs₃ => ?_)
  replace hTO₃ : IsTrip h₃ TO x b c := hTO₃
  refine wpAny_bind (wpAny_letGo (wpAny_pure ?_))
  have k₃ : ∀ d o, d ≠ z → d ≠ i1 → d ≠ TO → s.heap.get? d = some o → h₃.get? d = some o := fun d o c1 c2 c3 e => hs₃.extBut _ _ c3 (hs₂.extBut _ _ c2 (hs₁.extBut _ _ c1 e))
  -- the second
  refine wpAny_bind (wpAny_bind (wpAny_onRaise ?_))
  show wpAny _ _ (Builtin.SmallTypes.nextOf (.ref i2) >>= _) _ _ _
  refine wpAny_bind (RZ.nextOf_tuple_item (h2.at fun o e => k₃ i2 o D.i2z (Ne.symm D.i12) (Ne.symm D.TOi2) e) (hl2.at fun o e => k₃ l2 o D.l2z D.l2i1 D.l2TO e) hy fun h₄ h2₄ hs₄ => wpAny_pure ?_)
  have hTO₄ : IsTrip h₄ TO x b c := hs₄.extBut _ _ D.TOi2 hTO₃
  refine wpAny_bind (wpAny_seqItems hTO₄ rfl ?_)
  refine wpAny_bind (updTrip hTO₄ fun h₅ hTO₅ hs₅ => ?_)
  replace hTO₅ : IsTrip h₅ TO x y c := hTO₅
  refine wpAny_bind (wpAny_letGo (wpAny_pure ?_))
  have k₅ : ∀ d o, d ≠ z → d ≠ i1 → d ≠ TO → d ≠ i2 → s.heap.get? d = some o → h₅.get? d = some o := fun d o c1 c2 c3 c4 e => hs₅.extBut _ _ c3 (hs₄.extBut _ _ c4 (k₃ d o c1 c2 c3 e))
  -- the third
  refine wpAny_bind (wpAny_bind (wpAny_onRaise ?_))
  show wpAny _ _ (Builtin.SmallTypes.nextOf (.ref i3) >>= _) _ _ _
  refine wpAny_bind (RZ.nextOf_tuple_item (h3.at fun o e => k₅ i3 o D.i3z (Ne.symm D.i13) (Ne.symm D.TOi3) (Ne.symm D.i23) e) (hl3.at fun o e => k₅ l3 o D.l3z D.l3i1 D.l3TO D.l3i2 e) hu fun h₆ h3₆ hs₆ => wpAny_pure ?_)
  have hTO₆ : IsTrip h₆ TO x y c := hs₆.extBut _ _ D.TOi3 hTO₅
  refine wpAny_bind (wpAny_seqItems hTO₆ rfl ?_)
  refine wpAny_bind (updTrip hTO₆ fun h₇ hTO₇ hs₇ => ?_)
  replace hTO₇ : IsTrip h₇ TO x y u := hTO₇
  refine wpAny_bind (wpAny_letGo (wpAny_pure (wpAny_pure ?_)))
  -- the new tuple
  refine wpAny_bind (wpAny_seqItems hTO₇ rfl ?_)
  refine wpAny_bind (wpAny_newTuple ?_)
  have hsz : h₇.objs.size = s.heap.objs.size := by rw [hs₇.1, hs₆.1, hs₅.1, hs₄.1, hs₃.1, hs₂.1, hs₁.1]
  have hz₇ : IsZip h₇ z TI TO .ellipsis := hs₇.extBut _ _ (Ne.symm D.TOz) (hs₆.extBut _ _ (Ne.symm D.i3z) (hs₅.extBut _ _ (Ne.symm D.TOz) (hs₄.extBut _ _ (Ne.symm D.i2z) (hs₃.extBut _ _ (Ne.symm D.TOz) (hs₂.extBut _ _ (Ne.symm D.i1z) hz₁)))))
  have hk₇ : ∀ d o, d ≠ z → d ≠ TO → d ≠ i1 → d ≠ i2 → d ≠ i3 → s.heap.get? d = some o → h₇.get? d = some o := fun d o c1 c2 c3 c4 c5 e =>
    hs₇.extBut _ _ c2 (hs₆.extBut _ _ c5 (k₅ d o c1 c3 c2 c4 e))
  have h1₇ : h₇.IsTupleIter i1 l1 (k + 1) := ((((h1₂.extBut hs₃.extBut (Ne.symm D.TOi1)).extBut hs₄.extBut D.i12).extBut hs₅.extBut (Ne.symm D.TOi1)).extBut hs₆.extBut D.i13).extBut hs₇.extBut (Ne.symm D.TOi1)
  have h2₇ : h₇.IsTupleIter i2 l2 (k + 1) := ((h2₄.extBut hs₅.extBut (Ne.symm D.TOi2)).extBut hs₆.extBut D.i23).extBut hs₇.extBut (Ne.symm D.TOi2)
  have h3₇ : h₇.IsTupleIter i3 l3 (k + 1) := h3₆.extBut hs₇.extBut (Ne.symm D.TOi3)
  have hzlt : z < h₇.objs.size := Heap.lt_size hz₇
  show wpAny _ _ (Builtin.SmallTypes.ownedTupleHandOut (.ref z) (.ref h₇.objs.size) >>= _) _ _ _
  refine wpAny_bind ?_
  unfold Builtin.SmallTypes.ownedTupleHandOut
  have hz₈ : IsZip (h₇.push { cls := .type "tuple", data := .seq #[x, y, u] }) z TI TO .ellipsis := Heap.get?_push_of_some _ hz₇
  refine wpAny_bind (wpAny_setField_rec hz₈ (by simp) fun h₉ hz₉ hs₉ => ?_)
  replace hz₉ : IsZip h₉ z TI TO (rawInt h₇.objs.size) := hz₉
  refine wpAny_setField_rec hz₉ (by simp) fun h₁₀ hz₁₀ hs₁₀ => ?_
  replace hz₁₀ : IsZip h₁₀ z TI TO (rawInt h₇.objs.size) := hz₁₀
  have up : ∀ d o, d ≠ z → h₇.get? d = some o → h₁₀.get? d = some o := fun d o c1 e => hs₁₀.extBut _ _ c1 (hs₉.extBut _ _ c1 (Heap.get?_push_of_some _ e))
  have hT : IsTrip h₁₀ h₇.objs.size x y u := hs₁₀.extBut _ _ (Nat.ne_of_gt hzlt) (hs₉.extBut _ _ (Nat.ne_of_gt hzlt) (Heap.get?_push_size _ rfl))
  rw [hsz] at hz₁₀ hT
  refine wpAny_pure ⟨_, rfl, ?_⟩
  show Q (.ref h₇.objs.size) _
  rw [hsz]
  exact hQ h₁₀ hz₁₀ (up _ _ D.TOz hTO₇) (h1₇.at fun o e => up _ o D.i1z e) (h2₇.at fun o e => up _ o D.i2z e) (h3₇.at fun o e => up _ o D.i3z e) hT fun d o c1 c2 c3 c4 c5 e => up d o c1 (hk₇ d o c1 c2 c3 c4 c5 e)
theorem zip3_next_end {z TI TO i1 i2 i3 l1 l2 l3 : Addr} {k : Nat} {xs : Array Value} {a b c : Value} {Q : Fin → Shared → Prop} (hh : A.handled = none) (D : Apart3 z TI TO i1 i2 i3 l1 l2 l3)
    (hz : IsZip s.heap z TI TO .none) (hTI : IsTrip s.heap TI (.ref i1) (.ref i2) (.ref i3)) (hTO : IsTrip s.heap TO a b c)
    (h1 : s.heap.IsTupleIter i1 l1 k) (hl1 : s.heap.IsTuple l1 xs) (hx : xs[k]? = none)
    (hE : ∀ h' e, (∀ c o, c ≠ z → c ≠ i1 → s.heap.get? c = some o → h'.get? c = some o) → (∃ o, h'.get? e = some o ∧ o.cls = .type "StopIteration") → E (.ref e) { s with heap := h' }) :
    wpAny (model prog w) A (Builtin.«zip.__next__» ⟨[.ref z], []⟩) Q E s := by
  show wpAny _ _ (field (.ref z) 2 >>= _) _ _ _
  refine wpAny_bind (wpAny_field hz rfl (x := .bool false) rfl ?_)
  show wpAny _ _ (field (.ref z) 3 >>= _) _ _ _
  refine wpAny_bind (wpAny_field hz rfl (x := .ref TI) rfl ?_)
  refine wpAny_bind (wpAny_seqItems hTI rfl ?_)
  show wpAny _ _ (Builtin.SmallTypes.ownedTupleIsFree (.ref z) >>= _) _ _ _
  refine wpAny_bind ?_
  unfold Builtin.SmallTypes.ownedTupleIsFree
  refine wpAny_bind (wpAny_field hz rfl (x := .none) rfl (wpAny_pure ?_))
  simp only [if_true]
  refine wpAny_bind (wpAny_rule ?_)
  refine wpAny_bind (wpAny_field hz rfl (x := .ref TO) rfl ?_)
  refine wpAny_bind (wpAny_setField_rec hz (by simp) fun h₁ hz₁ hs₁ => ?_)
  replace hz₁ : IsZip h₁ z TI TO .ellipsis := hz₁
  refine wpAny_bind ?_
  simp only [List.zipIdx_cons, List.zipIdx_nil, List.forIn_cons, List.forIn_nil]
  refine wpAny_bind (wpAny_bind (wpAny_onRaise ?_))
  show wpAny _ _ (Builtin.SmallTypes.nextOf (.ref i1) >>= _) _ _ _
  refine wpAny_bind (RZ.nextOf_tuple_end hh (h1.extBut hs₁.extBut D.i1z) (hl1.extBut hs₁.extBut D.l1z) hx fun h₂ e hs₂ he => ?_)
  obtain ⟨oe, hoe, hce⟩ := he
  have hz₂ : IsZip h₂ z TI TO .ellipsis := hs₂ _ _ (Ne.symm D.i1z) hz₁
  have hez : e ≠ z := fun x => by subst x; rw [hz₂] at hoe; cases hoe; simp at hce
  exact wpAny_setField_rec hz₂ (by simp) fun h₃ _ hs₃ => hE h₃ e (fun c o c1 c3 x => hs₃.extBut _ _ c1 (hs₂ _ _ c3 (hs₁.extBut _ _ c1 x))) ⟨oe, hs₃.extBut _ _ hez hoe, hce⟩
theorem pyNext_zip3_item {z TI TO i1 i2 i3 l1 l2 l3 : Addr} {k : Nat} {xs ys zs : Array Value} {x y u a b c : Value} {Q : Option Value → Shared → Prop} (D : Apart3 z TI TO i1 i2 i3 l1 l2 l3)
    (hz : IsZip s.heap z TI TO .none) (hTI : IsTrip s.heap TI (.ref i1) (.ref i2) (.ref i3)) (hTO : IsTrip s.heap TO a b c)
    (h1 : s.heap.IsTupleIter i1 l1 k) (h2 : s.heap.IsTupleIter i2 l2 k) (h3 : s.heap.IsTupleIter i3 l3 k) (hl1 : s.heap.IsTuple l1 xs) (hl2 : s.heap.IsTuple l2 ys) (hl3 : s.heap.IsTuple l3 zs)
    (hx : xs[k]? = some x) (hy : ys[k]? = some y) (hu : zs[k]? = some u)
    (hQ : ∀ h', IsZip h' z TI TO (rawInt s.heap.objs.size) → IsTrip h' TO x y u → h'.IsTupleIter i1 l1 (k + 1) → h'.IsTupleIter i2 l2 (k + 1) → h'.IsTupleIter i3 l3 (k + 1) → IsTrip h' s.heap.objs.size x y u →
      (∀ c o, c ≠ z → c ≠ TO → c ≠ i1 → c ≠ i2 → c ≠ i3 → s.heap.get? c = some o → h'.get? c = some o) → Q (some (.ref s.heap.objs.size)) { s with heap := h' }) :
    wpAny (model prog w) A (pyNext (.ref z)) Q E s := by
  have hT : s.TypeIs (.ref z) "zip" := ⟨_, hz, rfl⟩
  unfold pyNext
  exact wpAny_bind (wpAny_attempt (wpAny_callSpecial?_slot (name := Str.ofString "__next__") hT F.slot_zip_next
    (wpAny_call_entry F.slot_zip_next hT F.entry_zip_next
      (zip3_next_item D hz hTI hTO h1 h2 h3 hl1 hl2 hl3 hx hy hu fun h' a1 a2 a3 a4 a5 a6 a7 => wpAny_pure (hQ h' a1 a2 a3 a4 a5 a6 a7)) (F.args_zip_next_1 _))))
theorem pyNext_zip3_end {z TI TO i1 i2 i3 l1 l2 l3 : Addr} {k : Nat} {xs : Array Value} {a b c : Value} {Q : Option Value → Shared → Prop} (hh : A.handled = none) (D : Apart3 z TI TO i1 i2 i3 l1 l2 l3)
    (hz : IsZip s.heap z TI TO .none) (hTI : IsTrip s.heap TI (.ref i1) (.ref i2) (.ref i3)) (hTO : IsTrip s.heap TO a b c)
    (h1 : s.heap.IsTupleIter i1 l1 k) (hl1 : s.heap.IsTuple l1 xs) (hx : xs[k]? = none)
    (hQ : ∀ h', (∀ c o, c ≠ z → c ≠ i1 → s.heap.get? c = some o → h'.get? c = some o) → Q none { s with heap := h' }) : wpAny (model prog w) A (pyNext (.ref z)) Q E s := by
  have hT : s.TypeIs (.ref z) "zip" := ⟨_, hz, rfl⟩
  unfold pyNext
  refine wpAny_bind (wpAny_attempt (wpAny_callSpecial?_slot (name := Str.ofString "__next__") hT F.slot_zip_next
    (wpAny_call_entry F.slot_zip_next hT F.entry_zip_next (zip3_next_end hh D hz hTI hTO h1 hl1 hx fun h' e hk he => ?_) (F.args_zip_next_1 _))))
  obtain ⟨o, ho, hc⟩ := he
  refine wpAny_bind (wpAny_isInstance (T := "StopIteration") (b := true) ⟨o, ho, hc⟩ isSubtype_stop ?_)
  exact wpAny_pure (hQ _ hk)
end
abbrev zH1 (h : Heap) (l1 : Addr) : Heap := h.push { cls := .type "tuple_iterator", data := .fields #[.ref l1, .int 0 0] }
abbrev zH2 (h : Heap) (l1 l2 : Addr) : Heap := (zH1 h l1).push { cls := .type "tuple_iterator", data := .fields #[.ref l2, .int 0 0] }
abbrev zH3 (h : Heap) (l1 l2 l3 : Addr) : Heap := (zH2 h l1 l2).push { cls := .type "tuple_iterator", data := .fields #[.ref l3, .int 0 0] }
abbrev zH4 (h : Heap) (l1 l2 l3 : Addr) : Heap := (zH3 h l1 l2 l3).push { cls := .type "tuple", data := .seq #[.ref h.objs.size, .ref (zH1 h l1).objs.size, .ref (zH2 h l1 l2).objs.size] }
abbrev zH5 (h : Heap) (l1 l2 l3 : Addr) : Heap := (zH4 h l1 l2 l3).push { cls := .type "tuple", data := .seq #[.none, .none, .none] }
abbrev zH6 (h : Heap) (l1 l2 l3 : Addr) : Heap := (zH5 h l1 l2 l3).push { cls := .type "zip", data := .fields #[.none, .bool false, .bool false, .ref (zH3 h l1 l2 l3).objs.size, .ref (zH4 h l1 l2 l3).objs.size] }
theorem meets_zip3_new (l1 l2 l3 : Addr) (xs ys zs : Array Value) :
    Meets (Builtin.«zip.__new__» ⟨[.type "zip", .ref l1, .ref l2, .ref l3], []⟩) (fun _ R s => s.heap.IsTuple l1 xs ∧ s.heap.IsTuple l2 ys ∧ s.heap.IsTuple l3 zs ∧
      R (.ok (.ret (.ref (zH5 s.heap l1 l2 l3).objs.size))) { s with heap := zH6 s.heap l1 l2 l3 }) :=
  .of_wp fun prog w A R s h => by
    obtain ⟨hp, g, d, tk, os⟩ := s; obtain ⟨hl1, hl2, hl3, h⟩ := h
    have hsub := sub_zip
    have hL1 : Heap.IsTuple (Shared.heap ⟨hp, g, d, tk, os⟩) l1 xs := hl1
    have hL2 : Heap.IsTuple (Shared.heap ⟨hp.push { cls := .type "tuple_iterator", data := .fields #[.ref l1, .int 0 0] }, g, d, tk, os⟩) l2 ys := Heap.IsTuple.push hl2 _
    have hL3 : Heap.IsTuple (Shared.heap ⟨(hp.push { cls := .type "tuple_iterator", data := .fields #[.ref l1, .int 0 0] }).push { cls := .type "tuple_iterator", data := .fields #[.ref l2, .int 0 0] }, g, d, tk, os⟩) l3 zs := Heap.IsTuple.push (Heap.IsTuple.push hl3 _) _
    wp_walk using wpAny_pyIter_tuple hL1, wpAny_pyIter_tuple hL2, wpAny_pyIter_tuple hL3
    exact ⟨_, rfl, h⟩
section
variable {prog : Program} {w : World} {A : Around} {E : Value → Shared → Prop} {s : Shared}
theorem call_zip3 {l1 l2 l3 : Addr} {xs ys zs : Array Value} {Q : Value → Shared → Prop} (hl1 : s.heap.IsTuple l1 xs) (hl2 : s.heap.IsTuple l2 ys) (hl3 : s.heap.IsTuple l3 zs)
    (h : ∀ h', IsZip h' (s.heap.objs.size + 5) (s.heap.objs.size + 3) (s.heap.objs.size + 4) .none → IsTrip h' (s.heap.objs.size + 3) (.ref s.heap.objs.size) (.ref (s.heap.objs.size + 1)) (.ref (s.heap.objs.size + 2)) →
      IsTrip h' (s.heap.objs.size + 4) .none .none .none → h'.IsTupleIter s.heap.objs.size l1 0 → h'.IsTupleIter (s.heap.objs.size + 1) l2 0 → h'.IsTupleIter (s.heap.objs.size + 2) l3 0 →
      (∀ c o, s.heap.get? c = some o → h'.get? c = some o) → Q (.ref (s.heap.objs.size + 5)) { s with heap := h' }) :
    wpAny (model prog w) A (call (.type "zip") [.ref l1, .ref l2, .ref l3]) Q E s := by
  refine callType_new F.called_zip (by decide) (F3.typeCall_zip_3 _ _ _) (F3.newCall_zip_3 _ _ _) (fun obj => F3.args_object_init_4 obj _ _ _) F.entry_zip_new
    (meets_zip3_new l1 l2 l3 xs ys zs) ⟨hl1, hl2, hl3, ?_⟩
  have z1 : (zH1 s.heap l1).objs.size = s.heap.objs.size + 1 := Heap.size_push ..
  have z2 : (zH2 s.heap l1 l2).objs.size = s.heap.objs.size + 2 := by rw [Heap.size_push, z1]
  have z3 : (zH3 s.heap l1 l2 l3).objs.size = s.heap.objs.size + 3 := by rw [Heap.size_push, z2]
  have z4 : (zH4 s.heap l1 l2 l3).objs.size = s.heap.objs.size + 4 := by rw [Heap.size_push, z3]
  have z5 : (zH5 s.heap l1 l2 l3).objs.size = s.heap.objs.size + 5 := by rw [Heap.size_push, z4]
  have g6 : (zH6 s.heap l1 l2 l3).get? (zH5 s.heap l1 l2 l3).objs.size = some _ := Heap.get?_push_size _ rfl
  have g5 : (zH6 s.heap l1 l2 l3).get? (zH4 s.heap l1 l2 l3).objs.size = some _ := Heap.get?_push_of_some _ (Heap.get?_push_size _ rfl)
  have g4 : (zH6 s.heap l1 l2 l3).get? (zH3 s.heap l1 l2 l3).objs.size = some _ := Heap.get?_push_of_some _ (Heap.get?_push_of_some _ (Heap.get?_push_size _ rfl))
  have g3 : (zH6 s.heap l1 l2 l3).get? (zH2 s.heap l1 l2).objs.size = some _ := Heap.get?_push_of_some _ (Heap.get?_push_of_some _ (Heap.get?_push_of_some _ (Heap.get?_push_size _ rfl)))
  have g2 : (zH6 s.heap l1 l2 l3).get? (zH1 s.heap l1).objs.size = some _ := Heap.get?_push_of_some _ (Heap.get?_push_of_some _ (Heap.get?_push_of_some _ (Heap.get?_push_of_some _ (Heap.get?_push_size _ rfl))))
  have g1 : (zH6 s.heap l1 l2 l3).get? s.heap.objs.size = some _ := Heap.get?_push_of_some _ (Heap.get?_push_of_some _ (Heap.get?_push_of_some _ (Heap.get?_push_of_some _ (Heap.get?_push_of_some _ (Heap.get?_push_size _ rfl)))))
  show _ ∧ _
  rw [z3, z4, z5] at g6
  rw [z1, z2, z3] at g4
  rw [z4] at g5
  rw [z2] at g3
  rw [z1] at g2
  rw [z5]
  exact ⟨⟨_, g6, rfl⟩, h _ g6 g4 g5 ⟨_, g1, rfl, rfl⟩ ⟨_, g2, rfl, rfl⟩ ⟨_, g3, rfl, rfl⟩ fun c o x =>
    Heap.get?_push_of_some _ (Heap.get?_push_of_some _ (Heap.get?_push_of_some _ (Heap.get?_push_of_some _ (Heap.get?_push_of_some _ (Heap.get?_push_of_some _ x)))))⟩
end
/-- the tuples at a, b and d, the items in new triples -/
def Itz3 (K : PySem.W.Frag) (a b d : Addr) : It :=
  ⟨fun i H => ∃ (xs ys zs : List V) (x y u : V), SqT K H a xs ∧ SqT K H b ys ∧ SqT K H d zs ∧ xs[i]? = some x ∧ ys[i]? = some y ∧ zs[i]? = some u,
    fun i H v H' => ∃ T x y u, v = .ref T ∧ H T = none ∧ H' = upd H T (.tup [x, y, u]) ∧ (∀ xs, SqT K H a xs → xs[i]? = some x) ∧ (∀ ys, SqT K H b ys → ys[i]? = some y) ∧ ∀ zs, SqT K H d zs → zs[i]? = some u,
    fun i H => ∃ xs : List V, SqT K H a xs ∧ xs.length ≤ i⟩
theorem turn_zip3 {P : Program} {w : World} {K : PySem.W.Frag} {elts : List Expr} {kk : Nat} {tpos : Pos} {a b d z TI TO i1 i2 i3 : Addr} (D : Apart3 z TI TO i1 i2 i3 a b d) :
    Turn P w K (.Tuple elts kk tpos) (Itz3 K a b d) [z, TI, TO, i1, i2, i3] z (fun i h => IsZip h z TI TO .none ∧ IsTrip h TI (.ref i1) (.ref i2) (.ref i3) ∧ (∃ x y u, IsTrip h TO x y u) ∧ h.IsTupleIter i1 a i ∧ h.IsTupleIter i2 b i ∧ h.IsTupleIter i3 d i) where
  mem := by simp
  obj := fun i h st c hc => by
    obtain ⟨hz, hTI, ⟨x, y, u, hTO⟩, ⟨o1, e1, _, d1⟩, ⟨o2, e2, _, d2⟩, ⟨o3, e3, _, d3⟩⟩ := st
    have e' : c = z ∨ c = TI ∨ c = TO ∨ c = i1 ∨ c = i2 ∨ c = i3 := by simpa using hc
    rcases e' with q | q | q | q | q | q
    · rw [q]; exact ⟨_, hz, fun v q => nomatch q⟩
    · rw [q]; exact ⟨_, hTI, fun v q => nomatch q⟩
    · rw [q]; exact ⟨_, hTO, fun v q => nomatch q⟩
    · rw [q]; exact ⟨o1, e1, fun v q => by rw [d1] at q; cases q⟩
    · rw [q]; exact ⟨o2, e2, fun v q => by rw [d2] at q; cases q⟩
    · rw [q]; exact ⟨o3, e3, fun v q => by rw [d3] at q; cases q⟩
  keep := fun i h h' st k => by
    obtain ⟨hz, hTI, ⟨x, y, u, hTO⟩, h1, h2, h3⟩ := st
    exact ⟨k z (by simp) _ hz, k TI (by simp) _ hTI, ⟨x, y, u, k TO (by simp) _ hTO⟩, h1.at fun o q => k i1 (by simp) o q, h2.at fun o q => k i2 (by simp) o q, h3.at fun o q => k i3 (by simp) o q⟩
  item := by
    intro X hP hw hK hc i pins s σ H E I hf st hg
    subst hP hw hK
    obtain ⟨hz, hTI, ⟨x0, y0, u0, hTO⟩, h1, h2, h3⟩ := st
    obtain ⟨xs, ys, zs, x, y, u, hqx, hqy, hqu, hx, hy, hu⟩ := hg
    obtain ⟨its, rv, p, _⟩ := I.tuple hqx
    obtain ⟨its2, rv2, p2, _⟩ := I.tuple hqy
    obtain ⟨its3, rv3, p3, _⟩ := I.tuple hqu
    obtain ⟨v1, e1, r1⟩ := rv.get hx
    obtain ⟨v2, e2, r2⟩ := rv2.get hy
    obtain ⟨v3, e3, r3⟩ := rv3.get hu
    have hzl : z < s.heap.objs.size := Heap.lt_size hz
    refine pyNext_zip3_item D hz hTI hTO h1 h2 h3 p p2 p3 (x := v1) (y := v2) (u := v3) (by simpa using e1) (by simpa using e2) (by simpa using e3) fun h' z' TO' h1' h2' h3' hT hk => ?_
    refine ⟨_, rfl, wpAny_letOwnedTupleGo_zip (s := { s with heap := h' }) z' fun h'' z'' sb => ?_⟩
    have hT2 : h''.get? s.heap.objs.size = some { cls := .type "tuple", data := .seq #[v1, v2, v3] } := (sb.2 _ (Nat.ne_of_gt hzl)).trans hT
    have new : ObjOk X.prog X.w (upd H s.heap.objs.size (.tup [x, y, u])) h'' s.heap.objs.size (.tup [x, y, u]) :=
      ⟨by show 3 ≤ sizeLine; decide, [v1, v2, v3], .cons r1 (.cons r2 (.cons r3 .nil)), ⟨_, hT2, rfl, _, rfl⟩⟩
    have I1 : Inv X pins σ (upd H s.heap.objs.size (.tup [x, y, u])) { s with heap := h'' } :=
      I.turnedNew (t' := s.toks) (ch := [z, TI, TO, i1, i2, i3]) (fun c o hb q => (sb.2 c (fun q' => hb (by simp [q']))).trans (hk c o (fun q' => hb (by simp [q'])) (fun q' => hb (by simp [q'])) (fun q' => hb (by simp [q'])) (fun q' => hb (by simp [q'])) (fun q' => hb (by simp [q'])) q)) hf (Nat.le_refl _) new
    refine ⟨.ref s.heap.objs.size, _, I1, rfl, ⟨_, x, y, u, rfl, I.hok.fresh (Nat.le_refl _), rfl, fun l hl => by rw [I.tuple_inj hl hqx]; exact hx, fun l hl => by rw [I.tuple_inj hl hqy]; exact hy, fun l hl => by rw [I.tuple_inj hl hqu]; exact hu⟩, ⟨z'', ?_, ⟨v1, v2, v3, ?_⟩, ?_, ?_, ?_⟩, fun c hcm => ?_⟩
    · exact (sb.2 _ D.TIz).trans (hk _ _ D.TIz D.TITO D.TIi1 D.TIi2 D.TIi3 hTI)
    · exact (sb.2 _ D.TOz).trans TO'
    · exact h1'.at fun o q => (sb.2 _ D.i1z).trans q
    · exact h2'.at fun o q => (sb.2 _ D.i2z).trans q
    · exact h3'.at fun o q => (sb.2 _ D.i3z).trans q
    · have hlt : c < s.heap.objs.size := by
        have e' : c = z ∨ c = TI ∨ c = TO ∨ c = i1 ∨ c = i2 ∨ c = i3 := by simpa using hcm
        rcases e' with q | q | q | q | q | q
        · rw [q]; exact hzl
        · rw [q]; exact Heap.lt_size hTI
        · rw [q]; exact Heap.lt_size hTO
        · rw [q]; obtain ⟨_, e1, _⟩ := h1; exact Heap.lt_size e1
        · rw [q]; obtain ⟨_, e1, _⟩ := h2; exact Heap.lt_size e1
        · rw [q]; obtain ⟨_, e1, _⟩ := h3; exact Heap.lt_size e1
      rw [upd_ne (Nat.ne_of_lt hlt)]
      exact (hf c hcm).1
  done := by
    intro X hP hw hK hc i pins s σ H E I hf st hg
    subst hP hw hK
    obtain ⟨hz, hTI, ⟨x0, y0, u0, hTO⟩, h1, h2, h3⟩ := st
    obtain ⟨xs, hqx, hend⟩ := hg
    obtain ⟨its, rv, p, _⟩ := I.tuple hqx
    have l1 := rv.length
    have he : its.toArray[i]? = none := by simp; omega
    exact pyNext_zip3_end (I.ok.hd hc) D hz hTI hTO h1 p he fun h' hk => ⟨rfl, I.turnedL (t' := s.toks) (ch := [z, TI, TO, i1, i2, i3]) (fun c o hb q =>
      hk c o (fun q' => hb (by simp [q'])) (fun q' => hb (by simp [q'])) q) hf⟩
  self := fun A i s Q E st h => wpAny_pyIter_zip st.1 h
def iZip3 (K : PySem.W.Frag) (ta : TA) : TI := fun σ H R => ta σ H fun vs H1 => ∃ a b d xs ys zs, vs = [.ref a, .ref b, .ref d] ∧ SqT K H1 a xs ∧ SqT K H1 b ys ∧ SqT K H1 d zs ∧ R (Itz3 K a b d) H1
theorem pi_zip3 {X : Cx} {e e2 e3 : Expr} {ta : TA} {p pos tpos : Pos} {elts : List Expr} {kk : Nat} (hg : Gl X "zip") (hm : X.mg "zip" = none) (ha : PA X [e, e2, e3] ta)
    (hs : starEach [e, e2, e3] X.env = (false, eval e X.env) :: starEach [e2, e3] X.env := by rfl) (hpl : (backTo pos (starEach [e2, e3] X.env)).any (·.1) = false := by rfl) :
    PI X (.Tuple elts kk tpos) (.Call (.Name "zip" p) [e, e2, e3] [] pos) (iZip3 X.K ta) := by
  refine ⟨fun pins s σ H R I h => ?_⟩
  refine Call_ (ld_blt I hg hm PyProof.Rows.boot_zip (PyProof.Rows.callWith_type1 (thn (ha.run pos pins s σ H _ I h) fun us s1 ⟨vs, H1, I1, r1, q1⟩ => ?_) hs hpl))
  obtain ⟨a, b, d, xs, ys, zs, ex, hqx, hqy, hqu, q⟩ := q1
  subst ex
  cases r1 with
  | cons r rr =>
    cases rr with
    | cons r' rr =>
      cases rr with
      | cons r'' rr =>
        cases rr
        cases r
        cases r'
        cases r''
        have fresh6 : ∀ c, c ∈ [s1.heap.objs.size + 5, s1.heap.objs.size + 3, s1.heap.objs.size + 4, s1.heap.objs.size, s1.heap.objs.size + 1, s1.heap.objs.size + 2] → FpOk X pins H1 c := fun c hcm => by
          have e' : c = s1.heap.objs.size + 5 ∨ c = s1.heap.objs.size + 3 ∨ c = s1.heap.objs.size + 4 ∨ c = s1.heap.objs.size ∨ c = s1.heap.objs.size + 1 ∨ c = s1.heap.objs.size + 2 := by simpa using hcm
          have hle : s1.heap.objs.size ≤ c := by
            rcases e' with z | z | z | z | z | z
            · rw [z]; exact Nat.le_add_right _ _
            · rw [z]; exact Nat.le_add_right _ _
            · rw [z]; exact Nat.le_add_right _ _
            · rw [z]; exact Nat.le_refl _
            · rw [z]; exact Nat.le_add_right _ _
            · rw [z]; exact Nat.le_add_right _ _
          exact I1.fpOk hle (I1.hok.fresh hle)
        obtain ⟨its, rv, p1, _⟩ := I1.tuple hqx
        obtain ⟨its2, rv2, p2, _⟩ := I1.tuple hqy
        obtain ⟨its3, rv3, p3, _⟩ := I1.tuple hqu
        obtain ⟨o1, ho1, _⟩ := id p1
        obtain ⟨o2, ho2, _⟩ := id p2
        obtain ⟨o3, ho3, _⟩ := id p3
        refine call_zip3 (show s1.heap.IsTuple a its.toArray from p1) (show s1.heap.IsTuple b its2.toArray from p2) (show s1.heap.IsTuple d its3.toArray from p3) fun h' hz hTI hTO h1 h2 h3 hk => wpAny_pyIter_zip hz ?_
        have I2 : Inv X pins σ H1 { s1 with heap := h' } := I1.kept (t' := s1.toks) hk
        exact ⟨s1.heap.objs.size + 5, [s1.heap.objs.size + 5, s1.heap.objs.size + 3, s1.heap.objs.size + 4, s1.heap.objs.size, s1.heap.objs.size + 1, s1.heap.objs.size + 2], _, _, H1, rfl, I2, turn_zip3 (apart3_new s1.heap.objs.size a b d (Heap.lt_size ho1) (Heap.lt_size ho2) (Heap.lt_size ho3)), ⟨hz, hTI, ⟨_, _, _, hTO⟩, h1, h2, h3⟩, fresh6, q⟩
end M

set_option maxHeartbeats 2000000
namespace M
open PySem PySem.Spec L2
/-- J walks the values xs while keep holds -/
def Walks (K : PySem.W.Frag) (S1 : Sto) (H1 : Hp) (xs : List Val) (keep : Sto → Prop) (J : It) : Prop := ∀ (i : Nat) (S : Sto) (H : Hp), Evo S1 H1 S H → Cor K S H → keep S →
  (i < xs.length → J.go i H ∧ ∀ x H', J.yld i H x H' → ∃ v, xs[i]? = some v ∧ RepV K H' v x ∧ Evo S H S H' ∧ Cor K S H') ∧ (i = xs.length → J.stop i H)
def lI (K : PySem.W.Frag) (S0 : Sto) (H0 : Hp) (t : Loc → Sto → (List Val → (Sto → Prop) → Sto → Prop) → Prop) : TI := fun σ H R => ∃ ρ S, CorL K H ρ σ ∧ Cor K S H ∧ Evo S0 H0 S H ∧
  t ρ S (fun xs keep S' => ∀ H' J, Evo S H S' H' → Cor K S' H' → Walks K S' H' xs keep J → R J H')
section
variable {X : Cx} {tg : Expr}
/-- a list, a tuple or a text is walked -/
def iAny (K : PySem.W.Frag) (tl : TE) : TI := fun σ H R => tl σ H fun x H1 => (∃ a, x = .ref a ∧ (∃ xs, SqL K H1 a xs) ∧ R (Itl K a) H1) ∨ (∃ a, x = .ref a ∧ (∃ xs, SqT K H1 a xs) ∧ R (Itt K a) H1) ∨ ∃ z, x = .str z ∧ R (Its z) H1
theorem pi_any {l : Expr} {tl : TE} (hl : PE X l tl) : PI X tg l (iAny X.K tl) := by
  refine ⟨fun pins s σ H R I h => ?_⟩
  refine thn (hl.run pins s σ H _ I h) fun v s1 ⟨x, H1, I1, r1, q1⟩ => ?_
  rcases q1 with ⟨a, e, ⟨xs, hq⟩, q⟩ | ⟨a, e, ⟨xs, hq⟩, q⟩ | ⟨z, e, q⟩
  · subst e
    cases r1
    obtain ⟨its, rv, p, hz⟩ := I1.list hq
    refine wpAny_pyIter_list p.isList ?_
    exact pi_one (tk := s1.toks) I1 _ (turn_list a _) ⟨_, Heap.get?_push_size _ rfl, rfl, rfl⟩ q
  · subst e
    cases r1
    obtain ⟨its, rv, p, hz⟩ := I1.tuple hq
    refine wpAny_pyIter_tuple (show s1.heap.IsTuple a its.toArray from p) ?_
    exact pi_one (tk := s1.toks) I1 _ (turn_tuple a _) ⟨_, Heap.get?_push_size _ rfl, rfl, rfl⟩ q
  · subst e
    obtain ⟨t, rfl⟩ := r1
    cases ha : z.cps.all (· < 128)
    · exact PySem.wpAny_pyIter_wide ha (pi_one (tk := s1.toks) I1 _ (turn_str _ z t "str_iterator" (.inr rfl)) ⟨_, Heap.get?_push_size _ rfl, rfl, rfl⟩ q)
    · exact PySem.wpAny_pyIter_ascii ha (pi_one (tk := s1.toks) I1 _ (turn_str _ z t "str_ascii_iterator" (.inl rfl)) ⟨_, Heap.get?_push_size _ rfl, rfl, rfl⟩ q)
theorem PI.imp {l : Expr} {w w' : TI} (h : PI X tg l w) (i : ∀ σ H R, w' σ H R → w σ H R) : PI X tg l w' := ⟨fun pins s σ H R I q => h.run pins s σ H R I (i _ _ _ q)⟩
end
section
variable {K : PySem.W.Frag} {S1 : Sto} {H1 : Hp}
theorem walks_list {a : Addr} {vs : List Val} : Walks K S1 H1 vs (fun S => rdL S a vs) (Itl K a) := fun i S H e c k => by
  obtain ⟨xs, l, r⟩ := c.rd k
  refine ⟨fun hi => ?_, fun hi => ⟨xs, l, by rw [r.length]; exact Nat.le_of_eq hi.symm⟩⟩
  have hx : i < xs.length := by rw [r.length]; exact hi
  refine ⟨⟨xs, xs[i], l, by simp [hx]⟩, fun x H' y => ?_⟩
  obtain ⟨e1, y⟩ := y
  subst e1
  obtain ⟨v, ev, rv⟩ := r.getR (y xs l)
  exact ⟨v, ev, rv, .refl, c⟩
theorem walks_tup {a : Addr} {vs : List Val} {xs : List V} (t : SqT K H1 a xs) (r : RepVs K H1 vs xs) : Walks K S1 H1 vs (fun _ => True) (Itt K a) := fun i S H e c k => by
  have l := SqT.evo e.tup e.frz t
  have r := r.evo e
  refine ⟨fun hi => ?_, fun hi => ⟨xs, l, by rw [r.length]; exact Nat.le_of_eq hi.symm⟩⟩
  have hx : i < xs.length := by rw [r.length]; exact hi
  refine ⟨⟨xs, xs[i], l, by simp [hx]⟩, fun x H' y => ?_⟩
  obtain ⟨e1, y⟩ := y
  subst e1
  obtain ⟨v, ev, rv⟩ := r.getR (y xs l)
  exact ⟨v, ev, rv, .refl, c⟩
theorem walks_str {z : Str} : Walks K S1 H1 (z.cps.toList.map fun c => .str ⟨#[c]⟩) (fun _ => True) (Its z) := fun i S H e c k => by
  refine ⟨fun hi => ?_, fun hi => ?_⟩
  · have hx : i < z.cps.size := by simpa using hi
    refine ⟨hx, fun x H' y => ?_⟩
    obtain ⟨e1, ch, h1, h2⟩ := y
    subst e1; subst h2
    refine ⟨.str ⟨#[ch]⟩, ?_, by simp only [RepV], .refl, c⟩
    rw [List.getElem?_map, Array.getElem?_toList, h1]; rfl
  · show z.cps.size ≤ i
    simp at hi; omega
theorem walks_rrng {n : Nat} : Walks K S1 H1 (rngV 0 n).reverse (fun _ => True) (Itc (0 + ((n : Nat) : Int) - 1) (-1) n) := fun i S H e c k => by
  have hl : (rngV 0 n).reverse.length = n := by unfold rngV; simp
  refine ⟨fun hi => ?_, fun hi => ?_⟩
  · rw [hl] at hi
    refine ⟨hi, fun x H' y => ?_⟩
    obtain ⟨e1, e2⟩ := y
    subst e1; subst e2
    refine ⟨.int (0 + ((n : Nat) : Int) - 1 + (i : Nat) * (-1)), ?_, by simp only [RepV], .refl, c⟩
    have hl2 : (rngV 0 n).length = n := by unfold rngV; simp
    rw [List.getElem?_reverse (by rw [hl2]; exact hi), hl2]
    unfold rngV
    rw [List.getElem?_map, List.getElem?_range (by omega)]
    show some (Val.int (0 + ((n - 1 - i : Nat) : Int))) = _
    congr 2
    omega
  · rw [hl] at hi
    show n ≤ i
    omega
theorem walks_rng {lo : Int} {n : Nat} : Walks K S1 H1 (rngV lo n) (fun _ => True) (Itr lo n) := fun i S H e c k => by
  have hl : (rngV lo n).length = n := by unfold rngV; simp
  refine ⟨fun hi => ?_, fun hi => ?_⟩
  · rw [hl] at hi
    refine ⟨hi, fun x H' y => ?_⟩
    obtain ⟨e1, e2⟩ := y
    subst e1; subst e2
    refine ⟨.int (lo + i), ?_, by simp only [RepV], .refl, c⟩
    unfold rngV
    rw [List.getElem?_map, List.getElem?_range hi]; rfl
  · rw [hl] at hi
    show n ≤ i
    omega
end
section
variable {K : PySem.W.Frag} {S1 : Sto} {H1 : Hp}
theorem RepK.at' {κ : Type} {H : Hp} {kvs : List (κ × Val)} {us : List (κ × V)} (h : RepK K H kvs us) : ∀ {i : Nat} {k : κ} {x : V}, us[i]? = some (k, x) → ∃ v, kvs[i]? = some (k, v) := by
  unfold RepK at h
  induction h with
  | nil => intro i k x e; simp at e
  | @cons p q ps qs hh t ih =>
    intro i k x e
    cases i with
    | zero =>
      simp only [List.getElem?_cons_zero, Option.some.injEq] at e ⊢
      subst e
      obtain ⟨p1, p2⟩ := p
      obtain ⟨h1, _⟩ := hh
      exact ⟨p2, by rw [show p1 = k from h1]⟩
    | succ i => simp only [List.getElem?_cons_succ] at e ⊢; exact ih e
theorem walks_keys {a : Addr} {o : Obj} {kvs : List (Key × Val)} {us : List (Key × V)} (hf : H1 a = some (.frz o (.dK us))) (r : RepK K H1 kvs us) : Walks K S1 H1 (kvs.map fun kv => kval kv.1) (fun S => S a = some (.fK kvs)) (Itk a o us) := fun i S H e c k => by
  have h1 := e.frz _ _ _ hf
  have hl := r.length'
  refine ⟨fun hi => ?_, fun hi => ⟨h1, by rw [hl]; rw [List.length_map] at hi; exact Nat.le_of_eq hi.symm⟩⟩
  rw [List.length_map] at hi
  refine ⟨⟨h1, by rw [hl]; exact hi⟩, fun x H' y => ?_⟩
  obtain ⟨e1, kk, v, e2, e3⟩ := y
  subst e1; subst e3
  obtain ⟨w, ew⟩ := r.at' e2
  exact ⟨kval kk, by rw [List.getElem?_map, ew]; rfl, rep_kval, .refl, c⟩
theorem walks_keysT {a : Addr} {o : Obj} {kvs : List (List Key × Val)} {us : List (List Key × V)} (hf : H1 a = some (.frz o (.dT us))) (r : RepK K H1 kvs us) : Walks K S1 H1 (kvs.map fun kv => .ptup (kv.1.map kval)) (fun S => S a = some (.fT kvs)) (Itkt a o us) := fun i S H e c k => by
  have h1 := e.frz _ _ _ hf
  have hl := r.length'
  refine ⟨fun hi => ?_, fun hi => ⟨h1, by rw [hl]; rw [List.length_map] at hi; exact Nat.le_of_eq hi.symm⟩⟩
  rw [List.length_map] at hi
  refine ⟨⟨h1, by rw [hl]; exact hi⟩, fun x H' y => ?_⟩
  obtain ⟨e1, kk, v, q, e2, e3, e4⟩ := y
  subst e1; subst e3
  obtain ⟨w, ew⟩ := r.at' e2
  exact ⟨.ptup (kk.map kval), by rw [List.getElem?_map, ew]; rfl, by simp only [RepV]; exact ⟨q, _, rfl, e4, rep_kvals⟩, .refl, c⟩
theorem pair_new {S : Sto} {H : Hp} {T : Addr} {v w : Val} {x y : V} (c : Cor K S H) (hT : H T = none) (r : RepV K H v x) (r' : RepV K H w y) : RepV K (upd H T (.tup [x, y])) (.ptup [v, w]) (.ref T) ∧ Evo S H S (upd H T (.tup [x, y])) ∧ Cor K S (upd H T (.tup [x, y])) := by
  have e : Evo S H S (upd H T (.tup [x, y])) := .tupN hT
  refine ⟨?_, e, c.tupN hT⟩
  simp only [RepV]
  exact ⟨T, _, rfl, upd_same, .cons (r.evo e) (.cons (r'.evo e) .nil)⟩
theorem zw_get {xs ys : List Val} {i : Nat} {v w : Val} (h : xs[i]? = some v) (h' : ys[i]? = some w) : (List.zipWith (fun x y => Val.ptup [x, y]) xs ys)[i]? = some (.ptup [v, w]) := by
  rw [List.getElem?_zipWith, h, h']
theorem walks_zip {a b : Addr} {xs ys : List Val} : Walks K S1 H1 (List.zipWith (fun x y => .ptup [x, y]) xs ys) (fun S => rdL S a xs ∧ rdL S b ys) (Itz K a b) := fun i S H e c k => by
  obtain ⟨us, l1, r1⟩ := c.rd k.1
  obtain ⟨ws, l2, r2⟩ := c.rd k.2
  have h1 := r1.length
  have h2 := r2.length
  refine ⟨fun hi => ?_, fun hi => ?_⟩
  · rw [List.length_zipWith] at hi
    have hx : i < us.length := by omega
    have hy : i < ws.length := by omega
    refine ⟨⟨us, ws, us[i], ws[i], l1, l2, by simp [hx], by simp [hy]⟩, fun x H' y => ?_⟩
    obtain ⟨T, z, z', rfl, hT, rfl, q1, q2⟩ := y
    obtain ⟨v, ev, rv⟩ := r1.getR (q1 us l1)
    obtain ⟨w, ew, rw'⟩ := r2.getR (q2 ws l2)
    obtain ⟨p1, p2, p3⟩ := pair_new c hT rv rw'
    exact ⟨_, zw_get ev ew, p1, p2, p3⟩
  · rw [List.length_zipWith] at hi
    exact ⟨us, ws, l1, l2, by omega⟩
theorem trip_new {S : Sto} {H : Hp} {T : Addr} {v w t : Val} {x y u : V} (c : Cor K S H) (hT : H T = none) (r : RepV K H v x) (r' : RepV K H w y) (r'' : RepV K H t u) : RepV K (upd H T (.tup [x, y, u])) (.ptup [v, w, t]) (.ref T) ∧ Evo S H S (upd H T (.tup [x, y, u])) ∧ Cor K S (upd H T (.tup [x, y, u])) := by
  have e : Evo S H S (upd H T (.tup [x, y, u])) := .tupN hT
  refine ⟨?_, e, c.tupN hT⟩
  simp only [RepV]
  exact ⟨T, _, rfl, upd_same, .cons (r.evo e) (.cons (r'.evo e) (.cons (r''.evo e) .nil))⟩
theorem zip3_get {xs ys zs : List Val} {i : Nat} {v w u : Val} (h : xs[i]? = some v) (h' : ys[i]? = some w) (h'' : zs[i]? = some u) : (zip3V xs ys zs)[i]? = some (.ptup [v, w, u]) := by
  unfold zip3V
  have : (ys.zip zs)[i]? = some (w, u) := by
    rw [List.zip, List.getElem?_zipWith, h', h'']
  rw [List.getElem?_zipWith, h, this]
theorem zip3_len {xs ys zs : List Val} (h : xs.length = ys.length) (h' : xs.length = zs.length) : (zip3V xs ys zs).length = xs.length := by
  unfold zip3V
  rw [List.length_zipWith, List.length_zip]; omega
theorem walks_zip3 {a b d : Addr} {xs ys zs : List Val} {us ws ts : List V} (t1 : SqT K H1 a us) (t2 : SqT K H1 b ws) (t3 : SqT K H1 d ts) (r1 : RepVs K H1 xs us) (r2 : RepVs K H1 ys ws) (r3 : RepVs K H1 zs ts) (e1 : xs.length = ys.length) (e2 : xs.length = zs.length) : Walks K S1 H1 (zip3V xs ys zs) (fun _ => True) (Itz3 K a b d) := fun i S H e c k => by
  have l1 := SqT.evo e.tup e.frz t1
  have l2 := SqT.evo e.tup e.frz t2
  have l3 := SqT.evo e.tup e.frz t3
  have r1 := r1.evo e
  have r2 := r2.evo e
  have r3 := r3.evo e
  have h1 := r1.length
  have h2 := r2.length
  have h3 := r3.length
  rw [zip3_len e1 e2]
  refine ⟨fun hi => ?_, fun hi => ?_⟩
  · have hx : i < us.length := by omega
    have hy : i < ws.length := by omega
    have hz : i < ts.length := by omega
    refine ⟨⟨us, ws, ts, us[i], ws[i], ts[i], l1, l2, l3, by simp [hx], by simp [hy], by simp [hz]⟩, fun x H' y => ?_⟩
    obtain ⟨T, z, z', z'', rfl, hT, rfl, q1, q2, q3⟩ := y
    obtain ⟨v, ev, rv⟩ := r1.getR (q1 us l1)
    obtain ⟨w, ew, rw'⟩ := r2.getR (q2 ws l2)
    obtain ⟨u, eu, ru⟩ := r3.getR (q3 ts l3)
    obtain ⟨p1, p2, p3⟩ := trip_new c hT rv rw' ru
    exact ⟨_, zip3_get ev ew eu, p1, p2, p3⟩
  · exact ⟨us, l1, by omega⟩
theorem walks_zipT {a b : Addr} {xs ys : List Val} {us ws : List V} (t1 : SqT K H1 a us) (t2 : SqT K H1 b ws) (r1 : RepVs K H1 xs us) (r2 : RepVs K H1 ys ws) : Walks K S1 H1 (List.zipWith (fun x y => .ptup [x, y]) xs ys) (fun _ => True) (RZ.ItzT K a b) := fun i S H e c k => by
  have l1 := SqT.evo e.tup e.frz t1
  have l2 := SqT.evo e.tup e.frz t2
  have r1 := r1.evo e
  have r2 := r2.evo e
  have h1 := r1.length
  have h2 := r2.length
  refine ⟨fun hi => ?_, fun hi => ?_⟩
  · rw [List.length_zipWith] at hi
    have hx : i < us.length := by omega
    have hy : i < ws.length := by omega
    refine ⟨⟨us, ws, us[i], ws[i], l1, l2, by simp [hx], by simp [hy]⟩, fun x H' y => ?_⟩
    obtain ⟨T, z, z', rfl, hT, rfl, q1, q2⟩ := y
    obtain ⟨v, ev, rv⟩ := r1.getR (q1 us l1)
    obtain ⟨w, ew, rw'⟩ := r2.getR (q2 ws l2)
    obtain ⟨p1, p2, p3⟩ := pair_new c hT rv rw'
    exact ⟨_, zw_get ev ew, p1, p2, p3⟩
  · rw [List.length_zipWith] at hi
    exact ⟨us, ws, l1, l2, by omega⟩
theorem rev_get {α : Type} {xs : List α} {i : Nat} (h : i < xs.length) : xs.reverse[i]? = xs[xs.length - 1 - i]? := List.getElem?_reverse h
theorem walks_rev {a : Addr} {vs : List Val} {n : Nat} (hn : n = vs.length) : Walks K S1 H1 vs.reverse (fun S => rdL S a vs) (Itv K a n) := fun i S H e c k => by
  subst hn
  obtain ⟨xs, l, r⟩ := c.rd k
  have hl := r.length
  refine ⟨fun hi => ?_, fun hi => by rw [List.length_reverse] at hi; exact Nat.le_of_eq hi.symm⟩
  rw [List.length_reverse] at hi
  have hx : vs.length - 1 - i < xs.length := by omega
  refine ⟨⟨hi, xs, xs[vs.length - 1 - i], l, by simp [hx]⟩, fun x H' y => ?_⟩
  obtain ⟨e1, y⟩ := y
  subst e1
  obtain ⟨v, ev, rv⟩ := r.getR (y xs l)
  exact ⟨v, by rw [rev_get hi]; exact ev, rv, .refl, c⟩
theorem walks_revT {a : Addr} {vs : List Val} {xs : List V} {n : Nat} (hn : n = vs.length) (t : SqT K H1 a xs) (r : RepVs K H1 vs xs) : Walks K S1 H1 vs.reverse (fun _ => True) (RT.ItvT K a n) := fun i S H e c k => by
  subst hn
  have l := SqT.evo e.tup e.frz t
  have r := r.evo e
  have hl := r.length
  refine ⟨fun hi => ?_, fun hi => by rw [List.length_reverse] at hi; exact Nat.le_of_eq hi.symm⟩
  rw [List.length_reverse] at hi
  have hx : vs.length - 1 - i < xs.length := by omega
  refine ⟨⟨hi, xs, xs[vs.length - 1 - i], l, by simp [hx]⟩, fun x H' y => ?_⟩
  obtain ⟨e1, y⟩ := y
  subst e1
  obtain ⟨v, ev, rv⟩ := r.getR (y xs l)
  exact ⟨v, by rw [rev_get hi]; exact ev, rv, .refl, c⟩
end
theorem mE_star {N : List Str} {sc : Scope} {m : E} {a : Expr} {p : Pos} : mE N sc m (.Starred a p) = false := by cases m <;> simp [mE]
theorem mE_slice {N : List Str} {sc : Scope} {m : E} {a b c : Option Expr} {p : Pos} : mE N sc m (.Slice a b c p) = false := by cases m <;> simp [mE]
theorem star_one {N : List Str} {sc : Scope} {m : E} {e : Expr} (h : mE N sc m e = true) (es : List Expr) (env : Env) : starEach (e :: es) env = (false, eval e env) :: starEach es env := by
  cases e
  case Starred => rw [mE_star] at h; cases h
  all_goals rfl
theorem backTo_any {N : List Str} {sc : Scope} {pos : Pos} {env : Env} : ∀ {ms : List E} {es : List Expr}, mEs N sc ms es = true → (backTo pos (starEach es env)).any (·.1) = false
  | [], es, h => by cases es <;> simp only [mEs] at h <;> first | rfl | cases h
  | m :: ms, es, h => by
    cases es with
    | nil => simp [mEs] at h
    | cons e es =>
      simp only [mEs, Bool.and_eq_true] at h
      rw [star_one h.1]
      have ih := backTo_any (pos := pos) (env := env) h.2
      unfold backTo at ih ⊢
      simp only [List.map_cons, List.any_cons, Bool.false_or]
      exact ih
theorem backTo_all {N : List Str} {sc : Scope} {pos : Pos} {env : Env} {ms : List E} {es : List Expr} (h : mEs N sc ms es = true) : (backTo pos (starEach es env)).all (fun x => !x.1) = true := by
  have := backTo_any (pos := pos) (env := env) h
  rw [List.any_eq_false] at this
  rw [List.all_eq_true]
  intro x hx
  have := this x hx
  simp at this ⊢
  exact this
theorem mEs_length {N : List Str} {sc : Scope} : ∀ {ms : List E} {es : List Expr}, mEs N sc ms es = true → es.length = ms.length
  | [], es, h => by cases es <;> simp [mEs] at h; rfl
  | m :: ms, es, h => by
    cases es with
    | nil => simp [mEs] at h
    | cons e es =>
      simp only [mEs, Bool.and_eq_true] at h
      simp only [List.length_cons, mEs_length h.2]
theorem truth_of {N : List Str} {sc : Scope} {m : E} {e : Expr} {env : Env} (h : mB N sc (.val m) e = true) : mE N sc m e = true ∧ ∀ whole, isTrue e env whole = (do let v ← whole; standAt e.pos; holding [v] (truthy v)) := by
  cases e <;> simp only [mB] at h <;> first | cases h | exact ⟨h, fun _ => rfl⟩
theorem plainIx_of {N : List Str} {sc : Scope} {m : E} {e : Expr} (h : mE N sc m e = true) : PlainIx e := by
  cases e
  case Slice => rw [mE_slice] at h; cases h
  all_goals exact fun _ _ => rfl
theorem noSet {N : List Str} {sc : Scope} {it : I} {e : Expr} (h : mI N sc it e = true) (env : Env) : ∀ x, foldedSetIterable e env x = pure x := by
  cases e
  case Set => cases it <;> simp [mI] at h
  all_goals exact fun _ => rfl
theorem wipeL_get {ρ : Loc} {i : Nat} {v : Val} : ∀ {vs : List Nat}, (wipeL ρ vs)[i]? = some (some v) → ρ[i]? = some (some v) ∧ i ∉ vs
  | [], h => ⟨h, by simp⟩
  | w :: vs, h => by
    unfold wipeL at h
    by_cases hi : w = i
    · subst hi
      by_cases hv : w < (wipeL ρ vs).length
      · rw [List.getElem?_set_self hv] at h; cases h
      · rw [List.getElem?_eq_none (by simpa using hv)] at h; cases h
    · rw [List.getElem?_set_ne hi] at h
      obtain ⟨h1, h2⟩ := wipeL_get h
      exact ⟨h1, by simp only [List.mem_cons, not_or]; exact ⟨fun e => hi e.symm, h2⟩⟩
theorem wipeL_length (ρ : Loc) : ∀ vs : List Nat, (wipeL ρ vs).length = ρ.length
  | [] => rfl
  | v :: vs => by unfold wipeL; rw [List.length_set, wipeL_length ρ vs]
theorem CorL.wipe {K : PySem.W.Frag} {H : Hp} {ρ : Loc} {σ : L2.St} (h : CorL K H ρ σ) (vs : List Nat) : CorL K H (wipeL ρ vs) (L2.wipe σ vs) := by
  refine ⟨by rw [wipeL_length, L2.wipe_length]; exact h.1, fun i v e => ?_⟩
  obtain ⟨e1, n⟩ := wipeL_get e
  obtain ⟨x, e2, r⟩ := h.2 i v e1
  exact ⟨x, by rw [wipe_out n]; exact e2, r⟩
theorem wipe_eq {σ σ' : L2.St} {vs : List Nat} (hl : σ'.length = σ.length) (h : ∀ j, j ∉ vs → σ'[j]? = σ[j]?) : L2.wipe σ' vs = L2.wipe σ vs := by
  refine List.ext_getElem? fun j => ?_
  by_cases hj : j ∈ vs
  · have none_at : ∀ (τ : L2.St) (vs : List Nat), j ∈ vs → (L2.wipe τ vs)[j]? = if j < τ.length then some none else none := by
      intro τ vs
      induction vs with
      | nil => intro h; cases h
      | cons w ws ih =>
        intro hm
        unfold L2.wipe
        by_cases hw : w = j
        · subst hw
          rw [List.getElem?_set]
          simp only [if_true, L2.wipe_length]
        · rw [List.getElem?_set_ne hw]
          exact ih ((List.mem_cons.mp hm).resolve_left (fun e => hw e.symm))
    rw [none_at _ _ hj, none_at _ _ hj, hl]
  · rw [wipe_out hj, wipe_out hj]; exact h j hj
theorem wipe_idem (σ : L2.St) (vs : List Nat) : L2.wipe (L2.wipe σ vs) vs = L2.wipe σ vs := wipe_eq (by rw [L2.wipe_length]) fun j hj => wipe_out hj
theorem CorL.set {K : PySem.W.Frag} {H : Hp} {ρ : Loc} {σ : L2.St} (h : CorL K H ρ σ) (i : Nat) {v : Val} {x : V} (r : RepV K H v x) : CorL K H (ρ.set i (some v)) (σ.set i (some x)) := by
  refine ⟨by simp [h.1], fun j w e => ?_⟩
  by_cases hj : i = j
  · subst hj
    rw [List.getElem?_set] at e ⊢
    simp only [if_true] at e ⊢
    split at e
    · rename_i hl
      rw [if_pos (by rw [h.1]; exact hl)]
      cases e
      exact ⟨x, rfl, r⟩
    · cases e
  · rw [List.getElem?_set_ne hj] at e ⊢
    exact h.2 j w e
def lG' (K : PySem.W.Frag) (S0 : Sto) (H0 : Hp) (sl : List Nat) (t : Val → Loc → Sto → (Loc → Sto → Prop) → Prop) : TG := fun x σ H Q => ∃ v ρ S, RepV K H v x ∧ CorL K H ρ σ ∧ Cor K S H ∧ Evo S0 H0 S H ∧
  t v ρ S (fun ρ' S' => ∀ σ' H', Evo S H S' H' → Cor K S' H' → CorL K H' ρ' σ' → σ'.length = σ.length → (∀ j, j ∉ sl → σ'[j]? = σ[j]?) → Q σ' H')
def lGs' (K : PySem.W.Frag) (S0 : Sto) (H0 : Hp) (sl : List Nat) (t : List Val → Loc → Sto → (Loc → Sto → Prop) → Prop) : TGs := fun xs σ H Q => ∃ vs ρ S, RepVs K H vs xs ∧ CorL K H ρ σ ∧ Cor K S H ∧ Evo S0 H0 S H ∧
  t vs ρ S (fun ρ' S' => ∀ σ' H', Evo S H S' H' → Cor K S' H' → CorL K H' ρ' σ' → σ'.length = σ.length → (∀ j, j ∉ sl → σ'[j]? = σ[j]?) → Q σ' H')
theorem PG.imp {X : Cx} {e : Expr} {t t' : TG} (h : PG X e t) (i : ∀ v σ H Q, t' v σ H Q → t v σ H Q) : PG X e t' := ⟨fun pins s σ H v u Q I r q => h.run pins s σ H v u Q I r (i _ _ _ _ q)⟩
theorem PGs.imp {X : Cx} {e : List Expr} {t t' : TGs} (h : PGs X e t) (i : ∀ v σ H Q, t' v σ H Q → t v σ H Q) : PGs X e t' := ⟨fun pins s σ H v u Q I r q => h.run pins s σ H v u Q I r (i _ _ _ _ q)⟩
end M

set_option maxHeartbeats 4000000
namespace M
open PySem PySem.Spec L2
theorem PG.or {X : Cx} {e : Expr} {t t' : TG} (h : PG X e t) (h' : PG X e t') : PG X e (fun v σ H Q => t v σ H Q ∨ t' v σ H Q) := ⟨fun pins s σ H v u Q I r q => q.elim (h.run pins s σ H v u Q I r) (h'.run pins s σ H v u Q I r)⟩
theorem boot_isinst : bootBuiltins "isinstance" = some (.builtin "isinstance") := by decide +kernel
theorem boot_repr : bootBuiltins "repr" = some (.builtin "repr") := by decide +kernel
theorem ty_boot {t : String} (h : tyOk t = true) : bootBuiltins (Str.ofString t) = some (.type t) := by
  unfold tyOk at h
  simp only [Bool.or_eq_true, beq_iff_eq] at h
  rcases h with ((((h | h) | h) | h) | h) | h <;> subst h <;> decide +kernel
theorem ty_blt {t : String} (h : tyOk t = true) : Str.ofString t ∈ bltNames := by
  unfold tyOk at h
  simp only [Bool.or_eq_true, beq_iff_eq] at h
  rcases h with ((((h | h) | h) | h) | h) | h <;> subst h <;> decide +kernel
theorem ty_nn {t : String} (h : tyOk t = true) : Str.ofString t ≠ "__name__" ∧ (Str.ofString t == ("__debug__" : Str)) = false := by
  unfold tyOk at h
  simp only [Bool.or_eq_true, beq_iff_eq] at h
  rcases h with ((((h | h) | h) | h) | h) | h <;> subst h <;> decide +kernel
theorem blt_mem : ∀ b : Blt, bltName b ∈ bltNames := by intro b; cases b <;> decide +kernel
/-- the context of a comprehension's block -/
theorem Sd.blk {X : Cx} {G : Gam} {k : Nat} {S0 : Sto} {H0 : Hp} {XP : XLoc} (D : Sd X G k S0 H0 XP) (s : Shared) (H : Hp) (scope : Scope) (cenv : Env) (fp : List Addr) :
    Sd (X.blk s H scope cenv fp) G k S0 H0 (fun _ _ _ => False) :=
  ⟨D.room, D.calm, D.nd, D.g, Takes.imp (W := fun _ _ _ _ => False) takes0 (fun c d σ H ⟨_, _, _, _, _, _, _, _, _, _, z⟩ => z), D.gd⟩
theorem Sd.noX {X : Cx} {G : Gam} {k : Nat} {S0 : Sto} {H0 : Hp} {XP : XLoc} (D : Sd X G k S0 H0 XP) : Sd X G k S0 H0 (fun _ _ _ => False) :=
  ⟨D.room, D.calm, D.nd, D.g, Takes.imp (W := fun _ _ _ _ => False) takes0 (fun c d σ H ⟨_, _, _, _, _, _, _, _, _, _, z⟩ => z), D.gd⟩
theorem pe_callM {X : Cx} {k : Nat} {f : Addr} {fd : FuncData} {ps : List Str} {sp : Sp} {W : WX} {x : Str} {p pos : Pos} {N : List Str} {sc : Scope} {m : E} {ms : List E} {e : Expr} {es : List Expr} {t : TA} (F : FnOk X.prog X.w X.K X.mg X.base (L2.CX X.prog X.w) k f fd ps sp) (hr : Room k X.A) (hg : Gl X x) (hm : X.mg x = some (.ref f)) (hk : PySem.W.keepIn X.K (.ref f) = true) (hb : Binds X.K fd ps []) (tk : Takes X W)
    (he : mE N sc m e = true) (hes : mEs N sc ms es = true) (ha : PA X (e :: es) t) (hdb : (x == ("__debug__" : Str)) = false) :
    PE X (.Call (.Name x p) (e :: es) [] pos) (tCallSD sp [] (WE W) t) := pe_callSD F hr hg hm hk hb .nil (fun σ => passAt tk σ) ha hdb (star_one he _ _) (backTo_any hes)
theorem pe_callM0 {X : Cx} {k : Nat} {f : Addr} {fd : FuncData} {ps : List Str} {sp : Sp} {W : WX} {x : Str} {p pos : Pos} (F : FnOk X.prog X.w X.K X.mg X.base (L2.CX X.prog X.w) k f fd ps sp) (hr : Room k X.A) (hg : Gl X x) (hm : X.mg x = some (.ref f)) (hk : PySem.W.keepIn X.K (.ref f) = true) (hb : Binds X.K fd ps []) (tk : Takes X W)
    (hdb : (x == ("__debug__" : Str)) = false) : PE X (.Call (.Name x p) [] [] pos) (fun σ H Q => sp [] H Q (WE W σ)) := by
  refine ⟨fun pins s σ H Q I h => ?_⟩
  refine wpAny_Call_Name_kw (ld_glob I hg hm ?_ hdb)
  exact PySem.W.callWith_K0 I.kIn hk (run_fnSD (us := []) (vs := []) (dvs := []) (ds := []) F hr hb .nil (fun pins H s e s' => passAt tk σ pins H s e s') I .nil h)
theorem blk_own {N : List Str} {sc scope : Scope} {own : List (Str × Nat)} {sl : List Nat} (ok : BlkOk N sc scope own) (h : (own.all fun p => (match scope.names.lookup p.1 with | some .local => true | some .cell => true | _ => false)) = true) (hs : ∀ i ∈ sl, i ∈ own.map (·.2)) :
    ∀ i ∈ sl, ∀ x, N[i]? = some x → ((fun x => scope.names.lookup x == some .cell) x = true ∨ (relS scope sc).names.lookup x = some .local) := fun i hi x hx => by
  obtain ⟨p, hp, rfl⟩ := List.mem_map.mp (hs i hi)
  have e := ok.ix p hp
  rw [hx] at e; cases e
  have q := List.all_eq_true.mp h p hp
  split at q
  · rename_i hl
    exact .inr (lookup_relS_keep (by decide) hl)
  · rename_i hl
    left
    simp only [hl]; rfl
  · cases q
theorem mT_star {N : List Str} {sc : Scope} {m : T} {a : Expr} {p : Pos} : mT N sc m (.Starred a p) = false := by cases m <;> simp [mT]
theorem assign_one {N : List Str} {sc : Scope} {t : T} {e : Expr} (h : mT N sc t e = true) (es : List Expr) (env : Env) : assignEach (e :: es) env = (false, assign e env) :: assignEach es env := by
  cases e
  case Starred => rw [mT_star] at h; cases h
  all_goals rfl
theorem mTs_len {N : List Str} {sc : Scope} (env : Env) : ∀ {ts : List T} {es : List Expr}, mTs N sc ts es = true → (assignEach es env).length = ts.length ∧ (assignEach es env).findIdx? (·.1) = none
  | [], es, h => by
    cases es with
    | nil => exact ⟨rfl, rfl⟩
    | cons => simp [mTs] at h
  | t :: ts, es, h => by
    cases es with
    | nil => simp [mTs] at h
    | cons e es =>
      simp only [mTs, Bool.and_eq_true] at h
      obtain ⟨h1, h2⟩ := mTs_len env h.2
      rw [assign_one h.1]
      exact ⟨by simp [h1], by simp [List.findIdx?_cons, h2]⟩
/-- isinstance(e, c), e a caught error that was kept -/
def rIsO (K : PySem.W.Frag) : List V → Hp → VK → Prop := fun xs H Q => ∃ (a D : Addr) (c : V) (cv : Value) (b : Bool), xs = [.ref a, c] ∧ ExcC K D ∧ (∀ u, RelV c u → u = cv) ∧ PySem.W.kitOne K (.ref D) cv = some b ∧ H a = some (ErO (.ref D) none a) ∧ Q (.bl b) H
theorem call_isO {X : Cx} : CallR X (.builtin "isinstance") (rIsO X.K) := by
  intro pins s σ H xs us Q I r h
  obtain ⟨a, D, c, cv, b, rfl, C, hcv, e, ha, q⟩ := h
  cases r with
  | cons rx rr =>
    cases rr with
    | cons rt rr =>
      cases rr
      cases rx
      have ec := hcv _ rt
      subst ec
      obtain ⟨⟨ob, vs, hget, hz, hv⟩, _, _⟩ := I.hok a _ ha
      have J : PySem.W.InstAt s.heap a ob D none := by
        obtain ⟨oc, od, oda, osl⟩ := ob
        obtain ⟨h1, h2⟩ := hz
        dsimp only at h1 h2 hv
        subst h1 h2 hv
        exact ⟨hget, rfl, rfl, trivial⟩
      exact PySem.W.kia_one (PySem.W.handS_kitx_exc C.hg C.hk C.hs C.hd C.ha C.hn C.ht C.hm) I.kIn J e (fun z => nomatch z) fun tk => ⟨.bl b, H, I.kept (t' := tk) fun _ _ z => z, rfl, q⟩
theorem clsAll : ∀ ts : List String, Paired ClsV (ts.map V.ty) (ts.map Value.type)
  | [] => .nil
  | t :: ts => .cons (.ty t) (clsAll ts)
theorem sTys {X : Cx} (hb : ∀ x ∈ bltNames, X.mg x = none) : ∀ (ts : List String) {es : List Expr}, mTys X.env.scope ts es = true → PA X es (fun _ H Q => Q (ts.map V.ty) H)
  | [], es, h => by
    cases es with
    | nil => exact PA.imp pa_nil fun _ _ _ q => q
    | cons e es => simp [mTys] at h
  | t :: ts, es, h => by
    cases es with
    | nil => simp [mTys] at h
    | cons e es =>
      unfold mTys at h
      split at h
      · rename_i heq; cases heq
      · rename_i heq1 heq2
        cases heq1; cases heq2
        simp only [Bool.and_eq_true, decide_eq_true_eq] at h
        obtain ⟨⟨⟨h1, rfl⟩, h3⟩, h4⟩ := h
        exact PA.imp (pa_cons (pe_bltn (v := .ty t) (gl_of h3) (hb _ (ty_blt h1)) (ty_boot h1) rfl (ty_nn h1).1 (ty_nn h1).2) (sTys hb ts h4) rfl) fun σ H Q q => q
      · cases h
theorem compW_len {keep : Sto → Prop} {turn : Val → Sto → (Option Val → Sto → Prop) → Prop} {xs acc : List Val} {S : Sto} {Q : Post} (h : compW keep turn xs acc S Q) : keep S := by
  cases xs with
  | nil => exact h.1
  | cons x xs => exact h.1
/-- a comprehension's reading -/
theorem lc_read {K : PySem.W.Frag} {S0 : Sto} {H0 : Hp} {vs : List Nat} (sl : List Nat) (hsl : ∀ i ∈ sl, i ∈ vs)
    {tI : Loc → Sto → (List Val → (Sto → Prop) → Sto → Prop) → Prop} {tG : Val → Loc → Sto → (Loc → Sto → Prop) → Prop} {tB : Loc → Sto → (Bool → Sto → Prop) → Prop} {tE : Loc → Sto → Post → Prop}
    (mI : ∀ {ρ S} {R R' : List Val → (Sto → Prop) → Sto → Prop}, (∀ xs k S', R xs k S' → R' xs k S') → tI ρ S R → tI ρ S R')
    (mG : ∀ {v ρ S} {Q Q' : Loc → Sto → Prop}, (∀ v S', Q v S' → Q' v S') → tG v ρ S Q → tG v ρ S Q')
    (mB : ∀ {ρ S} {Q Q' : Bool → Sto → Prop}, (∀ v S', Q v S' → Q' v S') → tB ρ S Q → tB ρ S Q')
    (mE : ∀ {ρ S} {Q Q' : Post}, (∀ v S', Q v S' → Q' v S') → tE ρ S Q → tE ρ S Q')
    {σ : L2.St} {H : Hp} {Q : VK}
    (q : lE K S0 H0 (fun ρ S Q => tI ρ S (fun xs keep S1 => compW keep (fun x S2 R => tG x (wipeL ρ vs) S2 fun ρ' S3 => tB ρ' S3 fun k S4 => if k = true then tE ρ' S4 fun v S5 => R (some v) S5 else R none S4) xs [] S1 Q)) σ H Q) :
    tLc (lI K S0 H0 tI) (lG' K S0 H0 sl tG) (lB K S0 H0 tB) (lE K S0 H0 tE) vs σ H Q := by
  obtain ⟨ρ, S, cl, c, e0, q⟩ := q
  refine ⟨ρ, S, cl, c, e0, mI (fun xs keep S1 q H1 J e1 c1 wk D hD => ?_) q⟩
  refine ⟨fun i m H2 => m = xs.length - i ∧ i ≤ xs.length ∧ ∃ S2 acc accV, Cor K S2 H2 ∧ Evo S1 H1 S2 H2 ∧ S2 D = none ∧ H2 D = some (.lst accV) ∧ RepVs K H2 acc accV ∧
    compW keep (fun x S2 R => tG x (wipeL ρ vs) S2 fun ρ' S3 => tB ρ' S3 fun k S4 => if k = true then tE ρ' S4 fun v S5 => R (some v) S5 else R none S4) (xs.drop i) acc S2 (fin K S H Q),
    ⟨xs.length, rfl, Nat.zero_le _, S1, [], [], c1.more (upd_keep hD), .more (upd_keep hD), c1.free hD, upd_same, .nil, q⟩, ?_⟩
  rintro i m H2 ⟨rfl, hi, S2, acc, accV, c2, e2, nD, hD2, ra, q2⟩
  have kp := compW_len q2
  obtain ⟨w1, w2⟩ := wk i S2 H2 e2 c2 kp
  by_cases hlt : i < xs.length
  · obtain ⟨go, yl⟩ := w1 hlt
    refine .inr ⟨go, fun H' => ∃ m', m' = xs.length - (i + 1) ∧ (m' = xs.length - (i + 1) ∧ i + 1 ≤ xs.length ∧ ∃ S2 acc accV, Cor K S2 H' ∧ Evo S1 H1 S2 H' ∧ S2 D = none ∧ H' D = some (.lst accV) ∧ RepVs K H' acc accV ∧
      compW keep (fun x S2 R => tG x (wipeL ρ vs) S2 fun ρ' S3 => tB ρ' S3 fun k S4 => if k = true then tE ρ' S4 fun v S5 => R (some v) S5 else R none S4) (xs.drop (i + 1)) acc S2 (fin K S H Q)), fun H' ⟨m', h1, h2⟩ => ⟨m', by omega, h2⟩, fun x H3 y => ?_⟩
    obtain ⟨v, hv, rv, e3, c3⟩ := yl x H3 y
    have hd : xs.drop i = v :: xs.drop (i + 1) := by
      rw [List.drop_eq_getElem_cons hlt]
      rw [List.getElem?_eq_getElem hlt] at hv
      cases hv; rfl
    rw [hd] at q2
    obtain ⟨_, q2⟩ := q2
    have e13 := e2.trans e3
    obtain ⟨hD3, nD3⟩ := e3.frame D _ hD2 nD
    refine ⟨v, wipeL ρ vs, S2, rv, ((cl.evo e1).evo e13).wipe vs, c3, (e0.trans e1).trans e13, mG (fun ρ' S3 q3 σ4 H4 e4 c4 cl4 hl4 hs4 => ?_) q2⟩
    refine ⟨by rw [wipe_eq (by rw [hl4]) (fun j hj => hs4 j (fun z => hj (hsl j z)))]; exact wipe_idem _ _, ?_⟩
    have e14 := e13.trans e4
    obtain ⟨hD4, nD4⟩ := e4.frame D _ hD3 nD3
    refine ⟨ρ', S3, cl4, c4, (e0.trans e1).trans e14, mB (fun kk S4 q4 H5 e5 c5 => ?_) q3⟩
    have e15 := e14.trans e5
    obtain ⟨hD5, nD5⟩ := e5.frame D _ hD4 nD4
    cases kk with
    | false =>
      simp only [Bool.false_eq_true, if_false] at q4 ⊢
      exact ⟨_, rfl, rfl, hlt, S4, acc, accV, c5, e15, nD5, hD5, ((ra.evo e3).evo e4).evo e5, q4⟩
    | true =>
      simp only [if_true] at q4 ⊢
      refine ⟨ρ', S4, cl4.evo e5, c5, (e0.trans e1).trans e15, mE (fun z S5 q5 H6 zz e6 c6 r6 => ?_) q4⟩
      obtain ⟨hD6, nD6⟩ := e6.frame D _ hD5 nD5
      have ra6 := (((ra.evo e3).evo e4).evo e5).evo e6
      refine ⟨accV, hD6, by rw [ra6.length]; exact q5.1, _, rfl, rfl, hlt, S5, acc ++ [z], accV ++ [zz], ?_, ?_, nD6, upd_same, ?_, q5.2⟩
      · exact fun a o h => (c6 a o h).ext (fun u hu => by rw [upd_ne (fun e => by rw [e, nD6] at h; cases h)]; exact hu) (chg_tup hD6 trivial) (chg_frz hD6 trivial)
      · have e16 := e15.trans e6
        refine ⟨fun p xs h => chg_tup hD6 trivial _ _ (e16.tup p xs h), fun p o u h => chg_frz hD6 trivial _ _ _ (e16.frz p o u h), fun a o h n => ?_⟩
        obtain ⟨h1, h2⟩ := e16.frame a o h n
        rw [upd_ne (fun e => by rw [e, hD] at h; cases h)]
        exact ⟨h1, h2⟩
      · exact RepVs.evo' (chg_tup hD6 trivial) (chg_frz hD6 trivial) _ (ra6.append (.cons r6 .nil))
  · have hE : i = xs.length := by omega
    refine .inl ⟨w2 hE, ?_⟩
    subst hE
    rw [List.drop_length] at q2
    refine q2.2 D nD H2 _ ?_ ?_ (by simp only [RepV])
    · have e12 := e1.trans e2
      refine ⟨e12.tup, e12.frz, fun a o h n => ?_⟩
      obtain ⟨h1, h2⟩ := e12.frame a o h n
      refine ⟨h1, ?_⟩
      rw [Sto.upd_ne (fun e => ?_)]; exact h2
      subst e
      have := (e1.frame a o h n).1
      rw [hD] at this; cases this
    · intro a o h
      by_cases e : a = D
      · subst e; rw [Sto.upd_same] at h; cases h
        simp only [RepA]; exact ⟨accV, hD2, ra⟩
      · rw [Sto.upd_ne e] at h; exact c2 a o h
theorem mthSlot (m : Mth) : ∃ (_ : PlainAttrs (mthTy m)), Slot (mthTy m) (mthName m) (mthId m) ∧ typeOf (.builtin (mthId m)) = pure (.type "method_descriptor") := by
  cases m
  · exact ⟨PySem.F.plainAttrs_list, PySem.F.slot_list_append, PySem.F.type_list_append⟩
  · exact ⟨PySem.F.plainAttrs_list, PySem.F.slot_list_pop, PySem.F.type_list_pop⟩
  · exact ⟨PySem.F.plainAttrs_list, PySem.F.slot_list_pop, PySem.F.type_list_pop⟩
  · exact ⟨PySem.F.plainAttrs_list, PySem.F.slot_list_extend, PySem.F.type_list_extend⟩
  · exact ⟨PySem.F.plainAttrs_list, PySem.F.slot_list_insert, PySem.F.type_list_insert⟩
  · exact ⟨PySem.F.plainAttrs_list, PySem.F.slot_list_remove, PySem.F.type_list_remove⟩
  · exact ⟨PySem.F.plainAttrs_list, PySem.F.slot_list_reverse, PySem.F.type_list_reverse⟩
  · exact ⟨PySem.F.plainAttrs_list, PySem.F.slot_list_index, PySem.F.type_list_index⟩
  · exact ⟨PySem.F.plainAttrs_list, PySem.F.slot_list_count, PySem.F.type_list_count⟩
  · exact ⟨PySem.F.plainAttrs_dict, PySem.F.slot_dict_get, PySem.F.type_dict_get⟩
  · exact ⟨PySem.F.plainAttrs_dict, PySem.F.slot_dict_get, PySem.F.type_dict_get⟩
  · exact ⟨PySem.F.plainAttrs_dict, PySem.F.slot_dict_keys, PySem.F.type_dict_keys⟩
  · exact ⟨PySem.F.plainAttrs_str, PySem.F.slot_str_split, PySem.F.type_str_split⟩
  · exact ⟨PySem.F.plainAttrs_str, PySem.F.slot_str_join, PySem.F.type_str_join⟩
  · exact ⟨PySem.F.plainAttrs_str, PySem.F.slot_str_index, PySem.F.type_str_index⟩
  · exact ⟨PySem.F.plainAttrs_dict, PySem.F.slot_dict_setdefault, PySem.F.type_dict_setdefault⟩
  · exact ⟨PySem.F.plainAttrs_tuple, PySem.F.slot_tuple_index, PySem.F.type_tuple_index⟩
  · exact ⟨PySem.F.plainAttrs_tuple, PySem.F.slot_tuple_count, PySem.F.type_tuple_count⟩
/-- a built-in method called -/
theorem pe_mthM {X : Cx} (m : Mth) {o e : Expr} {es : List Expr} {ms : List E} {N : List Str} {sc : Scope} {ap p : Pos} {to : TE} {ta : TA} (hb : baseOk o = true) (hl : ap.endLine = p.line) (hes : mEs N sc ms (e :: es) = true) (hn : ms.length < 5) (ho : PE X o to) (ha : PA X (e :: es) ta) :
    PE X (.Call (.Attribute o (mthName m) ap) (e :: es) [] p) (tBM X.K (mthTy m) (lM X.K (wMth m)) to ta) := by
  obtain ⟨pa, sl, ty⟩ := mthSlot m
  cases ms with
  | nil => simp [mEs] at hes
  | cons m1 ms =>
    have hes' := hes
    simp only [mEs, Bool.and_eq_true] at hes'
    refine pe_bm pa sl ty (mth_snd m) ho ha (base_of hb) ?_ (by simp [hl]) (star_one hes'.1 _ _) (backTo_any hes'.2)
    have h1 := backTo_all (pos := p) (env := X.env) hes
    have h2 := mEs_length hes
    rw [h1]
    simp only [keywordEach, backToKw, List.map_nil, List.all_nil, Bool.true_and, List.length_nil, List.isEmpty_nil, if_true, Nat.add_zero, decide_eq_true_eq]
    rw [h2]; omega
theorem pe_mthM0 {X : Cx} (m : Mth) {o : Expr} {ap p : Pos} {to : TE} (hb : baseOk o = true) (hl : ap.endLine = p.line) (ho : PE X o to) :
    PE X (.Call (.Attribute o (mthName m) ap) [] [] p) (tBM0 X.K (mthTy m) (lM X.K (wMth m)) to) := by
  obtain ⟨pa, sl, ty⟩ := mthSlot m
  exact pe_bm0 pa sl ty (mth_snd m) ho (base_of hb) (by simp [hl])
/-- o.m(e, ..), o an instance -/
def tMethM (m : Str) (C0 : Addr → Addr → Sp → Prop) (E : L2.St → XK) (ta : TE) (t : TA) : TE := fun σ H Q => ta σ H fun x H1 => ∃ a C dx fs g sp, x = .ref a ∧ H1 a = some (.ins C dx fs) ∧ fs.lookup m = none ∧ C0 C g sp ∧ t σ H1 fun vs H2 => sp (x :: vs) H2 Q (E σ)
def MetOk (X : Cx) (k : Nat) (m : Str) (C g : Addr) (sp : Sp) : Prop := Cls X.K C ∧ Meth X.K C m g ∧ ∃ fd ps, Binds X.K fd ps [] ∧ FnOk X.prog X.w X.K X.mg X.base (L2.CX X.prog X.w) k g fd ps sp
theorem mform {N : List Str} {sc : Scope} {o : Expr} {m : Str} {es : List Expr} {ms : List E} {ap p : Pos} {env : Env} (hb : baseOk o = true) (hl : ap.endLine = p.line) (hes : mEs N sc ms es = true) (hn : ms.length < 5) :
    eval (.Call (.Attribute o m ap) es [] p) env = (do
      let ov ← eval o env
      standAt ap.atName
      let (f, first) ← holding [ov] (getMethod ov m (plainOf o env))
      callWith p f first (backTo p (starEach es env)) (backToKw p (keywordEach [] env))) := by
  rw [arm_eval_Call, base_of hb]
  congr 1
  funext ov
  congr 1
  funext _
  refine mcall_line ?_ (by simp [hl])
  have h1 := backTo_all (pos := p) (env := env) hes
  have h2 := mEs_length hes
  unfold methodCallForm
  rw [h1]
  simp only [keywordEach, backToKw, List.map_nil, List.all_nil, Bool.true_and, List.length_nil, List.isEmpty_nil, if_true, Nat.add_zero, decide_eq_true_eq]
  rw [h2]; omega
theorem pe_methM {X : Cx} {k : Nat} {m : Str} {W : WX} {N : List Str} {sc : Scope} {o e : Expr} {es : List Expr} {ms : List E} {ap p : Pos} {ta : TE} {t : TA} (hr : Room k X.A) (tk : Takes X W) (hb : baseOk o = true) (hl : ap.endLine = p.line) (hes : mEs N sc ms (e :: es) = true) (hn : ms.length < 5) (he : PE X o ta) (ha : PA X (e :: es) t) :
    PE X (.Call (.Attribute o m ap) (e :: es) [] p) (tMethM m (MetOk X k m) (WE W) ta t) := by
  refine ⟨fun pins s σ H Q I h => ?_⟩
  refine PySem.W.methodCall_KW (thn (he.run pins s σ H _ I h) fun u s1 ⟨x, H1, I1, rx, a, C, dx, fs, g, sp, ex, ea, l, ⟨c, hm, fd, ps, hbd, F⟩, q⟩ => ?_) (mform hb hl hes hn)
  subst ex
  obtain rfl : u = Value.ref a := rx
  refine getmeth_ok I1 ea c hm l ?_
  obtain ⟨m1, r1, rfl, h1, h2⟩ : ∃ m1 r1, ms = m1 :: r1 ∧ mE N sc m1 e = true ∧ mEs N sc r1 es = true := by
    cases ms with
    | nil => simp [mEs] at hes
    | cons m1 r1 => simp only [mEs, Bool.and_eq_true] at hes; exact ⟨m1, r1, rfl, hes.1, hes.2⟩
  refine PySem.W.callWith_K (first := [.ref a]) (h₀ := X.base) I.ok.mod.kin hm.kp (thn (ha.run p pins s1 σ H1 _ I1 q) fun us s2 ⟨vs, H2, I2, r, q2⟩ => ⟨I2.kIn, ?_⟩) (star_one h1 _ _) (backTo_any h2)
  exact run_fnSD (us := .ref a :: us) (vs := .ref a :: vs) (dvs := []) (ds := []) F hr hbd .nil (passAt tk σ) I2 (.cons rfl r) (by simpa using q2)
theorem pe_methM0 {X : Cx} {k : Nat} {m : Str} {W : WX} {o : Expr} {ap p : Pos} {ta : TE} (hr : Room k X.A) (tk : Takes X W) (hb : baseOk o = true) (hl : ap.endLine = p.line) (he : PE X o ta) :
    PE X (.Call (.Attribute o m ap) [] [] p) (tMethM m (MetOk X k m) (WE W) ta tNil) := by
  refine ⟨fun pins s σ H Q I h => ?_⟩
  refine PySem.W.methodCall_KW (thn (he.run pins s σ H _ I h) fun u s1 ⟨x, H1, I1, rx, a, C, dx, fs, g, sp, ex, ea, l, ⟨c, hm, fd, ps, hbd, F⟩, q⟩ => ?_) (mform (N := []) (sc := X.env.scope) (ms := []) hb hl (by simp [mEs]) (by simp))
  subst ex
  obtain rfl : u = Value.ref a := rx
  refine getmeth_ok I1 ea c hm l ?_
  exact PySem.W.callWith_K0 (first := [.ref a]) I1.kIn hm.kp (run_fnSD (us := [.ref a]) (vs := [.ref a]) (dvs := []) (ds := []) F hr hbd .nil (passAt tk σ) I1 (.cons rfl .nil) (by show sp [V.ref a] H1 Q (WE W σ); exact q))
/-- a class is called, errors of its __init__ passed on -/
theorem run_mkS {X : Cx} {j : Nat} {f C : Addr} {fd : FuncData} {ps : List Str} {sp : Sp} {E : XK} {pins : List (Addr × Obj)} {σ : L2.St} {H : Hp} {s : Shared} {Q : VK} {us : List Value} {vs : List V} (M : Mk X.K C f) (F : FnOk X.prog X.w X.K X.mg X.base (L2.CX X.prog X.w) j f fd ps sp) (hr : Room (j + 1) X.A) (hb : Binds X.K fd ps [])
    (hx : PassesAt (L2.CX X.prog X.w) X σ E) (I : Inv X pins σ H s) (r : Vals vs us)
    (h : ∀ x dx, H x = none → H dx = none → dx ≠ x → sp (.ref x :: (vs ++ [])) (upd (upd H dx (.own x)) x (.ins C dx [])) (fun v H2 => v = .non ∧ Q (.ref x) H2) E) :
    wpAny (model X.prog X.w) X.A (call (.ref C) us) (EP X pins σ Q) X.xe s := by
  obtain ⟨n, hn⟩ : ∃ n, n = s.heap.objs.size := ⟨_, rfl⟩
  have q0 := h (n + 1) n (I.hok.fresh (by omega)) (I.hok.fresh (by omega)) (Nat.ne_of_lt n.lt_succ_self)
  have J := Inv.made (C := C) I
  rw [← hn] at J
  have rs : Vals (V.ref (n + 1) :: (vs ++ [])) (Value.ref (n + 1) :: (us ++ [])) := .cons rfl (r.append .nil)
  have el : (Value.ref (n + 1) :: us ++ []).length = ps.length := rs.length.symm.trans (F.len _ _ _ _ q0)
  have go := F.run _ X.stack _ _ ⟨Value.ref (n + 1) :: us, []⟩ _ _ _ E (hr.make C us []) (J.env0.make C us []) (hb _ (Value.ref (n + 1) :: us) J.kIn el) rs q0
  subst hn
  refine wpAny_call (make_map (f := f) I.kIn M.makes M.init (beq_iff_eq.mp M.fn) (codeAny_mono go fun fin s2 hq => ?_))
  cases fin with
  | error err => exact hx pins _ _ err s2 J hq
  | ok fl =>
    cases fl with
    | ret u =>
      obtain ⟨v, H3, J3, rv, ev, q3⟩ := J.after hq
      subst ev
      exact ⟨rv, V.ref (s.heap.objs.size + 1), H3, J3, rfl, q3⟩
    | _ => exact hq.elim
/-- C(e, ..), errors passed on -/
theorem pe_newX {X : Cx} {W : WX} (tk : Takes X W) {j : Nat} {f : Addr} {fd : FuncData} {ps : List Str} {sp : Sp} {x : Str} {C : Addr} {p pos : Pos} {N : List Str} {sc : Scope} {m : E} {ms : List E} {e : Expr} {es : List Expr} {t : TA} (M : Mk X.K C f) (F : FnOk X.prog X.w X.K X.mg X.base (L2.CX X.prog X.w) j f fd ps sp) (hr : Room (j + 1) X.A) (hg : Gl X x) (hm : X.mg x = some (.ref C)) (hb : Binds X.K fd ps [])
    (he : mE N sc m e = true) (hes : mEs N sc ms es = true) (ha : PA X (e :: es) t) (hdb : (x == ("__debug__" : Str)) = false) :
    PE X (.Call (.Name x p) (e :: es) [] pos) (fun σ H Q => tMake C sp [] (WE W σ) t σ H Q) := ⟨fun pins s σ H Q I h => by
  refine wpAny_Call_Name_kw (ld_glob I hg hm ?_ hdb)
  refine PySem.W.callWith_K (h₀ := X.base) I.ok.mod.kin M.kp (thn (ha.run pos pins s σ H _ I h) fun us s1 ⟨xs, H1, J, rx, z⟩ => ⟨J.kIn, ?_⟩) (star_one he _ _) (backTo_any hes)
  exact run_mkS M F hr hb (passAt tk σ) J rx z⟩
theorem pe_newX0 {X : Cx} {W : WX} (tk : Takes X W) {j : Nat} {f : Addr} {fd : FuncData} {ps : List Str} {sp : Sp} {x : Str} {C : Addr} {p pos : Pos} (M : Mk X.K C f) (F : FnOk X.prog X.w X.K X.mg X.base (L2.CX X.prog X.w) j f fd ps sp) (hr : Room (j + 1) X.A) (hg : Gl X x) (hm : X.mg x = some (.ref C)) (hb : Binds X.K fd ps []) (hdb : (x == ("__debug__" : Str)) = false) :
    PE X (.Call (.Name x p) [] [] pos) (fun σ H Q => tMake C sp [] (WE W σ) tNil σ H Q) := ⟨fun pins s σ H Q I h => by
  refine wpAny_Call_Name_kw (ld_glob I hg hm ?_ hdb)
  exact PySem.W.callWith_K0 I.kIn M.kp (run_mkS (us := []) M F hr hb (passAt tk σ) I .nil h)⟩
/-- t.index(e) -/
theorem pe_mthT {X : Cx} {o e : Expr} {es : List Expr} {ms : List E} {N : List Str} {sc : Scope} {ap p : Pos} {to : TE} {ta : TA} (hb : baseOk o = true) (hl : ap.endLine = p.line) (hes : mEs N sc ms (e :: es) = true) (hn : ms.length < 5) (ho : PE X o to) (ha : PA X (e :: es) ta) :
    PE X (.Call (.Attribute o (mthName .tindex) ap) (e :: es) [] p) (tBMN X.K (lM X.K (wMth .tindex)) to ta) := by
  obtain ⟨pa, sl, ty⟩ := mthSlot .tindex
  cases ms with
  | nil => simp [mEs] at hes
  | cons m1 ms =>
    have hes' := hes
    simp only [mEs, Bool.and_eq_true] at hes'
    refine pe_bmN pa sl ty (mth_snd .tindex) ho ha (base_of hb) ?_ (by simp [hl]) (star_one hes'.1 _ _) (backTo_any hes'.2)
    have h1 := backTo_all (pos := p) (env := X.env) hes
    have h2 := mEs_length hes
    rw [h1]
    simp only [keywordEach, backToKw, List.map_nil, List.all_nil, Bool.true_and, List.length_nil, List.isEmpty_nil, if_true, Nat.add_zero, decide_eq_true_eq]
    rw [h2]; omega
theorem m1_of {X : Cx} {o e : Expr} {m : E} {nm : Str} {ap p : Pos} (hb : baseOk o = true) (hl : ap.endLine = p.line) (h : mE X.N X.env.scope m e = true) : M1 X o nm ap e p := by
  have hs := star_one h [] X.env
  refine ⟨base_of hb, ?_, by simp [hl], by rw [hs]; rfl⟩
  rw [hs]; rfl
theorem m2_of {X : Cx} {o e f : Expr} {m m' : E} {nm : Str} {ap p : Pos} (hb : baseOk o = true) (hl : ap.endLine = p.line) (h : mE X.N X.env.scope m e = true) (h' : mE X.N X.env.scope m' f = true) : M2 X o nm ap e f p := by
  have hs := star_one h [f] X.env
  have hs' := star_one h' [] X.env
  refine ⟨base_of hb, ?_, by simp [hl], by rw [hs, hs']; rfl⟩
  rw [hs, hs']; rfl
theorem pc_dinM {X : Cx} {i o : Expr} {ty td : TE} (n : Bool) (hu : X.A.units + 1 < cLine) (hi : PE X i ty) (ho : PE X o td) : PC X (if n = true then .NotIn else .In) i o (fun σ H Q => ty σ H fun y H1 => td σ H1 fun x H2 => ∃ a r, x = .ref a ∧ DGet H2 a y r ∧ Q (.bl (n ^^ r.isSome)) H2) := by
  cases n
  · have := pc_din hu hi ho
    unfold tDIn at this
    simpa only [Bool.false_eq_true, if_false, Bool.false_xor] using this
  · have := pc_dnotin hu hi ho
    unfold tDNotIn at this
    simpa only [if_true, Bool.true_xor] using this
theorem RepO.some_eq {K : PySem.W.Frag} {H : Hp} {o : Option Val} {r : Option V} (h : RepO K H o r) : r.isSome = o.isSome := by
  cases o with
  | none => rw [show r = none from h]; rfl
  | some v => obtain ⟨x, rfl, _⟩ := h; rfl
theorem rgV_eq (a b : Int) : rgV a b = (List.range (b - a).toNat).map fun i => V.int (a + (i : Nat)) := rfl
theorem rep_rng {K : PySem.W.Frag} {H : Hp} {lo : Int} {n : Nat} : RepVs K H (rngV lo n) ((List.range n).map fun i => V.int (lo + (i : Nat))) := by
  have key : ∀ l : List Nat, RepVs K H (l.map fun (i : Nat) => Val.int (lo + (i : Int))) (l.map fun i => V.int (lo + (i : Nat))) := by
    intro l
    induction l with
    | nil => exact .nil
    | cons a l ih => exact .cons (by simp only [RepV]) ih
  exact key _
theorem Sd.start {X : Cx} {G : Gam} {k : Nat} {S0 : Sto} {H0 : Hp} (D : Sd X G k S0 H0 (fun _ _ _ => False)) (S1 : Sto) (H1 : Hp) : Sd X G k S1 H1 (fun _ _ _ => False) :=
  ⟨D.room, D.calm, D.nd, D.g, Takes.imp (W := fun _ _ _ _ => False) takes0 (fun c d σ H ⟨_, _, _, _, _, _, _, _, _, _, z⟩ => z), D.gd⟩
section
variable {K : PySem.W.Frag} {S S1 : Sto} {H H1 : Hp} {d : Addr} {od : Obj}
theorem Cor.lockK {kvs : List (Key × Val)} {us : List (Key × V)} (c : Cor K S H) (hs : S d = some (.dK kvs)) (e : H d = some (.dK us)) (r : RepK K H kvs us) : Cor K (S.upd d (.fK kvs)) (upd H d (.frz od (.dK us))) :=
  c.chg hs e trivial (by simp only [RepA]; exact ⟨od, us, upd_same, r.evo' (chg_tup e trivial) (chg_frz e trivial)⟩)
theorem Cor.lockT {kvs : List (List Key × Val)} {us : List (List Key × V)} (c : Cor K S H) (hs : S d = some (.dT kvs)) (e : H d = some (.dT us)) (r : RepK K H kvs us) : Cor K (S.upd d (.fT kvs)) (upd H d (.frz od (.dT us))) :=
  c.chg hs e trivial (by simp only [RepA]; exact ⟨od, us, upd_same, r.evo' (chg_tup e trivial) (chg_frz e trivial)⟩)
theorem RepVs.unfrz {a : Addr} {u : HO} (hh : H a = some (.frz od u)) (hc : Chg u) (hv : ∀ xs, u ≠ .tup xs) : ∀ {vs : List Val} {xs : List V}, RepVs K H vs xs → RepVs K (upd H a u) vs xs
  | [], _, h => by simp only [RepVs] at h ⊢; exact h
  | v :: vs, _, h => by
    simp only [RepVs] at h ⊢
    obtain ⟨y, ys, e, p, q⟩ := h
    exact ⟨y, ys, e, .unfrz hh hc hv _ p, RepVs.unfrz hh hc hv q⟩
theorem RepK.unfrz {κ : Type} {a : Addr} {u : HO} {kvs : List (κ × Val)} {us : List (κ × V)} (hh : H a = some (.frz od u)) (hc : Chg u) (hv : ∀ xs, u ≠ .tup xs) (h : RepK K H kvs us) : RepK K (upd H a u) kvs us := Paired.mapP h fun _ _ q => ⟨q.1, .unfrz hh hc hv _ q.2⟩
theorem RepA.unfrz {a b : Addr} {u : HO} {o : MO} (hh : H a = some (.frz od u)) (hc : Chg u) (hv : ∀ xs, u ≠ .tup xs) (hb : b ≠ a) (h : RepA K H b o) : RepA K (upd H a u) b o := by
  cases o <;> simp only [RepA] at h ⊢
  · obtain ⟨xs, e, r⟩ := h; exact ⟨xs, by rw [upd_ne hb]; exact e, r.unfrz hh hc hv⟩
  · obtain ⟨xs, e, r⟩ := h
    refine ⟨xs, ?_, r.unfrz hh hc hv⟩
    rcases e with e | ⟨o, e⟩
    · exact .inl (by rw [upd_ne hb]; exact e)
    · exact .inr ⟨o, by rw [upd_ne hb]; exact e⟩
  · obtain ⟨xs, e, r⟩ := h; exact ⟨xs, by rw [upd_ne hb]; exact e, r.unfrz hh hc hv⟩
  · obtain ⟨xs, e, r⟩ := h; exact ⟨xs, by rw [upd_ne hb]; exact e, r.unfrz hh hc hv⟩
  · obtain ⟨dx, xs, e, r⟩ := h; exact ⟨dx, xs, by rw [upd_ne hb]; exact e, r.unfrz hh hc hv⟩
  · obtain ⟨dx, xs, e, r⟩ := h; exact ⟨dx, xs, by rw [upd_ne hb]; exact e, r.unfrz hh hc hv⟩
  · obtain ⟨dx, xs, e, r⟩ := h; exact ⟨dx, xs, by rw [upd_ne hb]; exact e, r.unfrz hh hc hv⟩
  · rw [upd_ne hb]; exact h
theorem Cor.unlockK {kvs : List (Key × Val)} {us : List (Key × V)} (c : Cor K S1 H1) (hs : S1 d = some (.fK kvs)) (e : H1 d = some (.frz od (.dK us))) : Cor K (S1.upd d (.dK kvs)) (upd H1 d (.dK us)) := fun b o q => by
  by_cases eb : b = d
  · subst eb
    rw [Sto.upd_same] at q; cases q
    have := c b _ hs
    simp only [RepA] at this ⊢
    obtain ⟨_, us', e', r⟩ := this
    rw [e] at e'; cases e'
    exact ⟨us, upd_same, r.unfrz e trivial (fun _ z => by cases z)⟩
  · rw [Sto.upd_ne eb] at q
    exact (c b o q).unfrz e trivial (fun _ z => by cases z) eb
theorem Cor.unlockT {kvs : List (List Key × Val)} {us : List (List Key × V)} (c : Cor K S1 H1) (hs : S1 d = some (.fT kvs)) (e : H1 d = some (.frz od (.dT us))) : Cor K (S1.upd d (.dT kvs)) (upd H1 d (.dT us)) := fun b o q => by
  by_cases eb : b = d
  · subst eb
    rw [Sto.upd_same] at q; cases q
    have := c b _ hs
    simp only [RepA] at this ⊢
    obtain ⟨_, us', e', r⟩ := this
    rw [e] at e'; cases e'
    exact ⟨us, upd_same, r.unfrz e trivial (fun _ z => by cases z)⟩
  · rw [Sto.upd_ne eb] at q
    exact (c b o q).unfrz e trivial (fun _ z => by cases z) eb
theorem CorL.unfrz {ρ : Loc} {σ : L2.St} {a : Addr} {u : HO} (hh : H a = some (.frz od u)) (hc : Chg u) (hv : ∀ xs, u ≠ .tup xs) (h : CorL K H ρ σ) : CorL K (upd H a u) ρ σ := ⟨h.1, fun i v q => let ⟨x, a, b⟩ := h.2 i v q; ⟨x, a, .unfrz hh hc hv _ b⟩⟩
end
theorem RepK.look {K : PySem.W.Frag} {H : Hp} {f : Str} {v : Val} : ∀ {fs : List (Str × Val)} {us : List (Str × V)}, RepK K H fs us → fs.lookup f = some v → ∃ x, us.lookup f = some x ∧ RepV K H v x
  | [], _, h, e => by cases e
  | (g, w) :: fs, us, h, e => by
    cases h with
    | cons h1 h2 =>
      rename_i q us
      obtain ⟨g', y⟩ := q
      obtain ⟨e1, r⟩ := h1
      simp only at e1 r
      subst e1
      rw [List.lookup_cons] at e ⊢
      cases hh : (f == g) with
      | true => rw [hh] at e; cases e; exact ⟨y, rfl, r⟩
      | false => rw [hh] at e; exact RepK.look h2 e
theorem RepK.look0 {K : PySem.W.Frag} {H : Hp} {f : Str} : ∀ {fs : List (Str × Val)} {us : List (Str × V)}, RepK K H fs us → fs.lookup f = none → us.lookup f = none
  | [], _, h, e => by cases h; rfl
  | (g, w) :: fs, us, h, e => by
    cases h with
    | cons h1 h2 =>
      rename_i q us
      obtain ⟨g', y⟩ := q
      obtain ⟨e1, r⟩ := h1
      simp only at e1 r
      subst e1
      rw [List.lookup_cons] at e ⊢
      cases hh : (f == g) with
      | true => rw [hh] at e; cases e
      | false => rw [hh] at e; exact RepK.look0 h2 e
theorem RepK.put {K : PySem.W.Frag} {H : Hp} {f : Str} {v : Val} {x : V} (r : RepV K H v x) : ∀ {fs : List (Str × Val)} {us : List (Str × V)}, RepK K H fs us → RepK K H (putV f v fs) (putF f x us)
  | [], _, h => by cases h; exact .cons ⟨rfl, r⟩ .nil
  | (g, w) :: fs, us, h => by
    cases h with
    | cons h1 h2 =>
      rename_i q us
      obtain ⟨g', y⟩ := q
      obtain ⟨e1, r1⟩ := h1
      simp only at e1 r1
      subst e1
      unfold putV putF
      split
      · rename_i e; first | rw [if_pos e] | skip
        exact .cons ⟨rfl, r⟩ h2
      · rename_i e; first | rw [if_neg e] | skip
        exact .cons ⟨rfl, r1⟩ (RepK.put r h2)
theorem Cor.ins {K : PySem.W.Frag} {S : Sto} {H : Hp} {a : Addr} {C : Str} {fs : List (Str × Val)} (c : Cor K S H) (h : S a = some (.ins C fs)) : ∃ dx us, H a = some (.ins (He.ga K C) dx us) ∧ RepK K H fs us := by
  have := c a _ h; simpa only [RepA] using this
theorem call_repr {X : Cx} (hu : X.A.units + 70 < cLine) (hg : X.A.guards = some []) : CallR X (.builtin "repr") (fun xs H Q => ∃ x d, xs = [x] ∧ Dp X.K H x d ∧ PyData.showable d = true ∧ d.shown.length ≤ sizeLine ∧ d.depth ≤ 64 ∧ d.hasDict = false ∧ Q (.str d.shown) H) := by
  intro pins s σ H xs us Q I r h
  obtain ⟨x, d, rfl, hd, h1, h2, h3, h4, q⟩ := h
  obtain ⟨u, rfl, ru⟩ := vals1 r
  obtain ⟨as, rd⟩ := Dp.reads I d x u hd ru
  have fin : ∀ (h' : Heap) (u' tk : Tok), (∀ b o, s.heap.get? b = some o → h'.get? b = some o) → EP X pins σ Q (.str d.shown u') { s with heap := h', toks := tk } := fun h' u' tk hk => ⟨.str _, H, I.kept (h' := h') (t' := tk) hk, ⟨_, rfl⟩, q⟩
  cases hd with
  | non => cases ru; exact PySem.P.repr_of_none ⟨.str _, H, I.tok _, ⟨_, rfl⟩, q⟩
  | bl b => cases ru; exact PySem.P.repr_of_bool ⟨.str _, H, I.tok _, ⟨_, rfl⟩, q⟩
  | int i => obtain ⟨t, rfl⟩ := ru; exact PySem.P.repr_of_int (by simpa [PyData.showable] using h1) ⟨.str _, H, I.tok _, ⟨_, rfl⟩, q⟩
  | str z => obtain ⟨t, rfl⟩ := ru; exact PySem.P.repr_of_str ⟨.str _, H, I.tok _, ⟨_, rfl⟩, q⟩ h2
  | tup _ _ => cases ru; exact repr_of_reads' rd h1 (fun z => by rw [h4] at z; cases z) hg (by omega) (fun _ _ e => e) fin h2
  | lst _ _ => cases ru; exact repr_of_reads' rd h1 (fun z => by rw [h4] at z; cases z) hg (by omega) (fun _ _ e => e) fin h2
section
variable {X : Cx} {G : Gam} {k : Nat} {S0 : Sto} {H0 : Hp} {XP : XLoc}
theorem wp_exn (D : Sd X G k S0 H0 XP) {ρ : Loc} {σ : L2.St} {S S1 : Sto} {H H1 : Hp} (cl : CorL X.K H1 ρ σ) (e0 : Evo S0 H0 S H) (e1 : Evo S H S1 H1) {sp : Spec} {vs : List Val} {xs : List V} {Q : VK} (c1 : Cor X.K S1 H1) (r : RepVs X.K H1 vs xs)
    (h : app sp vs S1 (fin X.K S H Q) (fun c S' => XP c ρ S')) : lSp X.K G.ecls sp xs H1 Q (WE (WM X.K G.ecls S0 H0 XP) σ) :=
  ⟨vs, S1, r, c1, h.mono (fun v S' q => q.mono e1) fun c S' q C hC H' e' c' => ⟨c, C, ρ, S', hC, rfl, rfl, cl.evo e', c', (e0.trans e1).trans e', q⟩⟩
mutual
theorem sE (G : Gam) (k : Nat) (S0 : Sto) (H0 : Hp) : ∀ (m : E) {X : Cx} {XP : XLoc} (D : Sd X G k S0 H0 XP) {e : Expr}, mE X.N X.env.scope m e = true → PE X e (lE X.K S0 H0 fun ρ S Q => wE G (fun c S' => XP c ρ S') m ρ S Q)
  | .v i, X, XP, D, e, h => by
    simp only [mE] at h; split at h
    · simp only [Bool.and_eq_true, decide_eq_true_eq] at h
      obtain ⟨⟨h1, h2⟩, h3⟩ := h
      obtain ⟨d1, d2⟩ := dbg_of h3
      refine PE.imp (pe_var h1 (lookup_vis h2) d1 d2) fun σ H Q ⟨ρ, S, cl, c, e0, q⟩ => ?_
      simp only [wE] at q
      obtain ⟨v, hv, q⟩ := q
      obtain ⟨x, hx, r⟩ := cl.2 i v hv
      exact ⟨x, hx, q H x .refl c r⟩
    · cases h
  | .int i, X, XP, D, e, h => by
    simp only [mE] at h; split at h
    · simp only [decide_eq_true_eq] at h; subst h
      refine PE.imp pe_int fun σ H Q ⟨ρ, S, cl, c, e0, q⟩ => ?_
      simp only [wE] at q
      exact q.int c
    · cases h
  | .bl i, X, XP, D, e, h => by
    simp only [mE] at h; split at h
    · simp only [decide_eq_true_eq] at h; subst h
      refine PE.imp pe_bl fun σ H Q ⟨ρ, S, cl, c, e0, q⟩ => ?_
      simp only [wE] at q
      exact q.bl c
    · cases h
  | .non, X, XP, D, e, h => by
    simp only [mE] at h; split at h
    · refine PE.imp pe_non fun σ H Q ⟨ρ, S, cl, c, e0, q⟩ => ?_
      simp only [wE] at q
      exact q.non c
    · cases h
  | .str i, X, XP, D, e, h => by
    simp only [mE] at h; split at h
    · simp only [decide_eq_true_eq] at h; subst h
      refine PE.imp pe_str fun σ H Q ⟨ρ, S, cl, c, e0, q⟩ => ?_
      simp only [wE] at q
      exact q.str c
    · cases h
  | .g x, X, XP, D, e, h => by
    simp only [mE] at h; split at h
    · simp only [Bool.and_eq_true, decide_eq_true_eq] at h
      obtain ⟨⟨rfl, h2⟩, h3⟩ := h
      refine ⟨fun pins s σ H Q I ⟨ρ, S, cl, c, e0, q⟩ => ?_⟩
      simp only [wE] at q
      obtain ⟨v, hv, q⟩ := q
      obtain ⟨y, u, hm, ru, rv⟩ := D.g.cst _ _ hv
      exact (pe_glob (gl_of h2) hm ru (dbg_of h3).1).run pins s σ H Q I (q H y .refl c (rv H))
    · cases h
  | .bin op a b, X, XP, D, e, h => by
    simp only [mE] at h; split at h
    · simp only [Bool.and_eq_true, decide_eq_true_eq] at h
      obtain ⟨⟨rfl, h2⟩, h3⟩ := h
      refine PE.imp (pe_op (bin_snd op) (sE G k S0 H0 a D h2) (sE G k S0 H0 b D h3)) fun σ H Q q => ?_
      simp only [wE] at q
      exact lE.two (wE_mono G _ a) (wE_mono G _ b) (fun {v w S Q Q'} h => wBin_mono h op v w S) (fun _ _ _ _ h => h) q
    · cases h
  | .neg a, X, XP, D, e, h => by
    simp only [mE] at h; split at h
    · refine PE.imp (pe_un un_neg (sE G k S0 H0 a D h)) fun σ H Q ⟨ρ, S, cl, c, e0, q⟩ => ?_
      simp only [wE] at q
      refine ⟨ρ, S, cl, c, e0, wE_mono G _ a (fun v S1 ⟨i, e, q⟩ H1 x e1 c1 r => ?_) q⟩
      subst e
      simp only [RepV] at r; subst r
      exact ⟨i, rfl, (q.mono e1).int c1⟩
    · cases h
  | .cmp op a b, X, XP, D, e, h => by
    simp only [mE] at h; split at h
    · simp only [Bool.and_eq_true, decide_eq_true_eq, Bool.not_eq_true'] at h
      obtain ⟨⟨⟨rfl, h2⟩, h3⟩, h4⟩ := h
      refine PE.imp (pe_cmpR (cmp_snd (by have := D.room.units0; have := D.room.units; have := D.room.un; omega) op) (sE G k S0 H0 a D h2) (sE G k S0 H0 b D h3) h4) fun σ H Q q => ?_
      simp only [wE] at q
      exact lE.two (wE_mono G _ a) (wE_mono G _ b) (fun {v w S Q Q'} h => wCmp_mono h op v w S) (fun _ _ _ _ h => h) q
    · cases h
  | .chain o1 o2 a b c, X, XP, D, e, h => by
    simp only [mE] at h; split at h
    · simp only [Bool.and_eq_true, decide_eq_true_eq, Bool.not_eq_true'] at h
      obtain ⟨⟨⟨⟨⟨⟨rfl, rfl⟩, h2⟩, h3⟩, h5⟩, h4⟩, h6⟩ := h
      have hu : X.A.units + 65 < cLine := by have := D.room.un; omega
      refine PE.imp (pe_chain (cmp_snd hu o1) (cmp_snd hu o2) (sE G k S0 H0 a D h2) (sE G k S0 H0 b D h3) (sE G k S0 H0 c D h5) (by simp only [lastMarks]; exact h6)) fun σ H Q ⟨ρ, S, cl, c, e0, q⟩ => ?_
      simp only [wE] at q
      refine ⟨ρ, S, cl, c, e0, wE_mono G _ a (fun v S1 q H1 x e1 c1 r1 => ?_) q⟩
      refine ⟨ρ, S1, cl.evo e1, c1, e0.trans e1, wE_mono G _ b (fun w S2 q H2 y e2 c2 r2 => ?_) q⟩
      refine ⟨v, w, S2, r1.evo e2, r2, c2, wCmp_mono (fun z S3 ⟨kk, e, q⟩ H3 zz e3 c3 r3 => ?_) _ _ _ _ q⟩
      subst e
      simp only [RepV] at r3; subst r3
      refine ⟨kk, rfl, ?_⟩
      have e03 := (e1.trans e2).trans e3
      cases kk with
      | true =>
        simp only [if_true] at q ⊢
        refine ⟨ρ, S3, cl.evo e03, c3, e0.trans e03, wE_mono G _ _ (fun u S4 q H4 uu e4 c4 r4 => ?_) q⟩
        exact ⟨w, u, S4, (r2.evo e3).evo e4, r4, c4, wCmp_mono (fun r S5 q => q.mono (e03.trans e4)) _ _ _ _ q⟩
      | false =>
        simp only [Bool.false_eq_true, if_false] at q ⊢
        exact (q.mono e03).bl c3
    · cases h
  | .and es, X, XP, D, e, h => by
    simp only [mE] at h; split at h
    · simp only [Bool.and_eq_true] at h
      refine PE.imp (sAndV G k S0 H0 es D h.1 (by simpa using h.2)) fun σ H Q q => ?_
      simp only [wE] at q; exact q
    · cases h
  | .or es, X, XP, D, e, h => by
    simp only [mE] at h; split at h
    · simp only [Bool.and_eq_true] at h
      refine PE.imp (sOrV G k S0 H0 es D h.1 (by simpa using h.2)) fun σ H Q q => ?_
      simp only [wE] at q; exact q
    · cases h
  | .not a, X, XP, D, e, h => by
    simp only [mE] at h; split at h
    · refine PE.imp (pe_not (sE G k S0 H0 a D h)) fun σ H Q ⟨ρ, S, cl, c, e0, q⟩ => ?_
      simp only [wE] at q
      refine ⟨ρ, S, cl, c, e0, wE_mono G _ a (fun v S1 ⟨i, e, q⟩ H1 x e1 c1 r => ?_) q⟩
      subst e
      simp only [RepV] at r; subst r
      exact ⟨i, rfl, (q.mono e1).bl c1⟩
    · cases h
  | .ife t a b, X, XP, D, e, h => by
    simp only [mE] at h; split at h
    · simp only [Bool.and_eq_true] at h
      obtain ⟨⟨h1, h2⟩, h3⟩ := h
      refine PE.imp (pe_ifExp (sB G k S0 H0 t D h1) (sE G k S0 H0 a D h2) (sE G k S0 H0 b D h3)) fun σ H Q ⟨ρ, S, cl, c, e0, q⟩ => ?_
      simp only [wE] at q
      refine ⟨ρ, S, cl, c, e0, wB_mono G _ t (fun kk S1 q H1 e1 c1 => ?_) q⟩
      cases kk with
      | true => simp only [if_true] at q ⊢; exact ⟨ρ, S1, cl.evo e1, c1, e0.trans e1, wE_mono G _ a (fun v S2 q => q.mono e1) q⟩
      | false => simp only [Bool.false_eq_true, if_false] at q ⊢; exact ⟨ρ, S1, cl.evo e1, c1, e0.trans e1, wE_mono G _ b (fun v S2 q => q.mono e1) q⟩
    · cases h
  | .tup es, X, XP, D, e, h => by
    simp only [mE] at h; split at h
    · refine PE.imp (pe_tupN (sEs G k S0 H0 es D h)) fun σ H Q ⟨ρ, S, cl, c, e0, q⟩ => ?_
      simp only [wE] at q
      refine ⟨ρ, S, cl, c, e0, wEs_mono G _ es (fun vs S1 ⟨hl, q⟩ H1 xs e1 c1 r => ⟨by rw [r.length]; exact hl, fun p o hp ho => (q.mono e1).tupN c1 r hp ho⟩) q⟩
    · cases h
  | .lst es, X, XP, D, e, h => by
    simp only [mE] at h; split at h
    · refine PE.imp (pe_lst (sEs G k S0 H0 es D h)) fun σ H Q ⟨ρ, S, cl, c, e0, q⟩ => ?_
      simp only [wE] at q
      refine ⟨ρ, S, cl, c, e0, wEs_mono G _ es (fun vs S1 ⟨hl, q⟩ H1 xs e1 c1 r => ⟨by rw [r.length]; exact hl, fun p hp => fin.lstN c1 (fun p hp => (q p hp).mono e1) r hp⟩) q⟩
    · cases h
  | .ix a i, X, XP, D, e, h => by
    simp only [mE] at h; split at h
    · simp only [Bool.and_eq_true] at h
      refine PE.imp (pe_ix ix_snd (sE G k S0 H0 a D h.1) (sE G k S0 H0 i D h.2) (plainIx_of h.2)) fun σ H Q q => ?_
      simp only [wE] at q
      exact lE.two (wE_mono G _ a) (wE_mono G _ i) (fun {v w S Q Q'} h => vIx_mono h v w S) (fun _ _ _ _ h => h) q
    · cases h
  | .sl a lo hi, X, XP, D, e, h => by
    simp only [mE] at h; split at h
    · simp only [Bool.and_eq_true] at h
      obtain ⟨⟨h1, h2⟩, h3⟩ := h
      refine PE.imp (pe_slice sl_snd (sE G k S0 H0 a D h1) (sP G k S0 H0 lo D h2) (sP G k S0 H0 hi D h3)) fun σ H Q ⟨ρ, S, cl, c, e0, q⟩ => ?_
      simp only [wE] at q
      refine ⟨ρ, S, cl, c, e0, wE_mono G _ a (fun v S1 q H1 x e1 c1 r1 => ?_) q⟩
      refine ⟨ρ, S1, cl.evo e1, c1, e0.trans e1, wP_mono G _ lo (fun l S2 q H2 e2 c2 => ?_) q⟩
      refine ⟨ρ, S2, (cl.evo e1).evo e2, c2, (e0.trans e1).trans e2, wP_mono G _ hi (fun u S3 q H3 e3 c3 => ?_) q⟩
      exact ⟨v, S3, (r1.evo e2).evo e3, c3, vSl_mono (fun r S4 q => q.mono ((e1.trans e2).trans e3)) _ _ _ _ q⟩
    · cases h
  | .rev a, X, XP, D, e, h => by
    simp only [mE] at h; split at h
    · refine PE.imp (pe_revL (sE G k S0 H0 a D h)) fun σ H Q ⟨ρ, S, cl, c, e0, q⟩ => ?_
      simp only [wE] at q
      refine ⟨ρ, S, cl, c, e0, wE_mono G _ a (fun v S1 ⟨p, vs, e, l, q⟩ H1 x e1 c1 r => ?_) q⟩
      subst e
      simp only [RepV] at r; subst r
      obtain ⟨xs, t, r⟩ := c1.rd l
      exact ⟨p, xs, rfl, t, fun p hp => fin.lstN c1 (fun p hp => (q p hp).mono e1) r.reverse hp⟩
    · cases h
  | .fld a f, X, XP, D, e, h => by
    simp only [mE] at h; split at h
    · simp only [Bool.and_eq_true, decide_eq_true_eq] at h
      obtain ⟨⟨rfl, h2⟩, h3⟩ := h
      refine PE.imp (pe_fld (sE G k S0 H0 a D h2) (base_of h3)) fun σ H Q ⟨ρ, S, cl, c, e0, q⟩ => ?_
      simp only [wE] at q
      refine ⟨ρ, S, cl, c, e0, wE_mono G _ a (fun v S1 q H1 x e1 c1 r1 => ?_) q⟩
      unfold vFld at q
      split at q
      · obtain ⟨C, fs, w, hs, ho, hf, q⟩ := q
        simp only [RepV] at r1; subst r1
        obtain ⟨dx, us, eh, rk⟩ := c1.ins hs
        obtain ⟨cl', na⟩ := D.g.fo _ _ ho
        obtain ⟨y, ey, ry⟩ := rk.look hf
        exact ⟨_, _, dx, us, y, rfl, eh, cl', na, ey, q H1 y e1 c1 ry⟩
      · exact q.elim
    · cases h
  | .call f es, X, XP, D, e, h => by
    simp only [mE] at h; split at h
    · simp only [Bool.and_eq_true, decide_eq_true_eq] at h
      obtain ⟨⟨⟨rfl, h2⟩, h3⟩, h4⟩ := h
      rename_i es' _
      cases es with
      | nil =>
        cases es' with
        | cons => simp [mEs] at h4
        | nil =>
          refine ⟨fun pins s σ H Q I ⟨ρ, S, cl, c, e0, q⟩ => ?_⟩
          simp only [wE, wEs] at q
          obtain ⟨sp, hsp, q⟩ := q
          obtain ⟨fa, fd, ps, hm, hk, hb, F⟩ := D.g.fn _ _ hsp
          exact (pe_callM0 F D.room (gl_of h2) hm hk hb D.tk (dbg_of h3).1).run pins s σ H Q I (wp_exn D cl e0 .refl c .nil q)
      | cons m ms =>
        cases es' with
        | nil => simp [mEs] at h4
        | cons e es' =>
          have h4' := h4
          simp only [mEs, Bool.and_eq_true] at h4'
          refine ⟨fun pins s σ H Q I ⟨ρ, S, cl, c, e0, q⟩ => ?_⟩
          simp only [wE] at q
          obtain ⟨sp, hsp, q⟩ := q
          obtain ⟨fa, fd, ps, hm, hk, hb, F⟩ := D.g.fn _ _ hsp
          refine (pe_callM F D.room (gl_of h2) hm hk hb D.tk h4'.1 h4'.2 (sEs G k S0 H0 (m :: ms) D h4) (dbg_of h3).1).run pins s σ H Q I ?_
          refine ⟨ρ, S, cl, c, e0, wEs_mono G _ (m :: ms) (fun vs S1 q H1 xs e1 c1 r1 => ?_) q⟩
          show lSp X.K G.ecls sp (xs ++ []) H1 Q _
          rw [List.append_nil]
          exact wp_exn D (cl.evo e1) e0 e1 c1 r1 q
    · cases h
  | .new f es, X, XP, D, e, h => by
    simp only [mE] at h; split at h
    · simp only [Bool.and_eq_true, decide_eq_true_eq] at h
      obtain ⟨⟨⟨rfl, h2⟩, h3⟩, h4⟩ := h
      rename_i es' _
      have key : ∀ {ρ : Loc} {σ : L2.St} {H1 : Hp} {S1 : Sto} {S : Sto} {H : Hp} {Q : VK} {vs : List Val} {xs : List V} {sp : Spec} (cl : CorL X.K H ρ σ) (e0 : Evo S0 H0 S H) (e1 : Evo S H S1 H1) (c1 : Cor X.K S1 H1) (r1 : RepVs X.K H1 vs xs) (q : ∀ p, S1 p = none → app sp (.ref p :: vs) (S1.upd p (.ins f [])) (fun r S2 => r = .non ∧ fin X.K S H Q (.ref p) S2) (fun c S' => XP c ρ S')),
          ∀ x dx, H1 x = none → H1 dx = none → dx ≠ x → lSp X.K G.ecls sp (.ref x :: (xs ++ [])) (upd (upd H1 dx (.own x)) x (.ins (He.ga X.K f) dx [])) (fun v H2 => v = .non ∧ Q (.ref x) H2) (WE (WM X.K G.ecls S0 H0 XP) σ) := by
        intro ρ σ H1 S1 S H Q vs xs sp cl e0 e1 c1 r1 q x dx hx hdx hne
        have k1 : ∀ b u, H1 b = some u → upd H1 dx (.own x) b = some u := upd_keep hdx
        have hx1 : upd H1 dx (.own x) x = none := by rw [upd_ne (Ne.symm hne)]; exact hx
        have c2 : Cor X.K S1 (upd H1 dx (.own x)) := c1.more k1
        have e2 : Evo S1 H1 S1 (upd H1 dx (.own x)) := .more k1
        have e3 : Evo S1 (upd H1 dx (.own x)) (S1.upd x (.ins f [])) (upd (upd H1 dx (.own x)) x (.ins (He.ga X.K f) dx [])) := .newO hx1
        have c3 := c2.newO (o := .ins f []) (u := .ins (He.ga X.K f) dx []) hx1 (by simp only [RepA]; exact ⟨dx, [], upd_same, .nil⟩)
        rw [List.append_nil]
        refine ⟨.ref x :: vs, _, .cons (by simp only [RepV]) ((r1.evo e2).evo e3), c3, (q x (c1.free hx)).mono (fun v S2 ⟨hv, z⟩ H' zz e' c' r' => ?_) fun c S' z C hC H' e' c' => ⟨c, C, ρ, S', hC, rfl, rfl, cl.evo (((e1.trans e2).trans e3).trans e'), c', e0.trans (((e1.trans e2).trans e3).trans e'), z⟩⟩
        subst hv
        simp only [RepV] at r'
        exact ⟨r', z H' _ (((e1.trans e2).trans e3).trans e') c' (by simp only [RepV])⟩
      cases es with
      | nil =>
        cases es' with
        | cons => simp [mEs] at h4
        | nil =>
          refine ⟨fun pins s σ H Q I ⟨ρ, S, cl, c, e0, q⟩ => ?_⟩
          simp only [wE, wEs] at q
          obtain ⟨sp, hsp, q⟩ := q
          obtain ⟨j, fa, fd, ps, hj, hm, M, hb, F⟩ := D.g.new _ _ hsp
          exact (pe_newX0 D.tk M F (D.room.mono hj) (gl_of h2) hm hb (dbg_of h3).1).run pins s σ H Q I (key cl e0 .refl c .nil q)
      | cons m ms =>
        cases es' with
        | nil => simp [mEs] at h4
        | cons e es' =>
          have h4' := h4
          simp only [mEs, Bool.and_eq_true] at h4'
          refine ⟨fun pins s σ H Q I ⟨ρ, S, cl, c, e0, q⟩ => ?_⟩
          simp only [wE] at q
          obtain ⟨sp, hsp, q⟩ := q
          obtain ⟨j, fa, fd, ps, hj, hm, M, hb, F⟩ := D.g.new _ _ hsp
          refine (pe_newX D.tk M F (D.room.mono hj) (gl_of h2) hm hb h4'.1 h4'.2 (sEs G k S0 H0 (m :: ms) D h4) (dbg_of h3).1).run pins s σ H Q I ?_
          exact ⟨ρ, S, cl, c, e0, wEs_mono G _ (m :: ms) (fun vs S1 q H1 xs e1 c1 r1 => key cl e0 e1 c1 r1 q) q⟩
    · cases h
  | .meth o m es, X, XP, D, e, h => by
    simp only [mE] at h; split at h
    · simp only [Bool.and_eq_true, decide_eq_true_eq] at h
      obtain ⟨⟨⟨⟨⟨h1, rfl⟩, h3⟩, h4⟩, h5⟩, h6⟩ := h
      rename_i es' _
      cases es' with
      | nil =>
        cases es with
        | cons => simp [mEs] at h5
        | nil =>
          refine PE.imp (pe_methM0 D.room D.tk h3 h4 (sE G k S0 H0 o D h1)) fun σ H Q ⟨ρ, S, cl, c, e0, q⟩ => ?_
          simp only [wE, wEs] at q
          refine ⟨ρ, S, cl, c, e0, wE_mono G _ o (fun v S1 ⟨a, C, fs, sp, ev, hs, hf, hsp, q⟩ H1 x e1 c1 r1 => ?_) q⟩
          subst ev
          simp only [RepV] at r1; subst r1
          obtain ⟨dx, us, eh, rk⟩ := c1.ins hs
          obtain ⟨g, fd, ps, c', hm, hb, F⟩ := D.g.mt _ _ _ hsp
          exact ⟨a, _, dx, us, g, _, rfl, eh, rk.look0 hf, ⟨c', hm, fd, ps, hb, F⟩, wp_exn D (cl.evo e1) e0 e1 c1 (.cons (by simp only [RepV]) .nil) q⟩
      | cons e' es' =>
        refine PE.imp (pe_methM D.room D.tk h3 h4 h5 h6 (sE G k S0 H0 o D h1) (sEs G k S0 H0 es D h5)) fun σ H Q ⟨ρ, S, cl, c, e0, q⟩ => ?_
        simp only [wE] at q
        refine ⟨ρ, S, cl, c, e0, wE_mono G _ o (fun v S1 ⟨a, C, fs, sp, ev, hs, hf, hsp, q⟩ H1 x e1 c1 r1 => ?_) q⟩
        subst ev
        simp only [RepV] at r1; subst r1
        obtain ⟨dx, us, eh, rk⟩ := c1.ins hs
        obtain ⟨g, fd, ps, c', hm, hb, F⟩ := D.g.mt _ _ _ hsp
        refine ⟨a, _, dx, us, g, _, rfl, eh, rk.look0 hf, ⟨c', hm, fd, ps, hb, F⟩, ρ, S1, cl.evo e1, c1, e0.trans e1, wEs_mono G _ es (fun vs S2 q H2 xs e2 c2 r2 => ?_) q⟩
        exact wp_exn D ((cl.evo e1).evo e2) e0 (e1.trans e2) c2 (.cons (by simp only [RepV]) r2) q
    · cases h
  | .repr a, X, XP, D, e, h => by
    simp only [mE] at h; split at h
    · simp only [Bool.and_eq_true, decide_eq_true_eq] at h
      obtain ⟨⟨rfl, h2⟩, h3⟩ := h
      refine ⟨fun pins s σ H Q I ⟨ρ, S, cl, c, e0, q⟩ => ?_⟩
      simp only [wE] at q
      obtain ⟨hg, q⟩ := q
      refine (pe_callB (call_repr (by have := D.room.un; omega) (D.gd hg)) (gl_of h2) (D.g.blt _ (by decide +kernel)) boot_repr (pa_cons (sE G k S0 H0 a D h3) pa_nil (star_one h3 _ _)) (by decide) (by decide) (star_one h3 _ _) rfl).run pins s σ H Q I ?_
      refine ⟨ρ, S, cl, c, e0, wE_mono G _ a (fun v S1 ⟨d, h1, h2, h3, h4, h5, q⟩ H1 x e1 c1 r1 => ?_) q⟩
      exact ⟨x, d, rfl, dp_of c1 h1 r1, h2, h3, h4, h5, (q.mono e1).str c1⟩
    · cases h
  | .blt b es, X, XP, D, e, h => by
    simp only [mE] at h; split at h
    · simp only [Bool.and_eq_true, decide_eq_true_eq] at h
      obtain ⟨⟨⟨rfl, h2⟩, h3⟩, h4⟩ := h
      rename_i es' _
      cases es with
      | nil => simp at h4
      | cons m ms =>
        cases es' with
        | nil => simp [mEs] at h3
        | cons e es' =>
          have h3' := h3
          simp only [mEs, Bool.and_eq_true] at h3'
          have hm : X.mg (bltName b) = none := D.g.blt _ (blt_mem b)
          have key : ∀ p1 p2, PE X (.Call (.Name (bltName b) p1) (e :: es') [] p2) (tCB (lN X.K (wBlt b)) (lA X.K S0 H0 fun ρ S Q => wEs G (fun c S' => XP c ρ S') (m :: ms) ρ S Q)) := fun p1 p2 => by
            have hb := blt_snd (X := X) D.calm (by have := D.room.un; omega) b
            have hv := bltBoot b
            obtain ⟨n1, n2⟩ := bltNN b
            unfold bltVal at hb hv
            split at hb
            · rename_i hty; rw [if_pos hty] at hv
              exact pe_callTy hb (gl_of h2) hm hv (sEs G k S0 H0 (m :: ms) D h3) n1 n2 (star_one h3'.1 _ _) (backTo_any h3'.2)
            · rename_i hty; rw [if_neg hty] at hv
              exact pe_callB hb (gl_of h2) hm hv (sEs G k S0 H0 (m :: ms) D h3) n1 n2 (star_one h3'.1 _ _) (backTo_any h3'.2)
          refine PE.imp (key _ _) fun σ H Q ⟨ρ, S, cl, c, e0, q⟩ => ?_
          simp only [wE] at q
          refine ⟨ρ, S, cl, c, e0, wEs_mono G _ (m :: ms) (fun vs S1 q H1 xs e1 c1 r1 => ?_) q⟩
          exact ⟨vs, S1, r1, c1, wBlt_mono (fun r S2 q => q.mono e1) _ _ _ q⟩
    · cases h
  | .mth m o es, X, XP, D, e, h => by
    simp only [mE] at h; split at h
    · simp only [Bool.and_eq_true, decide_eq_true_eq] at h
      obtain ⟨⟨⟨⟨⟨⟨h1, rfl⟩, h3⟩, h4⟩, h5⟩, h6⟩, h7⟩ := h
      rename_i es' _
      cases es' with
      | nil =>
        cases es with
        | cons => simp [mEs] at h5
        | nil =>
          by_cases hn : m = .tindex
          · subst hn
            exact absurd rfl (h7 rfl)
          refine PE.imp (pe_mthM0 m h3 h4 (sE G k S0 H0 o D h1)) fun σ H Q ⟨ρ, S, cl, c, e0, q⟩ => ?_
          simp only [wE, wEs] at q
          refine ⟨ρ, S, cl, c, e0, wE_mono G _ o (fun v S1 ⟨ty, q⟩ H1 x e1 c1 r1 => ?_) q⟩
          exact ⟨tyM_rep c1 r1 ty hn, v, [], S1, r1, .nil, c1, wMth_mono (fun r S3 q => q.mono e1) _ _ _ _ q⟩
      | cons e' es' =>
        by_cases hn : m = .tindex
        · subst hn
          refine PE.imp (pe_mthT h3 h4 h5 h6 (sE G k S0 H0 o D h1) (sEs G k S0 H0 es D h5)) fun σ H Q ⟨ρ, S, cl, c, e0, q⟩ => ?_
          simp only [wE] at q
          refine ⟨ρ, S, cl, c, e0, wE_mono G _ o (fun v S1 ⟨ty, q⟩ H1 x e1 c1 r1 => ?_) q⟩
          cases v <;> simp only [tyM] at ty
          have r1' := r1
          simp only [RepV] at r1'
          obtain ⟨p, xs, ex, t, _⟩ := r1'
          refine ⟨⟨p, xs, ex, t⟩, ρ, S1, cl.evo e1, c1, e0.trans e1, wEs_mono G _ es (fun vs S2 q H2 xs e2 c2 r2 => ?_) q⟩
          exact ⟨_, vs, S2, r1.evo e2, r2, c2, wMth_mono (fun r S3 q => q.mono (e1.trans e2)) _ _ _ _ q⟩
        refine PE.imp (pe_mthM m h3 h4 h5 h6 (sE G k S0 H0 o D h1) (sEs G k S0 H0 es D h5)) fun σ H Q ⟨ρ, S, cl, c, e0, q⟩ => ?_
        simp only [wE] at q
        refine ⟨ρ, S, cl, c, e0, wE_mono G _ o (fun v S1 ⟨ty, q⟩ H1 x e1 c1 r1 => ?_) q⟩
        refine ⟨tyM_rep c1 r1 ty hn, ρ, S1, cl.evo e1, c1, e0.trans e1, wEs_mono G _ es (fun vs S2 q H2 xs e2 c2 r2 => ?_) q⟩
        exact ⟨v, vs, S2, r1.evo e2, r2, c2, wMth_mono (fun r S3 q => q.mono (e1.trans e2)) _ _ _ _ q⟩
    · cases h
  | .isx a y, X, XP, D, e, h => by
    simp only [mE] at h; split at h
    · rename_i x px a' y' py pos
      simp only [Bool.and_eq_true, decide_eq_true_eq] at h
      obtain ⟨⟨⟨⟨⟨⟨rfl, h2⟩, h3⟩, rfl⟩, h5⟩, h6⟩, h7⟩ := h
      have go : ∀ {ty : TE}, PE X (.Name y py) ty → (∀ c b, G.exi c y = some b → ∃ (C : Addr) (w : V) (cv : Value), G.ecls c = some C ∧ ExcC X.K C ∧ (∀ u, RelV w u → u = cv) ∧ PySem.W.kitOne X.K (.ref C) cv = some b ∧ ∀ σ H Q, Q w H → ty σ H Q) →
          PE X (.Call (.Name "isinstance" px) [a', .Name y py] [] pos) (lE X.K S0 H0 (fun ρ S Q => wE G (fun c S' => XP c ρ S') (.isx a y) ρ S Q)) := fun {ty} py' hy => by
        refine PE.imp (pe_callB call_isO (gl_of h2) (D.g.blt _ (by decide +kernel)) boot_isinst (pa_cons (sE G k S0 H0 a D h3) (pa_cons py' pa_nil rfl) (star_one h3 _ _)) (by decide) (by decide) (star_one h3 _ _) rfl) fun σ H Q ⟨ρ, S, cl, c, e0, q⟩ => ?_
        simp only [wE] at q
        refine ⟨ρ, S, cl, c, e0, wE_mono G _ a (fun v S1 ⟨p, cn, b, ev, eo, ex, q⟩ H1 x e1 c1 r1 => ?_) q⟩
        obtain ⟨C, w, cv, ec, xc, rw', hk, hty⟩ := hy _ _ ex
        have eg := D.g.ga _ _ ec; subst eg
        subst ev
        simp only [RepV] at r1; subst r1
        have ho := c1 p _ eo
        simp only [RepA] at ho
        exact hty _ _ _ ⟨p, _, w, cv, b, rfl, xc, rw', hk, ho, (q.mono e1).bl c1⟩
      by_cases y1 : ∃ Y, X.mg y = some (.ref Y)
      · obtain ⟨Y, hY⟩ := y1
        refine go (pe_glob (v := .ref Y) (gl_of h5) hY rfl (dbg_of h6).1) fun c b ex => ?_
        obtain ⟨C, e1, xc, alt⟩ := D.g.exi _ _ _ ex
        rcases alt with ⟨Y2, hY2, hk⟩ | ⟨hn, _⟩
        · rw [hY] at hY2; cases hY2
          exact ⟨C, .ref Y, .ref Y, e1, xc, fun u r => r, hk, fun σ H Q q => q⟩
        · rw [hY] at hn; cases hn
      · by_cases y2 : X.mg y = none ∧ ∃ t, bootBuiltins y = some (.type t)
        · obtain ⟨hn, t, ht⟩ := y2
          refine go (pe_bltn (v := .ty t) (gl_of h5) hn ht rfl h7 (dbg_of h6).1) fun c b ex => ?_
          obtain ⟨C, e1, xc, alt⟩ := D.g.exi _ _ _ ex
          rcases alt with ⟨Y2, hY2, hk⟩ | ⟨_, t2, ht2, hk⟩
          · rw [hn] at hY2; cases hY2
          · rw [ht] at ht2; cases ht2
            exact ⟨C, .ty t, .type t, e1, xc, fun u r => r, hk, fun σ H Q q => q⟩
        · refine go (ty := fun _ _ _ => False) ⟨fun _ _ _ _ _ _ q => q.elim⟩ fun c b ex => ?_
          obtain ⟨C, e1, xc, alt⟩ := D.g.exi _ _ _ ex
          rcases alt with ⟨Y2, hY2, hk⟩ | ⟨hn, t2, ht2, hk⟩
          · exact absurd ⟨Y2, hY2⟩ y1
          · exact absurd ⟨hn, t2, ht2⟩ y2
    · cases h
  | .isi a t, X, XP, D, e, h => by
    simp only [mE] at h; split at h
    · simp only [Bool.and_eq_true, decide_eq_true_eq] at h
      obtain ⟨⟨⟨⟨⟨rfl, h2⟩, h3⟩, h4⟩, rfl⟩, h6⟩ := h
      refine PE.imp (pe_callB call_isi (gl_of h2) (D.g.blt _ (by decide +kernel)) boot_isinst (pa_cons (sE G k S0 H0 a D h3) (pa_cons (pe_bltn (v := .ty t) (gl_of h6) (D.g.blt _ (ty_blt h4)) (ty_boot h4) rfl (ty_nn h4).1 (ty_nn h4).2) pa_nil rfl) (star_one h3 _ _))
        (by decide) (by decide) (star_one h3 _ _) rfl) fun σ H Q ⟨ρ, S, cl, c, e0, q⟩ => ?_
      simp only [wE] at q
      refine ⟨ρ, S, cl, c, e0, wE_mono G _ a (fun v S1 ⟨n, kk, hn, hk, q⟩ H1 x e1 c1 r1 => ?_) q⟩
      exact ⟨x, .ty t, _, _, kk, rfl, .ty t, ty_rep c1 r1 hn, kit_ty hk, (q.mono e1).bl c1⟩
    · cases h
  | .isiT a ts, X, XP, D, e, h => by
    simp only [mE] at h; split at h
    · simp only [Bool.and_eq_true, decide_eq_true_eq] at h
      obtain ⟨⟨⟨⟨rfl, h2⟩, h3⟩, h4⟩, hlen⟩ := h
      refine PE.imp (pe_callB call_isiT (gl_of h2) (D.g.blt _ (by decide +kernel)) boot_isinst (pa_cons (sE G k S0 H0 a D h3) (pa_cons (pe_tup (sTys D.g.blt ts h4)) pa_nil rfl) (star_one h3 _ _))
        (by decide) (by decide) (star_one h3 _ _) rfl) fun σ H Q ⟨ρ, S, cl, c, e0, q⟩ => ?_
      simp only [wE] at q
      refine ⟨ρ, S, cl, c, e0, wE_mono G _ a (fun v S1 ⟨n, hn, hk, q⟩ H1 x e1 c1 r1 => ?_) q⟩
      refine ⟨by rw [List.length_map]; exact Nat.le_trans hlen (by show 100 ≤ sizeLine; decide), fun p hp => ?_⟩
      refine ⟨x, p, _, _, _, _, rfl, upd_same, clsAll ts, ty_rep (c1.tupN hp) (r1.evo (.tupN (S := S1) hp)) hn, kitAny_of ts hk, ?_⟩
      exact (q.mono (e1.trans (.tupN hp))).bl (c1.tupN hp)
    · cases h
  | .lc own t it ifs b, X, XP, D, e, h => by
    simp only [mE] at h; split at h
    · simp only [Bool.and_eq_true, decide_eq_true_eq] at h
      obtain ⟨⟨⟨⟨⟨⟨⟨⟨hz, h1⟩, h2⟩, h3⟩, h4⟩, h5⟩, h6⟩, h7⟩, h8⟩ := h
      rename_i scope _
      have hown := blk_own (blkOk_by h1) h8 h7
      refine PE.imp (pe_lc (g := lG' X.K S0 H0 (slots t) fun v ρ S Q => wTg G M.noX t v ρ S Q) (tt := lB X.K S0 H0 fun ρ S Q => wBs G M.noX ifs ρ S Q) (te := lE X.K S0 H0 fun ρ S Q => wE G M.noX b ρ S Q) D.calm D.nd (sI G k S0 H0 it D h2 hz) (blkOk_by h1) (fun s H C cl fp => sT G k S0 H0 t (D.blk s H scope (compEnvC scope cl C X.env) fp) h3 hown) (fun s H C cl fp => sBs G k S0 H0 ifs (D.blk s H scope (compEnvC scope cl C X.env) fp) h4 h5) (fun s H C cl fp => sE G k S0 H0 b (D.blk s H scope (compEnvC scope cl C X.env) fp) h6) (noSet h2 _)) fun σ H Q q => ?_
      simp only [wE] at q
      exact lc_read (tI := fun ρ S R => wI G (fun c S' => XP c ρ S') it ρ S R) (tG := fun v ρ S Q => wTg G M.noX t v ρ S Q) (tB := fun ρ S Q => wBs G M.noX ifs ρ S Q) (tE := fun ρ S Q => wE G M.noX b ρ S Q) (slots t) h7 (wI_mono G _ it) (wTg_mono G _ t) (wBs_mono G _ ifs) (wE_mono G _ b) q
    · cases h
  | .dK0, X, XP, D, e, h => by
    simp only [mE] at h; split at h
    · refine PE.imp pe_dnewK fun σ H Q ⟨ρ, S, cl, c, e0, q⟩ p hp => ?_
      simp only [wE] at q
      exact q p (c.free hp) _ _ (.newO hp) (c.newO hp (by simp only [RepA]; exact ⟨[], upd_same, .nil⟩)) (by simp only [RepV])
    · cases h
  | .dT0, X, XP, D, e, h => by
    simp only [mE] at h; split at h
    · refine PE.imp pe_dnewT fun σ H Q ⟨ρ, S, cl, c, e0, q⟩ p hp => ?_
      simp only [wE] at q
      exact q p (c.free hp) _ _ (.newO hp) (c.newO hp (by simp only [RepA]; exact ⟨[], upd_same, .nil⟩)) (by simp only [RepV])
    · cases h
  | .dT1 a b, X, XP, D, e, h => by
    simp only [mE] at h; split at h
    · simp only [Bool.and_eq_true] at h
      refine PE.imp (pe_dispT (by have := D.room.un; omega) (sE G k S0 H0 a D h.1) (sE G k S0 H0 b D h.2)) fun σ H Q ⟨ρ, S, cl, c, e0, q⟩ p hp => ?_
      simp only [wE] at q
      have c1 : Cor X.K (S.upd p (.dT [])) (upd H p (.dT [])) := c.newO hp (by simp only [RepA]; exact ⟨[], upd_same, .nil⟩)
      have e1 : Evo S H (S.upd p (.dT [])) (upd H p (.dT [])) := .newO hp
      refine ⟨ρ, S.upd p (.dT []), cl.evo e1, c1, e0.trans e1, wE_mono G _ a (fun w S1 q H1 x e2 c2 r2 => ?_) (q p (c.free hp))⟩
      refine ⟨ρ, S1, (cl.evo e1).evo e2, c2, (e0.trans e1).trans e2, wE_mono G _ b (fun u S2 ⟨ks, ew, hs, q9⟩ H2 y e3 c3 r3 => ?_) q⟩
      subst ew
      have r2 := r2.evo e3
      simp only [RepV] at r2
      obtain ⟨bb, xs, rfl, hb, rk⟩ := r2
      have := kvals_rep rk; subst this
      have hd := c3 p _ hs
      simp only [RepA] at hd
      obtain ⟨us, eu, ru⟩ := hd
      cases ru
      refine ⟨eu, ks, bb, rfl, hb, ?_⟩
      have e4 : Evo S2 H2 (S2.upd p (.dT [(ks, u)])) (upd H2 p (.dT [(ks, y)])) := .chg hs eu trivial
      refine q9 _ _ (((e1.trans e2).trans e3).trans e4) (c3.chg hs eu trivial ?_) (by simp only [RepV])
      simp only [RepA]
      exact ⟨_, upd_same, .cons ⟨rfl, r3.evo e4⟩ .nil⟩
    · cases h
  | .addL a b, X, XP, D, e, h => by
    simp only [mE] at h; split at h
    · simp only [Bool.and_eq_true] at h
      obtain ⟨h2, h3⟩ := h
      refine PE.imp (pe_op addL_snd (sE G k S0 H0 a D h2) (sE G k S0 H0 b D h3)) fun σ H Q q => ?_
      simp only [wE] at q
      exact lE.two (wE_mono G _ a) (wE_mono G _ b) (fun {v w S Q Q'} h => lAdd_mono h v w S) (fun _ _ _ _ h => h) q
    · cases h
  | .revT a, X, XP, D, e, h => by
    simp only [mE] at h; split at h
    · refine PE.imp (pe_revT (sE G k S0 H0 a D h)) fun σ H Q ⟨ρ, S, cl, c, e0, q⟩ => ?_
      simp only [wE] at q
      refine ⟨ρ, S, cl, c, e0, wE_mono G _ a (fun v S1 ⟨xs, ev, q⟩ H1 x e1 c1 r => ?_) q⟩
      subst ev
      simp only [RepV] at r
      obtain ⟨p, us, rfl, t, r⟩ := r
      exact ⟨p, us, rfl, t.sq, fun p o hp ho => (q.mono e1).tupN c1 r.reverse hp ho⟩
    · cases h
  | .ktup es, X, XP, D, e, h => by
    simp only [mE] at h; split at h
    · refine PE.imp (pe_tup (sEs G k S0 H0 es D h)) fun σ H Q ⟨ρ, S, cl, c, e0, q⟩ => ?_
      simp only [wE] at q
      refine ⟨ρ, S, cl, c, e0, wEs_mono G _ es (fun vs S1 ⟨hl, q⟩ H1 xs e1 c1 r => ⟨by rw [r.length]; exact hl, fun p hp => (q.mono e1).ptupN c1 r hp⟩) q⟩
    · cases h
  | .lrng1 a, X, XP, D, e, h => by
    simp only [mE] at h; split at h
    · simp only [Bool.and_eq_true, decide_eq_true_eq] at h
      obtain ⟨⟨⟨⟨rfl, g1⟩, rfl⟩, g2⟩, h3⟩ := h
      refine PE.imp (pe_listRg D.calm (gl_of g1) (D.g.blt _ (by decide +kernel)) (prg_1 (gl_of g2) (D.g.blt _ (by decide +kernel)) (sE G k S0 H0 a D h3) (star_one h3 _ _))) fun σ H Q ⟨ρ, S, cl, c, e0, q⟩ => ?_
      simp only [wE] at q
      refine ⟨ρ, S, cl, c, e0, wE_mono G _ a (fun v S1 ⟨n, ev, h1, h2, q⟩ H1 x e1 c1 r => ?_) q⟩
      subst ev
      simp only [RepV] at r; subst r
      refine ⟨n, rfl, ⟨by decide, by decide, h1, by omega, by omega⟩, fun p hp => ?_⟩
      rw [rgV_eq, show (n - 0).toNat = n.toNat from by rw [Int.sub_zero]]
      exact fin.lstN c1 (fun p hp => (q p hp).mono e1) rep_rng hp
    · cases h
  | .lrng2 a b, X, XP, D, e, h => by
    simp only [mE] at h; split at h
    · simp only [Bool.and_eq_true, decide_eq_true_eq] at h
      obtain ⟨⟨⟨⟨⟨rfl, g1⟩, rfl⟩, g2⟩, h3⟩, h4⟩ := h
      refine PE.imp (pe_listRg D.calm (gl_of g1) (D.g.blt _ (by decide +kernel)) (prg_2 (gl_of g2) (D.g.blt _ (by decide +kernel)) (sE G k S0 H0 a D h3) (sE G k S0 H0 b D h4) (star_one h3 _ _) (star_one h4 _ _) (by rw [star_one h4]; rfl))) fun σ H Q ⟨ρ, S, cl, c, e0, q⟩ => ?_
      simp only [wE] at q
      refine ⟨ρ, S, cl, c, e0, wE_mono G _ a (fun v S1 q H1 x e1 c1 r => ?_) q⟩
      refine ⟨ρ, S1, cl.evo e1, c1, e0.trans e1, wE_mono G _ b (fun w S2 ⟨i, j, ev, ew, h1, h2, h3, q'⟩ H2 y e2 c2 r2 => ?_) q⟩
      subst ev; subst ew
      simp only [RepV] at r r2; subst r; subst r2
      refine ⟨i, j, rfl, rfl, ⟨h1.1, h1.2, h2.1, h2.2, h3⟩, fun p hp => ?_⟩
      rw [rgV_eq]
      exact fin.lstN c2 (fun p hp => (q' p hp).mono (e1.trans e2)) rep_rng hp
    · cases h
  | .lrev a, X, XP, D, e, h => by
    simp only [mE] at h; split at h
    · simp only [Bool.and_eq_true, decide_eq_true_eq] at h
      obtain ⟨⟨⟨⟨rfl, g1⟩, rfl⟩, g2⟩, h3⟩ := h
      refine PE.imp (pe_lstRevN D.calm (gl_of g1) (D.g.blt _ (by decide +kernel)) (gl_of g2) (D.g.blt _ (by decide +kernel)) (sE G k S0 H0 a D h3) (star_one h3 _ _)) fun σ H Q ⟨ρ, S, cl, c, e0, q⟩ => ?_
      simp only [wE] at q
      refine ⟨ρ, S, cl, c, e0, wE_mono G _ a (fun v S1 ⟨p, xs, ev, l, q⟩ H1 x e1 c1 r => ?_) q⟩
      subst ev
      simp only [RepV] at r; subst r
      obtain ⟨us, t, r⟩ := c1.rd l
      exact ⟨p, us, rfl, t, fun p hp => fin.lstN c1 (fun p hp => (q p hp).mono e1) r.reverse hp⟩
    · cases h
  | .trev a, X, XP, D, e, h => by
    simp only [mE] at h; split at h
    · simp only [Bool.and_eq_true, decide_eq_true_eq] at h
      obtain ⟨⟨⟨⟨rfl, g1⟩, rfl⟩, g2⟩, h3⟩ := h
      refine PE.imp (pe_tupRevN D.calm (gl_of g1) (D.g.blt _ (by decide +kernel)) (gl_of g2) (D.g.blt _ (by decide +kernel)) (sE G k S0 H0 a D h3) (star_one h3 _ _)) fun σ H Q ⟨ρ, S, cl, c, e0, q⟩ => ?_
      simp only [wE] at q
      refine ⟨ρ, S, cl, c, e0, wE_mono G _ a (fun v S1 ⟨p, xs, ev, l, q⟩ H1 x e1 c1 r => ?_) q⟩
      subst ev
      simp only [RepV] at r; subst r
      obtain ⟨us, t, r⟩ := c1.rd l
      exact ⟨p, us, rfl, t, fun p o hp ho => (q.mono e1).tupN c1 r.reverse hp ho⟩
    · cases h
  | .sset a, X, XP, D, e, h => by
    simp only [mE] at h; split at h
    · simp only [Bool.and_eq_true, decide_eq_true_eq] at h
      obtain ⟨⟨⟨⟨rfl, g1⟩, rfl⟩, g2⟩, h3⟩ := h
      refine PE.imp (pe_sortSet D.calm (gl_of g1) (D.g.blt _ (by decide +kernel)) (gl_of g2) (D.g.blt _ (by decide +kernel)) (sE G k S0 H0 a D h3) (star_one h3 _ _)) fun σ H Q ⟨ρ, S, cl, c, e0, q⟩ => ?_
      simp only [wE] at q
      refine ⟨ρ, S, cl, c, e0, wE_mono G _ a (fun v S1 ⟨ns, ev, hl, q⟩ H1 x e1 c1 r => ?_) q⟩
      subst ev
      simp only [RepV] at r
      obtain ⟨p, xs, rfl, t, r⟩ := r
      have := ints_reps ns r; subst this
      exact ⟨p, ns, rfl, t.sq, hl, fun ns' p h1 h2 hp => fin.lstN c1 (fun p hp => (q ns' h1 h2 p hp).mono e1) (reps_ints ns') hp⟩
    · cases h
  | .ssetL a, X, XP, D, e, h => by
    simp only [mE] at h; split at h
    · simp only [Bool.and_eq_true, decide_eq_true_eq] at h
      obtain ⟨⟨⟨⟨rfl, g1⟩, rfl⟩, g2⟩, h3⟩ := h
      refine PE.imp (pe_sortSetL D.calm (gl_of g1) (D.g.blt _ (by decide +kernel)) (gl_of g2) (D.g.blt _ (by decide +kernel)) (sE G k S0 H0 a D h3) (star_one h3 _ _)) fun σ H Q ⟨ρ, S, cl, c, e0, q⟩ => ?_
      simp only [wE] at q
      refine ⟨ρ, S, cl, c, e0, wE_mono G _ a (fun v S1 ⟨r0, ns, ev, l, hl, q⟩ H1 x e1 c1 r => ?_) q⟩
      subst ev
      simp only [RepV] at r; subst r
      obtain ⟨us, t, r⟩ := c1.rd l
      have := ints_reps ns r; subst this
      exact ⟨r0, ns, rfl, t, hl, fun ns' p h1 h2 hp => fin.lstN c1 (fun p hp => (q ns' h1 h2 p hp).mono e1) (reps_ints ns') hp⟩
    · cases h
  | .trevT a, X, XP, D, e, h => by
    simp only [mE] at h; split at h
    · simp only [Bool.and_eq_true, decide_eq_true_eq] at h
      obtain ⟨⟨⟨⟨rfl, g1⟩, rfl⟩, g2⟩, h3⟩ := h
      refine PE.imp (pe_tupRevT D.calm (gl_of g1) (D.g.blt _ (by decide +kernel)) (gl_of g2) (D.g.blt _ (by decide +kernel)) (sE G k S0 H0 a D h3) (star_one h3 _ _)) fun σ H Q ⟨ρ, S, cl, c, e0, q⟩ => ?_
      simp only [wE] at q
      refine ⟨ρ, S, cl, c, e0, wE_mono G _ a (fun v S1 ⟨xs, ev, q⟩ H1 x e1 c1 r => ?_) q⟩
      subst ev
      simp only [RepV] at r
      obtain ⟨p, us, rfl, t, r⟩ := r
      exact ⟨p, us, rfl, t.sq, fun p o hp ho => (q.mono e1).tupN c1 r.reverse hp ho⟩
    · cases h
  | .dix d i, X, XP, D, e, h => by
    simp only [mE] at h; split at h
    · simp only [Bool.and_eq_true] at h
      refine PE.imp (pe_dget (by have := D.room.un; omega) (sE G k S0 H0 d D h.1) (sE G k S0 H0 i D h.2) (fun ov iv => plainIx_of h.2 ov iv)) fun σ H Q ⟨ρ, S, cl, c, e0, q⟩ => ?_
      simp only [wE] at q
      refine ⟨ρ, S, cl, c, e0, wE_mono G _ d (fun v S1 q H1 x e1 c1 r => ?_) q⟩
      refine ⟨ρ, S1, cl.evo e1, c1, e0.trans e1, wE_mono G _ i (fun w S2 ⟨a, z, ev, dg, q'⟩ H2 y e2 c2 r2 => ?_) q⟩
      subst ev
      simp only [RepV] at r; subst r
      obtain ⟨ro, g, zz, rfl, rz⟩ := c2.dget dg r2
      exact ⟨a, zz, rfl, g, (q'.mono (e1.trans e2)) H2 zz .refl c2 rz⟩
    · cases h
  | .dg1 d i, X, XP, D, e, h => by
    simp only [mE] at h; split at h
    · simp only [Bool.and_eq_true, decide_eq_true_eq] at h
      obtain ⟨⟨⟨⟨rfl, h2⟩, h3⟩, h4⟩, h5⟩ := h
      refine PE.imp (pe_dget1 (by have := D.room.un; omega) (sE G k S0 H0 d D h4) (sE G k S0 H0 i D h5) (m1_of h2 h3 h5)) fun σ H Q ⟨ρ, S, cl, c, e0, q⟩ => ?_
      simp only [wE] at q
      refine ⟨ρ, S, cl, c, e0, wE_mono G _ d (fun v S1 ⟨a, ev, is, q⟩ H1 x e1 c1 r => ?_) q⟩
      subst ev
      simp only [RepV] at r; subst r
      refine ⟨a, rfl, c1.isD is, ρ, S1, cl.evo e1, c1, e0.trans e1, wE_mono G _ i (fun w S2 ⟨o, dg, q⟩ H2 y e2 c2 r2 => ?_) q⟩
      obtain ⟨ro, g, ho⟩ := c2.dget dg r2
      refine ⟨ro, g, q H2 _ (e1.trans e2) c2 ?_⟩
      cases o with
      | none => rw [show ro = none from ho]; simp only [Option.getD, RepV]
      | some w => obtain ⟨z, rfl, rz⟩ := ho; exact rz
    · cases h
  | .dg2 d i u, X, XP, D, e, h => by
    simp only [mE] at h; split at h
    · simp only [Bool.and_eq_true, decide_eq_true_eq] at h
      obtain ⟨⟨⟨⟨⟨rfl, h2⟩, h3⟩, h4⟩, h5⟩, h6⟩ := h
      refine PE.imp (pe_dget2 (by have := D.room.un; omega) (sE G k S0 H0 d D h4) (sE G k S0 H0 i D h5) (sE G k S0 H0 u D h6) (m2_of h2 h3 h5 h6)) fun σ H Q ⟨ρ, S, cl, c, e0, q⟩ => ?_
      simp only [wE] at q
      refine ⟨ρ, S, cl, c, e0, wE_mono G _ d (fun v S1 ⟨a, ev, is, q⟩ H1 x e1 c1 r => ?_) q⟩
      subst ev
      simp only [RepV] at r; subst r
      refine ⟨a, rfl, c1.isD is, ρ, S1, cl.evo e1, c1, e0.trans e1, wE_mono G _ i (fun w S2 q H2 y e2 c2 r2 => ?_) q⟩
      refine ⟨ρ, S2, (cl.evo e1).evo e2, c2, (e0.trans e1).trans e2, wE_mono G _ u (fun w' S3 ⟨o, dg, q⟩ H3 y' e3 c3 r3 => ?_) q⟩
      obtain ⟨ro, g, ho⟩ := c3.dget dg (r2.evo e3)
      refine ⟨ro, g, q H3 _ ((e1.trans e2).trans e3) c3 ?_⟩
      cases o with
      | none => rw [show ro = none from ho]; exact r3
      | some w => obtain ⟨z, rfl, rz⟩ := ho; exact rz
    · cases h
  | .dsd d i u, X, XP, D, e, h => by
    simp only [mE] at h; split at h
    · simp only [Bool.and_eq_true, decide_eq_true_eq] at h
      obtain ⟨⟨⟨⟨⟨rfl, h2⟩, h3⟩, h4⟩, h5⟩, h6⟩ := h
      refine PE.imp (pe_dsetd (sE G k S0 H0 d D h4) (sE G k S0 H0 i D h5) (sE G k S0 H0 u D h6) (m2_of h2 h3 h5 h6)) fun σ H Q ⟨ρ, S, cl, c, e0, q⟩ => ?_
      simp only [wE] at q
      refine ⟨ρ, S, cl, c, e0, wE_mono G _ d (fun v S1 ⟨a, ev, is, q⟩ H1 x e1 c1 r => ?_) q⟩
      subst ev
      simp only [RepV] at r; subst r
      refine ⟨a, rfl, c1.isD is, ρ, S1, cl.evo e1, c1, e0.trans e1, wE_mono G _ i (fun w S2 q H2 y e2 c2 r2 => ?_) q⟩
      refine ⟨ρ, S2, (cl.evo e1).evo e2, c2, (e0.trans e1).trans e2, wE_mono G _ u (fun w' S3 ⟨kvs, key, hs, ek, hl, q1, q2⟩ H3 y' e3 c3 r3 => ?_) q⟩
      subst ek
      have := kval_rep (r2.evo e3); subst this
      have hd := c3 a _ hs
      simp only [RepA] at hd
      obtain ⟨us, eu, rk⟩ := hd
      have hv := rk.val key
      have e13 := (e1.trans e2).trans e3
      refine ⟨us, key, eu, rfl, by rw [rk.length']; exact hl, fun v hvv => ?_, fun hn => ?_⟩
      · cases ho : vlK kvs key with
        | none => rw [ho] at hv; rw [show valV us key = none from hv] at hvv; cases hvv
        | some w =>
          rw [ho] at hv
          obtain ⟨z, ez, rz⟩ := hv
          rw [hvv] at ez; cases ez
          exact q1 w ho H3 _ e13 c3 rz
      · cases ho : vlK kvs key with
        | none =>
          have ev2 : Evo S3 H3 (S3.upd a (.dK (ptK kvs key w'))) (upd H3 a (.dK (putK us key y'))) := .chg hs eu trivial
          refine q2 ho _ _ (e13.trans ev2) (c3.chg hs eu trivial ?_) (r3.evo ev2)
          simp only [RepA]
          exact ⟨_, upd_same, (rk.putK' r3).evo' (chg_tup eu trivial) (chg_frz eu trivial)⟩
        | some w =>
          rw [ho] at hv
          obtain ⟨z, ez, rz⟩ := hv
          rw [hn] at ez; cases ez
    · cases h
  | .dpop d i, X, XP, D, e, h => by
    simp only [mE] at h; split at h
    · simp only [Bool.and_eq_true, decide_eq_true_eq] at h
      obtain ⟨⟨⟨⟨rfl, h2⟩, h3⟩, h4⟩, h5⟩ := h
      refine PE.imp (pe_dpop1 (sE G k S0 H0 d D h4) (sE G k S0 H0 i D h5) (m1_of h2 h3 h5)) fun σ H Q ⟨ρ, S, cl, c, e0, q⟩ => ?_
      simp only [wE] at q
      refine ⟨ρ, S, cl, c, e0, wE_mono G _ d (fun v S1 ⟨a, ev, is, q⟩ H1 x e1 c1 r => ?_) q⟩
      subst ev
      simp only [RepV] at r; subst r
      refine ⟨a, rfl, c1.isD is, ρ, S1, cl.evo e1, c1, e0.trans e1, wE_mono G _ i (fun w S2 ⟨kvs, key, z, hs, ek, hz, q⟩ H2 y e2 c2 r2 => ?_) q⟩
      subst ek
      have := kval_rep r2; subst this
      have hd := c2 a _ hs
      simp only [RepA] at hd
      obtain ⟨us, eu, rk⟩ := hd
      have hv := rk.val key
      rw [hz] at hv
      obtain ⟨zz, ez, rz⟩ := hv
      have ev2 : Evo S2 H2 (S2.upd a (.dK (drK kvs key))) (upd H2 a (.dK (dropK us key))) := .chg hs eu trivial
      refine ⟨us, key, zz, eu, rfl, ez, q _ _ ((e1.trans e2).trans ev2) (c2.chg hs eu trivial ?_) (rz.evo ev2)⟩
      simp only [RepA]
      exact ⟨_, upd_same, rk.dropK'.evo' (chg_tup eu trivial) (chg_frz eu trivial)⟩
    · cases h
  | .din n i d, X, XP, D, e, h => by
    simp only [mE] at h; split at h
    · simp only [Bool.and_eq_true, decide_eq_true_eq, Bool.not_eq_true'] at h
      obtain ⟨⟨⟨rfl, h2⟩, h3⟩, h4⟩ := h
      refine PE.imp (pe_cmp (pc_dinM n (by have := D.room.un; omega) (sE G k S0 H0 i D h2) (sE G k S0 H0 d D h3)) h4) fun σ H Q ⟨ρ, S, cl, c, e0, q⟩ => ?_
      simp only [wE] at q
      refine ⟨ρ, S, cl, c, e0, wE_mono G _ i (fun w S1 q H1 x e1 c1 r => ?_) q⟩
      refine ⟨ρ, S1, cl.evo e1, c1, e0.trans e1, wE_mono G _ d (fun v S2 ⟨a, o, ev, dg, q⟩ H2 y e2 c2 r2 => ?_) q⟩
      subst ev
      simp only [RepV] at r2; subst r2
      obtain ⟨ro, g, ho⟩ := c2.dget dg (r.evo e2)
      exact ⟨a, ro, rfl, g, by rw [ho.some_eq]; exact (q.mono (e1.trans e2)).bl c2⟩
    · cases h
  | .lockE a, X, XP, D, e, h => by
    simp only [mE] at h; split at h
    · rename_i b g s p
      have key : PE X (.ListComp b g s p) (fun σ H Q => ∃ S0 H0, lE X.K S0 H0 (fun ρ S Q => wE G M.noX a ρ S Q) σ H Q) := ⟨fun pins s σ H Q I ⟨S0, H0, q⟩ => (sE G k S0 H0 a (D.noX.start S0 H0) h).run pins s σ H Q I q⟩
      refine PE.imp (pe_lock key) fun σ H Q ⟨ρ, S, cl, c, e0, q⟩ => ?_
      simp only [wE] at q
      obtain ⟨d, ⟨kvs, hs, q⟩ | ⟨kvs, hs, q⟩⟩ := q
      · have hd := c d _ hs
        simp only [RepA] at hd
        obtain ⟨us, eu, rk⟩ := hd
        refine ⟨d, _, eu, trivial, fun od => ⟨S.upd d (.fK kvs), _, ρ, S.upd d (.fK kvs), cl.evo (.lockO (o' := .fK kvs) hs eu trivial), c.lockK hs eu rk, .refl, wE_mono G _ a (fun v S1 ⟨hs1, q⟩ H1 x e1 c1 r1 => ?_) q⟩⟩
        have hf : H1 d = some (.frz od (.dK us)) := e1.frz _ _ _ upd_same
        exact ⟨hf, q _ _ (.unlockO hs eu trivial e1) (c1.unlockK hs1 hf) (.unfrz hf trivial (fun _ z => by cases z) _ r1)⟩
      · have hd := c d _ hs
        simp only [RepA] at hd
        obtain ⟨us, eu, rk⟩ := hd
        refine ⟨d, _, eu, trivial, fun od => ⟨S.upd d (.fT kvs), _, ρ, S.upd d (.fT kvs), cl.evo (.lockO (o' := .fT kvs) hs eu trivial), c.lockT hs eu rk, .refl, wE_mono G _ a (fun v S1 ⟨hs1, q⟩ H1 x e1 c1 r1 => ?_) q⟩⟩
        have hf : H1 d = some (.frz od (.dT us)) := e1.frz _ _ _ upd_same
        exact ⟨hf, q _ _ (.unlockO hs eu trivial e1) (c1.unlockT hs1 hf) (.unfrz hf trivial (fun _ z => by cases z) _ r1)⟩
    · cases h
theorem sEs (G : Gam) (k : Nat) (S0 : Sto) (H0 : Hp) : ∀ (ms : List E) {X : Cx} {XP : XLoc} (D : Sd X G k S0 H0 XP) {es : List Expr}, mEs X.N X.env.scope ms es = true → PA X es (lA X.K S0 H0 fun ρ S Q => wEs G (fun c S' => XP c ρ S') ms ρ S Q)
  | [], X, XP, D, es, h => by
    simp only [mEs] at h; split at h
    · refine PA.imp pa_nil fun σ H Q ⟨ρ, S, cl, c, e0, q⟩ => ?_
      simp only [wEs] at q
      exact q H [] .refl c .nil
    · cases h
  | m :: ms, X, XP, D, es, h => by
    simp only [mEs] at h; split at h
    · simp only [Bool.and_eq_true] at h
      refine PA.imp (pa_cons (sE G k S0 H0 m D h.1) (sEs G k S0 H0 ms D h.2) (star_one h.1 _ _)) fun σ H Q ⟨ρ, S, cl, c, e0, q⟩ => ?_
      simp only [wEs] at q
      refine ⟨ρ, S, cl, c, e0, wE_mono G _ m (fun v S1 q H1 x e1 c1 r1 => ?_) q⟩
      exact ⟨ρ, S1, cl.evo e1, c1, e0.trans e1, wEs_mono G _ ms (fun vs S2 q H2 xs e2 c2 r2 => q H2 _ (e1.trans e2) c2 (.cons (r1.evo e2) r2)) q⟩
    · cases h
theorem sAndV (G : Gam) (k : Nat) (S0 : Sto) (H0 : Hp) : ∀ (ms : List E) {X : Cx} {XP : XLoc} (D : Sd X G k S0 H0 XP) {es : List Expr} {pos : Pos}, mEs X.N X.env.scope ms es = true → ms ≠ [] → PE X (.BoolOp .And es pos) (lE X.K S0 H0 fun ρ S Q => wAndV G (fun c S' => XP c ρ S') ms ρ S Q)
  | [], _, _, _, _, _, _, h => absurd rfl h
  | [m], X, XP, D, es, pos, h, _ => by
    simp only [mEs] at h; split at h
    · simp only [Bool.and_eq_true] at h
      rename_i e es _
      have h2 := h.2
      split at h2
      · refine PE.imp (pe_one (sE G k S0 H0 m D h.1)) fun σ H Q ⟨ρ, S, cl, c, e0, q⟩ => ?_
        simp only [wAndV, List.isEmpty_nil, if_true] at q
        exact ⟨ρ, S, cl, c, e0, q⟩
      · cases h2
    · cases h
  | m :: m' :: ms, X, XP, D, es, pos, h, _ => by
    simp only [mEs] at h; split at h
    · simp only [Bool.and_eq_true] at h
      rename_i e es _
      obtain ⟨h1, h2⟩ := h
      split at h2
      · rename_i e' es'
        have h2' : mEs X.N X.env.scope (m' :: ms) (e' :: es') = true := by simp only [mEs]; exact h2
        refine PE.imp (pe_and (sE G k S0 H0 m D h1) (sAndV G k S0 H0 (m' :: ms) D h2' (by simp))) fun σ H Q ⟨ρ, S, cl, c, e0, q⟩ => ?_
        replace q : wAndV G (fun c S' => XP c ρ S') (m :: m' :: ms) ρ S (fin X.K S H Q) := q
        rw [wAndV] at q
        refine ⟨ρ, S, cl, c, e0, wE_mono G _ m (fun v S1 q H1 x e1 c1 r => ?_) q⟩
        simp only [List.isEmpty_cons, Bool.false_eq_true, if_false] at q
        obtain ⟨b, e, q⟩ := q
        subst e
        simp only [RepV] at r; subst r
        refine ⟨b, rfl, ?_⟩
        cases b with
        | true => simp only [if_true] at q ⊢; exact ⟨ρ, S1, cl.evo e1, c1, e0.trans e1, wAndV_mono G _ (m' :: ms) (fun v S2 q => q.mono e1) q⟩
        | false => simp only [Bool.false_eq_true, if_false] at q ⊢; exact (q.mono e1).bl c1
      · cases h2
    · cases h
theorem sOrV (G : Gam) (k : Nat) (S0 : Sto) (H0 : Hp) : ∀ (ms : List E) {X : Cx} {XP : XLoc} (D : Sd X G k S0 H0 XP) {es : List Expr} {pos : Pos}, mEs X.N X.env.scope ms es = true → ms ≠ [] → PE X (.BoolOp .Or es pos) (lE X.K S0 H0 fun ρ S Q => wOrV G (fun c S' => XP c ρ S') ms ρ S Q)
  | [], _, _, _, _, _, _, h => absurd rfl h
  | [m], X, XP, D, es, pos, h, _ => by
    simp only [mEs] at h; split at h
    · simp only [Bool.and_eq_true] at h
      rename_i e es _
      have h2 := h.2
      split at h2
      · refine PE.imp (pe_one (sE G k S0 H0 m D h.1)) fun σ H Q ⟨ρ, S, cl, c, e0, q⟩ => ?_
        simp only [wOrV, List.isEmpty_nil, if_true] at q
        exact ⟨ρ, S, cl, c, e0, q⟩
      · cases h2
    · cases h
  | m :: m' :: ms, X, XP, D, es, pos, h, _ => by
    simp only [mEs] at h; split at h
    · simp only [Bool.and_eq_true] at h
      rename_i e es _
      obtain ⟨h1, h2⟩ := h
      split at h2
      · rename_i e' es'
        have h2' : mEs X.N X.env.scope (m' :: ms) (e' :: es') = true := by simp only [mEs]; exact h2
        refine PE.imp (pe_or (sE G k S0 H0 m D h1) (sOrV G k S0 H0 (m' :: ms) D h2' (by simp))) fun σ H Q ⟨ρ, S, cl, c, e0, q⟩ => ?_
        replace q : wOrV G (fun c S' => XP c ρ S') (m :: m' :: ms) ρ S (fin X.K S H Q) := q
        rw [wOrV] at q
        refine ⟨ρ, S, cl, c, e0, wE_mono G _ m (fun v S1 q H1 x e1 c1 r => ?_) q⟩
        simp only [List.isEmpty_cons, Bool.false_eq_true, if_false] at q
        obtain ⟨b, e, q⟩ := q
        subst e
        simp only [RepV] at r; subst r
        refine ⟨b, rfl, ?_⟩
        cases b with
        | false => simp only [Bool.false_eq_true, if_false] at q ⊢; exact ⟨ρ, S1, cl.evo e1, c1, e0.trans e1, wOrV_mono G _ (m' :: ms) (fun v S2 q => q.mono e1) q⟩
        | true => simp only [if_true] at q ⊢; exact (q.mono e1).bl c1
      · cases h2
    · cases h
theorem sB (G : Gam) (k : Nat) (S0 : Sto) (H0 : Hp) : ∀ (m : B) {X : Cx} {XP : XLoc} (D : Sd X G k S0 H0 XP) {e : Expr}, mB X.N X.env.scope m e = true → PT X e (lB X.K S0 H0 fun ρ S Q => wB G (fun c S' => XP c ρ S') m ρ S Q)
  | .val a, X, XP, D, e, h => by
    obtain ⟨h1, h2⟩ := truth_of (env := X.env) h
    have pa := sE G k S0 H0 a D h1
    refine ⟨fun pins s σ H Q I ⟨ρ, S, cl, c, e0, q⟩ => ?_⟩
    simp only [wB] at q
    rw [h2]
    have run := pa.run pins s σ H (fun x H1 => ∃ v S1, RepV X.K H1 v x ∧ Cor X.K S1 H1 ∧ wTru v S1 (fun b S' => ∀ H', Evo S1 H1 S' H' → Cor X.K S' H' → Q b H')) I
      ⟨ρ, S, cl, c, e0, wE_mono G _ a (fun v S1 q H1 x e1 c1 r1 => ⟨v, S1, r1, c1, wTru_mono (fun b S2 q H2 e2 c2 => q H2 (e1.trans e2) c2) _ _ q⟩) q⟩
    refine PySem.wpAny_bind (thn run fun v s1 ⟨x, H1, I1, r1, q1⟩ => ?_)
    exact PySem.wpAny_bind (PySem.wpAny_standAt (PySem.wpAny_holding (tru_snd pins s1 σ H1 x v Q I1 r1 q1)))
  | .cmp op a b, X, XP, D, e, h => by
    simp only [mB] at h; split at h
    · simp only [Bool.and_eq_true, decide_eq_true_eq, Bool.not_eq_true'] at h
      obtain ⟨⟨⟨rfl, h2⟩, h3⟩, h4⟩ := h
      refine PT.imp (pt_cmpR (cmp_snd (by have := D.room.un; omega) op) (sE G k S0 H0 a D h2) (sE G k S0 H0 b D h3) h4) fun σ H Q ⟨ρ, S, cl, c, e0, q⟩ => ?_
      simp only [wB] at q
      refine ⟨ρ, S, cl, c, e0, wE_mono G _ a (fun v S1 q H1 x e1 c1 r1 => ?_) q⟩
      refine ⟨ρ, S1, cl.evo e1, c1, e0.trans e1, wE_mono G _ b (fun w S2 q H2 y e2 c2 r2 => ?_) q⟩
      refine ⟨v, w, S2, r1.evo e2, r2, c2, wCmp_mono (fun r S3 ⟨kk, e, q⟩ H3 z e3 c3 r3 => ?_) _ _ _ _ q⟩
      subst e
      simp only [RepV] at r3; subst r3
      exact ⟨kk, rfl, q H3 ((e1.trans e2).trans e3) c3⟩
    · cases h
  | .chain o1 o2 a b c, X, XP, D, e, h => by
    simp only [mB] at h; split at h
    · simp only [Bool.and_eq_true, decide_eq_true_eq, Bool.not_eq_true'] at h
      obtain ⟨⟨⟨⟨⟨⟨rfl, rfl⟩, h2⟩, h3⟩, h5⟩, h4⟩, h6⟩ := h
      have hu : X.A.units + 65 < cLine := by have := D.room.un; omega
      refine PT.imp (pt_chain (cmp_snd hu o1) (cmp_snd hu o2) (sE G k S0 H0 a D h2) (sE G k S0 H0 b D h3) (sE G k S0 H0 c D h5) (by simp only [lastMarks]; exact h6)) fun σ H Q ⟨ρ, S, cl, cc, e0, q⟩ => ?_
      simp only [wB] at q
      refine ⟨ρ, S, cl, cc, e0, wE_mono G _ a (fun v S1 q H1 x e1 c1 r1 => ?_) q⟩
      refine ⟨ρ, S1, cl.evo e1, c1, e0.trans e1, wE_mono G _ b (fun w S2 q H2 y e2 c2 r2 => ?_) q⟩
      refine ⟨v, w, S2, r1.evo e2, r2, c2, wCmp_mono (fun z S3 ⟨kk, e, q⟩ H3 zz e3 c3 r3 => ?_) _ _ _ _ q⟩
      subst e
      simp only [RepV] at r3; subst r3
      refine ⟨kk, rfl, ?_⟩
      have e03 := (e1.trans e2).trans e3
      cases kk with
      | true =>
        simp only [if_true] at q ⊢
        refine ⟨ρ, S3, cl.evo e03, c3, e0.trans e03, wE_mono G _ _ (fun u S4 q H4 uu e4 c4 r4 => ?_) q⟩
        refine ⟨w, u, S4, (r2.evo e3).evo e4, r4, c4, wCmp_mono (fun r S5 ⟨k2, e, q⟩ H5 z5 e5 c5 r5 => ?_) _ _ _ _ q⟩
        subst e
        simp only [RepV] at r5; subst r5
        exact ⟨k2, rfl, q H5 ((e03.trans e4).trans e5) c5⟩
      | false =>
        simp only [Bool.false_eq_true, if_false] at q ⊢
        exact ⟨false, rfl, q H3 e03 c3⟩
    · cases h
  | .chain3 o1 o2 o3 a b c d, X, XP, D, e, h => by
    simp only [mB] at h; split at h
    · simp only [Bool.and_eq_true, decide_eq_true_eq, Bool.not_eq_true'] at h
      obtain ⟨⟨⟨⟨⟨⟨⟨rfl, rfl⟩, rfl⟩, h2⟩, h3⟩, h4⟩, h5⟩, h6⟩ := h
      have hu : X.A.units + 65 < cLine := by have := D.room.un; omega
      refine PT.imp (pt_chain3 (cmp_snd hu o1) (cmp_snd hu o2) (cmp_snd hu o3) (sE G k S0 H0 a D h2) (sE G k S0 H0 b D h3) (sE G k S0 H0 c D h4) (sE G k S0 H0 d D h5) h6) fun σ H Q ⟨ρ, S, cl, cc, e0, q⟩ => ?_
      simp only [wB] at q
      refine ⟨ρ, S, cl, cc, e0, wE_mono G _ a (fun v S1 q H1 x e1 c1 r1 => ?_) q⟩
      refine ⟨ρ, S1, cl.evo e1, c1, e0.trans e1, wE_mono G _ b (fun w S2 q H2 y e2 c2 r2 => ?_) q⟩
      refine ⟨v, w, S2, r1.evo e2, r2, c2, wCmp_mono (fun z S3 ⟨kk, e, q⟩ H3 zz e3 c3 r3 => ?_) _ _ _ _ q⟩
      subst e
      simp only [RepV] at r3; subst r3
      refine ⟨kk, rfl, ?_⟩
      have e03 := (e1.trans e2).trans e3
      cases kk with
      | true =>
        simp only [if_true] at q ⊢
        refine ⟨ρ, S3, cl.evo e03, c3, e0.trans e03, wE_mono G _ _ (fun u S4 q H4 uu e4 c4 r4 => ?_) q⟩
        refine ⟨w, u, S4, (r2.evo e3).evo e4, r4, c4, wCmp_mono (fun r S5 ⟨k2, e, q⟩ H5 z5 e5 c5 r5 => ?_) _ _ _ _ q⟩
        subst e
        simp only [RepV] at r5; subst r5
        refine ⟨k2, rfl, ?_⟩
        have e05 := (e03.trans e4).trans e5
        cases k2 with
        | true =>
          simp only [if_true] at q ⊢
          refine ⟨ρ, S5, cl.evo e05, c5, e0.trans e05, wE_mono G _ _ (fun u2 S6 q H6 uu2 e6 c6 r6 => ?_) q⟩
          refine ⟨u, u2, S6, (r4.evo e5).evo e6, r6, c6, wCmp_mono (fun r S7 ⟨k3, e, q⟩ H7 z7 e7 c7 r7 => ?_) _ _ _ _ q⟩
          subst e
          simp only [RepV] at r7; subst r7
          exact ⟨k3, rfl, q H7 ((e05.trans e6).trans e7) c7⟩
        | false =>
          simp only [Bool.false_eq_true, if_false] at q ⊢
          exact q H5 e05 c5
      | false =>
        simp only [Bool.false_eq_true, if_false] at q ⊢
        exact q H3 e03 c3
    · cases h
  | .not b, X, XP, D, e, h => by
    simp only [mB] at h; split at h
    · refine PT.imp (pt_not (sB G k S0 H0 b D h)) fun σ H Q ⟨ρ, S, cl, c, e0, q⟩ => ?_
      simp only [wB] at q
      exact ⟨ρ, S, cl, c, e0, q⟩
    · cases h
  | .din n i d, X, XP, D, e, h => by
    simp only [mB] at h; split at h
    · simp only [Bool.and_eq_true, decide_eq_true_eq, Bool.not_eq_true'] at h
      obtain ⟨⟨⟨rfl, h2⟩, h3⟩, h4⟩ := h
      refine PT.imp (pt_cmp (pc_dinM n (by have := D.room.un; omega) (sE G k S0 H0 i D h2) (sE G k S0 H0 d D h3)) h4) fun σ H Q ⟨ρ, S, cl, c, e0, q⟩ => ?_
      simp only [wB] at q
      refine ⟨ρ, S, cl, c, e0, wE_mono G _ i (fun w S1 q H1 x e1 c1 r => ?_) q⟩
      refine ⟨ρ, S1, cl.evo e1, c1, e0.trans e1, wE_mono G _ d (fun v S2 ⟨a, o, ev, dg, q⟩ H2 y e2 c2 r2 => ?_) q⟩
      subst ev
      simp only [RepV] at r2; subst r2
      obtain ⟨ro, g, ho⟩ := c2.dget dg (r.evo e2)
      exact ⟨a, ro, rfl, g, _, rfl, by rw [ho.some_eq]; exact q H2 (e1.trans e2) c2⟩
    · cases h
  | .and bs, X, XP, D, e, h => by
    simp only [mB] at h; split at h
    · simp only [Bool.and_eq_true] at h
      refine PT.imp (PW.pt (sAnd G k S0 H0 bs D h.1 (by simpa using h.2))) fun σ H Q q => ?_
      simp only [wB] at q; exact q
    · cases h
  | .or bs, X, XP, D, e, h => by
    simp only [mB] at h; split at h
    · simp only [Bool.and_eq_true] at h
      refine PT.imp (PW.pt (sOr G k S0 H0 bs D h.1 (by simpa using h.2))) fun σ H Q q => ?_
      simp only [wB] at q; exact q
    · cases h
theorem sAnd (G : Gam) (k : Nat) (S0 : Sto) (H0 : Hp) : ∀ (ms : List B) {X : Cx} {XP : XLoc} (D : Sd X G k S0 H0 XP) {es : List Expr} {pos : Pos}, mBs X.N X.env.scope ms es = true → ms ≠ [] → PW X (.BoolOp .And es pos) (lB X.K S0 H0 fun ρ S Q => wAnd G (fun c S' => XP c ρ S') ms ρ S Q)
  | [], _, _, _, _, _, _, h => absurd rfl h
  | [m], X, XP, D, es, pos, h, _ => by
    simp only [mBs] at h; split at h
    · simp only [Bool.and_eq_true] at h
      have h2 := h.2
      split at h2
      · refine PW.imp (pw_and1 (sB G k S0 H0 m D h.1)) fun σ H Q ⟨ρ, S, cl, c, e0, q⟩ => ?_
        simp only [wAnd] at q
        refine ⟨ρ, S, cl, c, e0, wB_mono G _ m (fun b S1 q => ?_) q⟩
        cases b with
        | true => simpa using q
        | false => simpa using q
      · cases h2
    · cases h
  | m :: m' :: ms, X, XP, D, es, pos, h, _ => by
    simp only [mBs] at h; split at h
    · simp only [Bool.and_eq_true] at h
      obtain ⟨h1, h2⟩ := h
      split at h2
      · rename_i e' es'
        have h2' : mBs X.N X.env.scope (m' :: ms) (e' :: es') = true := by simp only [mBs]; exact h2
        refine PW.imp (pw_and (sB G k S0 H0 m D h1) (sAnd G k S0 H0 (m' :: ms) D h2' (by simp))) fun σ H Q ⟨ρ, S, cl, c, e0, q⟩ => ?_
        replace q : wAnd G (fun c S' => XP c ρ S') (m :: m' :: ms) ρ S (fun b S' => ∀ H', Evo S H S' H' → Cor X.K S' H' → Q b H') := q
        rw [wAnd] at q
        refine ⟨ρ, S, cl, c, e0, wB_mono G _ m (fun b S1 q H1 e1 c1 => ?_) q⟩
        cases b with
        | true => simp only [if_true] at q ⊢; exact ⟨ρ, S1, cl.evo e1, c1, e0.trans e1, wAnd_mono G _ (m' :: ms) (fun v S2 q H2 e2 c2 => q H2 (e1.trans e2) c2) q⟩
        | false => simp only [Bool.false_eq_true, if_false] at q ⊢; exact q H1 e1 c1
      · cases h2
    · cases h
theorem sOr (G : Gam) (k : Nat) (S0 : Sto) (H0 : Hp) : ∀ (ms : List B) {X : Cx} {XP : XLoc} (D : Sd X G k S0 H0 XP) {es : List Expr} {pos : Pos}, mBs X.N X.env.scope ms es = true → ms ≠ [] → PW X (.BoolOp .Or es pos) (lB X.K S0 H0 fun ρ S Q => wOr G (fun c S' => XP c ρ S') ms ρ S Q)
  | [], _, _, _, _, _, _, h => absurd rfl h
  | [m], X, XP, D, es, pos, h, _ => by
    simp only [mBs] at h; split at h
    · simp only [Bool.and_eq_true] at h
      have h2 := h.2
      split at h2
      · refine PW.imp (pw_or1 (sB G k S0 H0 m D h.1)) fun σ H Q ⟨ρ, S, cl, c, e0, q⟩ => ?_
        simp only [wOr] at q
        refine ⟨ρ, S, cl, c, e0, wB_mono G _ m (fun b S1 q => ?_) q⟩
        cases b with
        | true => simpa using q
        | false => simpa using q
      · cases h2
    · cases h
  | m :: m' :: ms, X, XP, D, es, pos, h, _ => by
    simp only [mBs] at h; split at h
    · simp only [Bool.and_eq_true] at h
      obtain ⟨h1, h2⟩ := h
      split at h2
      · rename_i e' es'
        have h2' : mBs X.N X.env.scope (m' :: ms) (e' :: es') = true := by simp only [mBs]; exact h2
        refine PW.imp (pw_or (sB G k S0 H0 m D h1) (sOr G k S0 H0 (m' :: ms) D h2' (by simp))) fun σ H Q ⟨ρ, S, cl, c, e0, q⟩ => ?_
        replace q : wOr G (fun c S' => XP c ρ S') (m :: m' :: ms) ρ S (fun b S' => ∀ H', Evo S H S' H' → Cor X.K S' H' → Q b H') := q
        rw [wOr] at q
        refine ⟨ρ, S, cl, c, e0, wB_mono G _ m (fun b S1 q H1 e1 c1 => ?_) q⟩
        cases b with
        | false => simp only [Bool.false_eq_true, if_false] at q ⊢; exact ⟨ρ, S1, cl.evo e1, c1, e0.trans e1, wOr_mono G _ (m' :: ms) (fun v S2 q H2 e2 c2 => q H2 (e1.trans e2) c2) q⟩
        | true => simp only [if_true] at q ⊢; exact q H1 e1 c1
      · cases h2
    · cases h
theorem sBs (G : Gam) (k : Nat) (S0 : Sto) (H0 : Hp) : ∀ (ms : List B) {X : Cx} {XP : XLoc} (D : Sd X G k S0 H0 XP) {es : List Expr}, mBs X.N X.env.scope ms es = true → ms.length ≤ 1 → PTs X es (lB X.K S0 H0 fun ρ S Q => wBs G (fun c S' => XP c ρ S') ms ρ S Q)
  | [], X, XP, D, es, h, _ => by
    simp only [mBs] at h; split at h
    · refine PTs.imp pts_nil fun σ H Q ⟨ρ, S, cl, c, e0, q⟩ => ?_
      simp only [wBs] at q
      exact q H .refl c
    · cases h
  | [m], X, XP, D, es, h, _ => by
    simp only [mBs] at h; split at h
    · simp only [Bool.and_eq_true] at h
      have h2 := h.2
      split at h2
      · refine PTs.imp (pts_one (sB G k S0 H0 m D h.1)) fun σ H Q ⟨ρ, S, cl, c, e0, q⟩ => ?_
        simp only [wBs] at q
        refine ⟨ρ, S, cl, c, e0, wB_mono G _ m (fun b S1 q => ?_) q⟩
        cases b with
        | true => simpa using q
        | false => simpa using q
      · cases h2
    · cases h
  | _ :: _ :: _, _, _, _, _, _, h => absurd h (by simp)
theorem sP (G : Gam) (k : Nat) (S0 : Sto) (H0 : Hp) : ∀ (m : P) {X : Cx} {XP : XLoc} (D : Sd X G k S0 H0 XP) {e : Option Expr}, mP X.N X.env.scope m e = true → PO X e (lP X.K S0 H0 fun ρ S Q => wP G (fun c S' => XP c ρ S') m ρ S Q)
  | .no, X, XP, D, e, h => by
    simp only [mP] at h; split at h
    · refine PO.imp po_none fun σ H Q ⟨ρ, S, cl, c, e0, q⟩ => ?_
      simp only [wP] at q
      exact q H .refl c
    · cases h
  | .at a, X, XP, D, e, h => by
    simp only [mP] at h; split at h
    · refine PO.imp (po_some (sE G k S0 H0 a D h)) fun σ H Q ⟨ρ, S, cl, c, e0, q⟩ => ?_
      simp only [wP] at q
      refine ⟨ρ, S, cl, c, e0, wE_mono G _ a (fun v S1 ⟨i, e, q⟩ H1 x e1 c1 r => ?_) q⟩
      subst e
      simp only [RepV] at r; subst r
      exact ⟨i, rfl, q H1 e1 c1⟩
    · cases h
theorem sT (G : Gam) (k : Nat) (S0 : Sto) (H0 : Hp) : ∀ (t : T) {X : Cx} {XP : XLoc} (D : Sd X G k S0 H0 XP) {e : Expr}, mT X.N X.env.scope t e = true → (∀ i ∈ slots t, ∀ x, X.N[i]? = some x → (X.fn x = true ∨ X.env.scope.names.lookup x = some .local)) → PG X e (lG' X.K S0 H0 (slots t) fun v ρ S Q => wTg G M.noX t v ρ S Q)
  | .nm i, X, XP, D, e, h, hf => by
    simp only [mT] at h; split at h
    · simp only [Bool.and_eq_true, decide_eq_true_eq] at h
      refine PG.imp (pg_name (i := i) D.nd h.1 (lookup_loc h.2) (hf i (by simp [slots]) _ h.1)) fun x σ H Q ⟨v, ρ, S, r, cl, c, e0, q⟩ => ?_
      simp only [wTg] at q
      exact q _ H .refl c (cl.set i r) (by simp) fun j hj => by
        simp only [slots, List.mem_singleton] at hj
        rw [List.getElem?_set_ne (fun e => hj e.symm)]
    · cases h
  | .tup ts, X, XP, D, e, h, hf => by
    simp only [mT] at h; split at h
    · rename_i es kk pos
      have hl := mTs_len X.env h
      have pgs := sTs G k S0 H0 ts D h hf
      refine PG.imp (PG.or (pg_tup (n := ts.length) D.calm pgs hl.1 hl.2) (pg_unl (n := ts.length) D.calm pgs hl.1 hl.2)) fun x σ H Q ⟨v, ρ, S, r, cl, c, e0, q⟩ => ?_
      simp only [wTg] at q
      obtain ⟨vs, hv, hlen, q⟩ := q
      obtain ⟨p, xs, rfl, rs, h1 | h1 | h1⟩ := valD_rep c r hv
      · obtain ⟨a, _, l⟩ := h1
        exact .inr ⟨p, xs, rfl, l, by rw [rs.length]; exact hlen, vs, ρ, S, rs, cl, c, e0, q⟩
      · exact .inl ⟨p, xs, rfl, h1.1.sq, by rw [rs.length]; exact hlen, vs, ρ, S, rs, cl, c, e0, q⟩
      · exact .inl ⟨p, xs, rfl, .inl (.inl h1.1), by rw [rs.length]; exact hlen, vs, ρ, S, rs, cl, c, e0, q⟩
    · cases h
  | .ix a i, X, XP, D, e, h, hf => by
    simp only [mT] at h; split at h
    · simp only [Bool.and_eq_true] at h
      rename_i i' pos
      have hi := h.2
      refine PG.imp (pg_sub (sE G k S0 H0 a D.noX h.1) (sE G k S0 H0 i D.noX h.2) set_list (by
        cases i'
        case Slice => rw [mE_slice] at hi; cases hi
        all_goals exact fun _ => rfl)) fun x σ H Q ⟨v, ρ, S, r, cl, c, e0, q⟩ => ?_
      simp only [wTg] at q
      refine ⟨ρ, S, cl, c, e0, wE_mono G _ a (fun o S1 q H1 x1 e1 c1 r1 => ?_) q⟩
      refine ⟨ρ, S1, cl.evo e1, c1, e0.trans e1, wE_mono G _ i (fun kv S2 q H2 x2 e2 c2 r2 => ?_) q⟩
      obtain ⟨p, vs, j, n, rfl, rfl, hs, hj, q⟩ := q
      simp only [RepV] at r1 r2; subst r1; subst r2
      obtain ⟨xs, eh, rs⟩ := c2.lst hs
      have e12 := e1.trans e2
      have rv := r.evo e12
      refine ⟨p, xs, n, j, rfl, rfl, eh, by rw [rs.length]; exact hj, ?_⟩
      exact q σ _ (e12.trans (.chg hs eh trivial)) (c2.setL hs eh (rs.set j rv)) ((cl.evo e12).evo (S' := S2.upd p (.lst (vs.set j v))) (.chg hs eh trivial)) rfl fun _ _ => rfl
    · cases h
  | .fld a f, X, XP, D, e, h, hf => by
    simp only [mT] at h; split at h
    · simp only [Bool.and_eq_true, decide_eq_true_eq] at h
      obtain ⟨rfl, h2⟩ := h
      refine PG.imp (pg_fld (sE G k S0 H0 a D.noX h2)) fun x σ H Q ⟨v, ρ, S, r, cl, c, e0, q⟩ => ?_
      simp only [wTg] at q
      refine ⟨ρ, S, cl, c, e0, wE_mono G _ a (fun o S1 q H1 x1 e1 c1 r1 => ?_) q⟩
      obtain ⟨p, C, fs, rfl, hs, ho, hl, q⟩ := q
      simp only [RepV] at r1; subst r1
      obtain ⟨dx, us, eh, rk⟩ := c1.ins hs
      obtain ⟨cl', na⟩ := D.g.fo _ _ ho
      have hlen : us.length = fs.length := (Paired.length rk).symm
      have ev : Evo S1 H1 (S1.upd p (.ins C (putV f v fs))) (upd H1 p (.ins (He.ga X.K C) dx (putF f x us))) := .chg hs eh trivial
      refine ⟨p, _, dx, us, rfl, eh, cl', na, by omega, ?_⟩
      refine q σ _ (e1.trans ev) ?_ ((cl.evo e1).evo ev) rfl fun _ _ => rfl
      refine c1.chg hs eh trivial ?_
      simp only [RepA]
      exact ⟨dx, _, upd_same, (RepK.put (r.evo e1) rk).evo' (chg_tup eh trivial) (chg_frz eh trivial)⟩
    · cases h
  | .dix a i, X, XP, D, e, h, hf => by
    simp only [mT] at h; split at h
    · simp only [Bool.and_eq_true] at h
      rename_i i' pos
      have hi := h.2
      refine PG.imp (pg_sub (sE G k S0 H0 a D.noX h.1) (sE G k S0 H0 i D.noX h.2) (set_dict (by have := D.room.un; omega)) (by
        cases i'
        case Slice => rw [mE_slice] at hi; cases hi
        all_goals exact fun _ => rfl)) fun x σ H Q ⟨v, ρ, S, r, cl, c, e0, q⟩ => ?_
      simp only [wTg] at q
      refine ⟨ρ, S, cl, c, e0, wE_mono G _ a (fun o S1 q H1 x1 e1 c1 r1 => ?_) q⟩
      refine ⟨ρ, S1, cl.evo e1, c1, e0.trans e1, wE_mono G _ i (fun kv S2 ⟨p, eo, q'⟩ H2 x2 e2 c2 r2 => ?_) q⟩
      subst eo
      simp only [RepV] at r1; subst r1
      have e12 := e1.trans e2
      obtain ⟨H3, S3, g, e3, c3, q'⟩ := c2.dput q' r2 (r.evo e12)
      exact ⟨p, H3, rfl, g, q' σ _ (e12.trans e3) c3 ((cl.evo e12).evo e3) rfl fun _ _ => rfl⟩
    · cases h
theorem sTs (G : Gam) (k : Nat) (S0 : Sto) (H0 : Hp) : ∀ (ts : List T) {X : Cx} {XP : XLoc} (D : Sd X G k S0 H0 XP) {es : List Expr}, mTs X.N X.env.scope ts es = true → (∀ i ∈ slots (.tup ts), ∀ x, X.N[i]? = some x → (X.fn x = true ∨ X.env.scope.names.lookup x = some .local)) → PGs X es (lGs' X.K S0 H0 (slots (.tup ts)) fun v ρ S Q => wTgs G M.noX ts v ρ S Q)
  | [], X, XP, D, es, h, hf => by
    simp only [mTs] at h; split at h
    · refine PGs.imp pgs_nil fun xs σ H Q ⟨vs, ρ, S, r, cl, c, e0, q⟩ => ?_
      simp only [wTgs] at q
      obtain ⟨rfl, q⟩ := q
      have := reps0 r; subst this
      exact ⟨rfl, q σ H .refl c cl rfl fun _ _ => rfl⟩
    · cases h
  | t :: ts, X, XP, D, es, h, hf => by
    simp only [mTs] at h; split at h
    · simp only [Bool.and_eq_true] at h
      refine PGs.imp (pgs_cons (sT G k S0 H0 t D h.1 (fun i hi => hf i (by simp only [slots, slotss] at hi ⊢; exact List.mem_append_left _ hi))) (sTs G k S0 H0 ts D h.2 (fun i hi => hf i (by simp only [slots, slotss] at hi ⊢; exact List.mem_append_right _ hi))) (by rw [assign_one h.1]; rfl)) fun xs σ H Q ⟨vs, ρ, S, r, cl, c, e0, q⟩ => ?_
      simp only [wTgs] at q
      obtain ⟨v, rest, rfl, q⟩ := q
      simp only [RepVs] at r
      obtain ⟨y, ys, rfl, r1, r2⟩ := r
      refine ⟨y, ys, rfl, v, ρ, S, r1, cl, c, e0, wTg_mono G _ t (fun ρ' S1 q σ1 H1 e1 c1 cl1 hl1 hs1 => ?_) q⟩
      refine ⟨rest, ρ', S1, r2.evo e1, cl1, c1, e0.trans e1, wTgs_mono G _ ts (fun ρ2 S2 q σ2 H2 e2 c2 cl2 hl2 hs2 => ?_) q⟩
      refine q σ2 H2 (e1.trans e2) c2 cl2 (hl2.trans hl1) fun j hj => ?_
      simp only [slots, slotss, List.mem_append, not_or] at hj hs1 hs2
      rw [hs2 j hj.2, hs1 j hj.1]
    · cases h
theorem sI (G : Gam) (k : Nat) (S0 : Sto) (H0 : Hp) : ∀ (it : I) {X : Cx} {XP : XLoc} (D : Sd X G k S0 H0 XP) {tg e : Expr}, mI X.N X.env.scope it e = true → zipOk it tg = true → PI X tg e (lI X.K S0 H0 fun ρ S R => wI G (fun c S' => XP c ρ S') it ρ S R)
  | .val a, X, XP, D, tg, e, h, _ => by
    have h' : mE X.N X.env.scope a e = true := by
      simp only [mI] at h; split at h
      · cases h
      · exact h
    refine PI.imp (pi_any (sE G k S0 H0 a D h')) fun σ H R ⟨ρ, S, cl, c, e0, q⟩ => ?_
    simp only [wI] at q
    refine ⟨ρ, S, cl, c, e0, wE_mono G _ a (fun v S1 q H1 x e1 c1 r => ?_) q⟩
    split at q
    · simp only [RepV] at r
      obtain ⟨p, xs, rfl, t, r⟩ := r
      exact .inr (.inl ⟨p, rfl, ⟨xs, t.sq⟩, q H1 _ e1 c1 (walks_tup t.sq r)⟩)
    · simp only [RepV] at r; subst r
      obtain ⟨vs, l, q⟩ := q
      obtain ⟨xs, t, r⟩ := c1.rd l
      exact .inl ⟨_, rfl, ⟨xs, t⟩, q H1 _ e1 c1 walks_list⟩
    · simp only [RepV] at r; subst r
      exact .inr (.inr ⟨_, rfl, q H1 _ e1 c1 walks_str⟩)
    · exact q.elim
  | .rng1 a, X, XP, D, tg, e, h, _ => by
    simp only [mI] at h; split at h
    · simp only [Bool.and_eq_true, decide_eq_true_eq] at h
      obtain ⟨⟨rfl, h2⟩, h3⟩ := h
      refine PI.imp (pi_range1 (gl_of h2) (D.g.blt _ (by decide +kernel)) (pa_cons (sE G k S0 H0 a D h3) pa_nil (star_one h3 _ _)) (star_one h3 _ _)) fun σ H R ⟨ρ, S, cl, c, e0, q⟩ => ?_
      simp only [wI] at q
      refine ⟨ρ, S, cl, c, e0, wE_mono G _ a (fun v S1 ⟨j, e, hj, q⟩ H1 x e1 c1 r => ?_) q⟩
      subst e
      simp only [RepV] at r; subst r
      exact ⟨j, rfl, hj.1, hj.2, q H1 _ e1 c1 walks_rng⟩
    · cases h
  | .rng2 a b, X, XP, D, tg, e, h, _ => by
    simp only [mI] at h; split at h
    · simp only [Bool.and_eq_true, decide_eq_true_eq] at h
      obtain ⟨⟨⟨rfl, h2⟩, h3⟩, h4⟩ := h
      refine PI.imp (pi_range2 (gl_of h2) (D.g.blt _ (by decide +kernel)) (pa_cons (sE G k S0 H0 a D h3) (pa_cons (sE G k S0 H0 b D h4) pa_nil (star_one h4 _ _)) (star_one h3 _ _)) (by rw [star_one h3, star_one h4]; rfl) (star_one h4 _ _)) fun σ H R ⟨ρ, S, cl, c, e0, q⟩ => ?_
      simp only [wI] at q
      refine ⟨ρ, S, cl, c, e0, wE_mono G _ a (fun v S1 q H1 x e1 c1 r => ?_) q⟩
      refine ⟨ρ, S1, cl.evo e1, c1, e0.trans e1, wE_mono G _ b (fun w S2 ⟨i, j, hv, hw, hi, hj, q2⟩ H2 y e2 c2 r2 => ?_) q⟩
      subst hv; subst hw
      simp only [RepV] at r r2; subst r; subst r2
      exact ⟨i, j, rfl, ⟨hi.1, hi.2, hj.1, hj.2⟩, q2 H2 _ (e1.trans e2) c2 walks_rng⟩
    · cases h
  | .rng3 .., _, _, _, _, _, h, _ => by simp [mI] at h
  | .rvs1 a, X, XP, D, tg, e, h, _ => by
    simp only [mI] at h; split at h
    · simp only [Bool.and_eq_true, decide_eq_true_eq] at h
      obtain ⟨⟨⟨⟨rfl, rfl⟩, h2⟩, h2'⟩, h3⟩ := h
      refine PI.imp (pi_revR (gl_of h2) (D.g.blt _ (by decide +kernel)) (prg_1 (gl_of h2') (D.g.blt _ (by decide +kernel)) (sE G k S0 H0 a D h3) (star_one h3 _ _))) fun σ H R ⟨ρ, S, cl, c, e0, q⟩ => ?_
      simp only [wI] at q
      refine ⟨ρ, S, cl, c, e0, wE_mono G _ a (fun v S1 ⟨j, e, hj, q⟩ H1 x e1 c1 r => ?_) q⟩
      subst e
      simp only [RepV] at r; subst r
      refine ⟨j, rfl, by decide, by decide, hj.1, hj.2, ?_⟩
      rw [Int.sub_zero]
      exact q H1 _ e1 c1 walks_rrng
    · cases h
  | .rvs2 .., _, _, _, _, _, h, _ => by simp [mI] at h
  | .enum .., _, _, _, _, _, h, _ => by simp [mI] at h
  | .keys a, X, XP, D, tg, e, h, _ => by
    have h' : mE X.N X.env.scope a e = true := by
      simp only [mI] at h; split at h
      · cases h
      · exact h
    refine PI.imp (pi_keys (sE G k S0 H0 a D h')) fun σ H R ⟨ρ, S, cl, c, e0, q⟩ => ?_
    simp only [wI] at q
    refine ⟨ρ, S, cl, c, e0, wE_mono G _ a (fun v S1 ⟨d, ev, q⟩ H1 x e1 c1 r => ?_) q⟩
    subst ev
    simp only [RepV] at r; subst r
    rcases q with ⟨kvs, hs, q⟩ | ⟨kvs, hs, q⟩
    · have hd := c1 d _ hs
      simp only [RepA] at hd
      obtain ⟨o, us, eu, rk⟩ := hd
      exact ⟨d, o, rfl, .inl ⟨us, eu, q H1 _ e1 c1 (walks_keys eu rk)⟩⟩
    · have hd := c1 d _ hs
      simp only [RepA] at hd
      obtain ⟨o, us, eu, rk⟩ := hd
      exact ⟨d, o, rfl, .inr ⟨us, eu, q H1 _ e1 c1 (walks_keysT eu rk)⟩⟩
  | .keysM a, X, XP, D, tg, e, h, _ => by
    simp only [mI] at h; split at h
    · simp only [Bool.and_eq_true, decide_eq_true_eq] at h
      obtain ⟨⟨⟨rfl, h2⟩, h3⟩, h4⟩ := h
      refine PI.imp (pi_keysM (sE G k S0 H0 a D h4) (base_of h2) (by simp [h3])) fun σ H R ⟨ρ, S, cl, c, e0, q⟩ => ?_
      simp only [wI] at q
      refine ⟨ρ, S, cl, c, e0, wE_mono G _ a (fun v S1 ⟨d, kvs, ev, hs, q⟩ H1 x e1 c1 r => ?_) q⟩
      subst ev
      simp only [RepV] at r; subst r
      have hd := c1 d _ hs
      simp only [RepA] at hd
      obtain ⟨o, us, eu, rk⟩ := hd
      exact ⟨d, o, us, rfl, eu, q H1 _ e1 c1 (walks_keys eu rk)⟩
    · cases h
  | .zip a b, X, XP, D, tg, e, h, hz => by
    simp only [mI] at h; split at h
    · simp only [Bool.and_eq_true, decide_eq_true_eq] at h
      obtain ⟨⟨⟨rfl, h2⟩, h3⟩, h4⟩ := h
      cases tg
      case Tuple =>
        refine PI.imp (RZ.pi_zipA (gl_of h2) (D.g.blt _ (by decide +kernel)) (pa_cons (sE G k S0 H0 a D h3) (pa_cons (sE G k S0 H0 b D h4) pa_nil (star_one h4 _ _)) (star_one h3 _ _)) (star_one h3 _ _) (by rw [star_one h4]; rfl)) fun σ H R ⟨ρ, S, cl, c, e0, q⟩ => ?_
        simp only [wI] at q
        refine ⟨ρ, S, cl, c, e0, wE_mono G _ a (fun v S1 q H1 x e1 c1 r => ?_) q⟩
        refine ⟨ρ, S1, cl.evo e1, c1, e0.trans e1, wE_mono G _ b (fun w S2 q H2 y e2 c2 r2 => ?_) q⟩
        have e12 := e1.trans e2
        split at q
        · simp only [RepV] at r r2
          obtain ⟨p, xs, rfl, t, r⟩ := r
          obtain ⟨p2, xs2, rfl, t2, r2⟩ := r2
          have t' := t.evo e2.frz
          exact ⟨p, p2, xs, xs2, rfl, .inr ⟨t'.sq, t2.sq, q H2 _ e12 c2 (walks_zipT t'.sq t2.sq (r.evo e2) r2)⟩⟩
        · simp only [RepV] at r r2; subst r; subst r2
          obtain ⟨xs, ys, l1, l2, q⟩ := q
          obtain ⟨us, t, r⟩ := c2.rd l1
          obtain ⟨us2, t2, r2⟩ := c2.rd l2
          exact ⟨_, _, us, us2, rfl, .inl ⟨t, t2, q H2 _ e12 c2 walks_zip⟩⟩
        · exact q.elim
      all_goals simp [zipOk] at hz
    · cases h
  | .zip3 a b d, X, XP, D, tg, e, h, hz => by
    simp only [mI] at h; split at h
    · simp only [Bool.and_eq_true, decide_eq_true_eq] at h
      obtain ⟨⟨⟨⟨rfl, h2⟩, h3⟩, h4⟩, h5⟩ := h
      cases tg
      case Tuple =>
        refine PI.imp (pi_zip3 (gl_of h2) (D.g.blt _ (by decide +kernel)) (pa_cons (sE G k S0 H0 a D h3) (pa_cons (sE G k S0 H0 b D h4) (pa_cons (sE G k S0 H0 d D h5) pa_nil (star_one h5 _ _)) (star_one h4 _ _)) (star_one h3 _ _)) (star_one h3 _ _) (by rw [star_one h4, star_one h5]; rfl)) fun σ H R ⟨ρ, S, cl, c, e0, q⟩ => ?_
        simp only [wI] at q
        refine ⟨ρ, S, cl, c, e0, wE_mono G _ a (fun v S1 q H1 x e1 c1 r => ?_) q⟩
        refine ⟨ρ, S1, cl.evo e1, c1, e0.trans e1, wE_mono G _ b (fun w S2 q H2 y e2 c2 r2 => ?_) q⟩
        have e12 := e1.trans e2
        refine ⟨ρ, S2, cl.evo e12, c2, e0.trans e12, wE_mono G _ d (fun u S3 ⟨xs, ys, zs, ev, ew, eu, l1, l2, q9⟩ H3 z e3 c3 r3 => ?_) q⟩
        subst ev ew eu
        have e123 := e12.trans e3
        simp only [RepV] at r r2 r3
        obtain ⟨p, xs1, rfl, t, r⟩ := r
        obtain ⟨p2, xs2, rfl, t2, r2⟩ := r2
        obtain ⟨p3, xs3, rfl, t3, r3⟩ := r3
        have t' := t.evo (e2.trans e3).frz
        have t2' := t2.evo e3.frz
        exact ⟨p, p2, p3, xs1, xs2, xs3, rfl, t'.sq, t2'.sq, t3.sq, q9 H3 _ e123 c3 (walks_zip3 t'.sq t2'.sq t3.sq (r.evo (e2.trans e3)) (r2.evo e3) r3 l1 l2)⟩
      all_goals simp [zipOk] at hz
    · cases h
  | .rvs a, X, XP, D, tg, e, h, _ => by
    simp only [mI] at h; split at h
    · simp only [Bool.and_eq_true, decide_eq_true_eq] at h
      obtain ⟨⟨rfl, h2⟩, h3⟩ := h
      refine PI.imp (RT.pi_revA (gl_of h2) (D.g.blt _ (by decide +kernel)) (sE G k S0 H0 a D h3) (star_one h3 _ _)) fun σ H R ⟨ρ, S, cl, c, e0, q⟩ => ?_
      simp only [wI] at q
      refine ⟨ρ, S, cl, c, e0, wE_mono G _ a (fun v S1 q H1 x e1 c1 r => ?_) q⟩
      split at q
      · simp only [RepV] at r
        obtain ⟨p, xs, rfl, t, r⟩ := r
        exact ⟨p, xs, rfl, .inr ⟨t.sq, q H1 _ e1 c1 (walks_revT r.length t.sq r)⟩⟩
      · simp only [RepV] at r; subst r
        obtain ⟨vs, l, q⟩ := q
        obtain ⟨xs, t, r⟩ := c1.rd l
        exact ⟨_, xs, rfl, .inl ⟨t, q H1 _ e1 c1 (walks_rev r.length)⟩⟩
      · exact q.elim
    · cases h
end
end
end M

set_option maxHeartbeats 4000000
namespace M
open PySem PySem.Spec L2
abbrev Sui := Addr → Value → Option Addr → TS
/-- what a clause does: its class, its name's slot, its suite's reading, further classes -/
structure Cau where
  c : Value
  n : Option Nat
  ts : Sui
  more : List Value := []
def exmC (K : PySem.W.Frag) (cls : Value) (k : Cau) : Option Bool := match k.more with
  | [] => PySem.W.exmOne K cls k.c
  | ms => PySem.W.exmAny K cls (k.c :: ms)
/-- what is wanted behind a suite whose name goes -/
def Ends.off (D : Ends) : Option Nat → Ends
  | none => D
  | some i => { nx := fun σ H => D.nx (σ.set i none) H, rt := D.rt, bk := fun σ H => D.bk (σ.set i none) H, ct := fun σ H => D.ct (σ.set i none) H }
def putN (σ : L2.St) (a : Addr) : Option Nat → L2.St
  | none => σ
  | some i => σ.set i (some (.ref a))
def wMix (K : PySem.W.Frag) (Wo : WX) (D : Ends) : List Cau → WX
  | [] => Wo
  | k :: ks => fun cls d σ H => ∃ b, exmC K cls k = some b ∧ (b = true → ∀ a, H a = none → k.ts a cls d (Ends.off D k.n) (putN σ a k.n) H) ∧ (b = false → wMix K Wo D ks cls d σ H)
/-- a suite keeps its reading -/
def SuiOk (X : Cx) (su : List Stmt) (ts : Sui) : Prop := ∀ (a : Addr) (ob : Obj) (cls : Value) (d : Option Addr) (qs : List (Addr × Obj)), Zc cls d ob → (∃ us, ob.data = .fields us) → PSs (X.suite a ((a, ob) :: qs)) su (ts a cls d)
inductive Cls2 (X : Cx) : List ExceptHandler → List Cau → Prop
  | nil : Cls2 X [] []
  | un {x : Str} {c : Value} {ts : Sui} {b1 : Stmt} {su : List Stmt} {px py : Pos} {hs : List ExceptHandler} {ks : List Cau} : Names X x c → SuiOk X (b1 :: su) ts → Cls2 X hs ks → Cls2 X (.ExceptHandler (some (.Name x px)) none (b1 :: su) py :: hs) (⟨c, none, ts, []⟩ :: ks)
  | nm {x n : Str} {i : Nat} {c : Value} {ts : Sui} {b1 : Stmt} {su : List Stmt} {px py : Pos} {hs : List ExceptHandler} {ks : List Cau} : Names X x c → X.N[i]? = some n → X.env.kindOf n = some .local → SuiOk X (b1 :: su) ts → Cls2 X hs ks → Cls2 X (.ExceptHandler (some (.Name x px)) (some n) (b1 :: su) py :: hs) (⟨c, some i, ts, []⟩ :: ks)
  | un2 {x x2 : Str} {c c2 : Value} {ts : Sui} {b1 : Stmt} {su : List Stmt} {px px2 pt py : Pos} {kt : Nat} {hs : List ExceptHandler} {ks : List Cau} : Names X x c → Names X x2 c2 → SuiOk X (b1 :: su) ts → Cls2 X hs ks → Cls2 X (.ExceptHandler (some (.Tuple [.Name x px, .Name x2 px2] kt pt)) none (b1 :: su) py :: hs) (⟨c, none, ts, [c2]⟩ :: ks)
  | un3 {x x2 x3 : Str} {c c2 c3 : Value} {ts : Sui} {b1 : Stmt} {su : List Stmt} {px px2 px3 pt py : Pos} {kt : Nat} {hs : List ExceptHandler} {ks : List Cau} : Names X x c → Names X x2 c2 → Names X x3 c3 → SuiOk X (b1 :: su) ts → Cls2 X hs ks → Cls2 X (.ExceptHandler (some (.Tuple [.Name x px, .Name x2 px2, .Name x3 px3] kt pt)) none (b1 :: su) py :: hs) (⟨c, none, ts, [c2, c3]⟩ :: ks)
theorem fly_keeps {base h h' : Heap} {l : List Env} {e : Addr} {Z : Obj → Prop} (x : HandSPX.FlyingZ base l e Z h) (k : ∀ b o, h.get? b = some o → h'.get? b = some o) : HandSPX.FlyingZ base l e Z h' := by
  obtain ⟨f1, f2, f3, oe, vs, T, oT, ts, he, hz, hd, h1, hnT, hTe, hT, hdT, h3⟩ := x
  exact ⟨fun b o e => k _ _ (f1 b o e), f2, f3.of_keeps fun b o q _ => ⟨o, k b o q, rfl⟩, oe, vs, T, oT, ts, k _ _ he, hz, hd, h1, hnT, hTe, k _ _ hT, hdT, h3⟩
section
variable {X : Cx} {pins : List (Addr × Obj)}
theorem sp_ofTry {D : Ends} {xe : Value → Shared → Prop} (ok : X.Ok) {f : Flow} {s : Shared} (h : SP (X.tr (X.pn ++ pins) xe) [] D f s) : SP X pins D f s := by
  cases f with
  | next => obtain ⟨σ1, H1, J1, q⟩ := h; exact ⟨σ1, H1, J1.ofTry ok, q⟩
  | brk => obtain ⟨σ1, H1, J1, q⟩ := h; exact ⟨σ1, H1, J1.ofTry ok, q⟩
  | cont => obtain ⟨σ1, H1, J1, q⟩ := h; exact ⟨σ1, H1, J1.ofTry ok, q⟩
  | ret u => obtain ⟨v, σ1, H1, J1, r, q⟩ := h; exact ⟨v, σ1, H1, J1.ofTry ok, r, q⟩
theorem sp_ofSuite {D : Ends} {a : Addr} {p : Addr × Obj} (ok : X.Ok) {f : Flow} {s : Shared} (h : SP (X.suite a (p :: (X.pn ++ pins))) [] D f s) : SP X pins D f s := by
  cases f with
  | next => obtain ⟨σ1, H1, J1, q⟩ := h; exact ⟨σ1, H1, J1.unsuite ok, q⟩
  | brk => obtain ⟨σ1, H1, J1, q⟩ := h; exact ⟨σ1, H1, J1.unsuite ok, q⟩
  | cont => obtain ⟨σ1, H1, J1, q⟩ := h; exact ⟨σ1, H1, J1.unsuite ok, q⟩
  | ret u => obtain ⟨v, σ1, H1, J1, r, q⟩ := h; exact ⟨v, σ1, H1, J1.unsuite ok, r, q⟩
theorem ps_try_mix {body : List Stmt} {h1 : ExceptHandler} {hr : List ExceptHandler} {ks : List Cau} {pos : Pos} {tb : WX → TS} {Wo : WX} (hst : X.stack = X.env :: X.outer) (hfr : X.env.frame = some X.env.locals) (nd : X.N.Nodup) (tk : Takes X Wo)
    (hb : ∀ (W : WX) (qs : List (Addr × Obj)) (xe : Value → Shared → Prop), Takes (X.tr qs xe) W → PassesOwn (model X.prog X.w) X.A X.env xe → PSs (X.tr qs xe) body (tb W)) (hk : Cls2 X (h1 :: hr) ks) :
    PS X (.Try body (h1 :: hr) [] [] pos) (fun D σ H => tb (wMix X.K Wo D ks) D σ H) := by
  refine ⟨fun pins s σ H D I q0 => ?_⟩
  have ok := I.ok
  have afr : X.A.frames = some (X.env :: X.outer) := ok.frames.trans (congrArg some hst)
  refine wpAny_Try_except (wpAny_mono ((hb (wMix X.K Wo D ks) (X.pn ++ pins) _ (fun u t down => ?_) PassesOwn.looking).run [] s σ H D (I.toTry _) q0) (fun f t sp => ?_) fun _ _ z => z)
  rotate_left
  · have sp := sp_ofTry ok sp
    cases f with
    | next => obtain ⟨σ1, H1, J1, q⟩ := sp; exact wpAny_execs_nil ⟨σ1, H1, J1, q⟩
    | brk => exact sp
    | cont => exact sp
    | ret u => exact sp
  obtain ⟨a, B, t0, ps0, σ1, H1, cls, d, rfl, J, nb, up, sky, na, osE, ag, w⟩ := down
  have J := J.ofTry ok
  rw [show (X.tr (X.pn ++ pins) _).stack = X.env :: X.outer from hst] at sky
  show wpAny (model X.prog X.w) X.A (noteFrame (.ref a) X.env) _ _ _
  refine Sky.land Zc.steady afr hfr sky fun g1 fly up1 => ?_
  clear q0 sky
  -- what stands while an error flies
  have kit : ∀ g, HandSPX.FlyingZ B (X.env :: X.outer) a (Zc cls d) g → t.heap.UpToSlots g → ∃ ob us, g.get? a = some ob ∧ Zc cls d ob ∧ ob.data = .fields us ∧ Inv X pins σ1 H1 { t with heap := g } ∧ Inv (X.suite a ((a, ob) :: (X.pn ++ pins))) [] σ1 H1 { t with heap := g } ∧ PySem.W.Looks (model X.prog X.w) g (typeOf (.ref a)) cls ∧ a ≠ X.env.locals ∧ a ∉ X.fs := fun g fly up1 => by
    have J1 : Inv X pins σ1 H1 { t with heap := g } := J.landed nb fly.1 (up.trans up1) osE ag
    obtain ⟨ob, us, hob, hz, hus⟩ := fly.there
    have out : a ∉ frs (X.env :: X.outer) := fun hm => by
      obtain ⟨_, u, hu, no⟩ := fly.2.2.1.mem hm
      cases hob.symm.trans hu
      exact no _ hus
    have notL : a ≠ X.env.locals := fun z => out (List.mem_filterMap.mpr ⟨X.env, List.mem_cons_self, by rw [hfr, z]⟩)
    have notF : a ∉ X.fs := fun hm => by
      obtain ⟨e, he, q⟩ := List.mem_filterMap.mp hm
      exact out (List.mem_filterMap.mpr ⟨e, List.mem_cons_of_mem _ he, q⟩)
    exact ⟨ob, us, hob, hz, hus, J1, J1.suite hob hus na notL notF, fun _ _ _ _ kp q => wpAny_typeOf_ref (kp _ _ hob) (by rw [hz.1]; exact q), notL, notF⟩
  -- the name in a clause, then its answer
  have ask : ∀ {g ob} (JS : Inv (X.suite a ((a, ob) :: (X.pn ++ pins))) [] σ1 H1 { t with heap := g }) {x : Str} {c : Value} {px : Pos} {Q : Value → Shared → Prop} {E : Value → Shared → Prop}, Names X x c → Q c { t with heap := g } → wpAny (model X.prog X.w) (X.A.mark (some (.ref a))) (eval (.Name x px) X.env) Q E { t with heap := g } := fun {g ob} JS {x c px Q E} hn q => by
    rcases hn with ⟨n1, n2, n3 | ⟨n3, n4, n5⟩⟩
    · exact ld_glob (X := X.suite a ((a, ob) :: (X.pn ++ pins))) JS n1 n3 q n2
    · exact ld_blt (X := X.suite a ((a, ob) :: (X.pn ++ pins))) JS n1 n3 n4 q n5 n2
  generalize hhs : h1 :: hr = hs at hk
  clear hhs
  induction hk generalizing g1 with
  | nil =>
    obtain ⟨_, _, _, o1, vs1, T, _, _, e1, _, dd1, at1, _⟩ := id fly
    have ne : ¬ ((Value.ref T == Value.none) = true) := by simp
    have last : wpAny (model X.prog X.w) X.A (setFlight (.ref a) X.env.frame) (fun _ t4 => wpAny (model X.prog X.w) X.A (throw (.ref a) : Sem Flow) (SP X pins D) X.xe t4) X.xe { t with heap := g1 } := by
      rw [hfr]
      refine HandSPX.setFlight_upZ fly fun g2 held up2 => wpAny_throw (tk _ _ ⟨a, B, t0, pins, σ1, H1, cls, d, rfl, J, nb, (up.trans up1).trans up2, .inr (.inr ?_), na, osE, ag, w⟩)
      rw [hst]; exact held
    refine wpAny_handleBy_nil ?_
    unfold PySem.passOn
    refine wpAny_bind (wpAny_field e1 dd1 at1 ?_)
    rw [if_neg ne]
    first
      | exact wpAny_bind last
      | exact wpAny_bind (wpAny_pure (wpAny_bind last))
  | un hn hsu _ ih =>
    obtain ⟨ob, us, hob, hz, hus, J1, JS, look, notL, notF⟩ := kit _ fly up1
    obtain ⟨b, ex, yes, no⟩ := w
    refine wpAny_handleBy_cons (codeAny_handlers_test (ask JS hn ((PySem.W.exm_one (M := model X.prog X.w) J1.kIn look ex).here ?_))) nofun
    cases b with
    | false => exact ih (no rfl) _ fly up1
    | true =>
      refine codeAny_handlers_suite (HandSPX.lands_againZ fly fun g2 fly2 up2 => ?_)
      have J2 : Inv X pins σ1 H1 { t with heap := g2 } := J.landed nb fly2.1 ((up.trans up1).trans up2) osE ag
      obtain ⟨o2, us2, at2, hz2, hd2⟩ := fly2.there
      exact wpAny_mono ((hsu a o2 cls d (X.pn ++ pins) hz2 ⟨_, hd2⟩).run [] _ _ H1 _ (J2.suite at2 hd2 na notL notF) (yes rfl a na)) (fun f t3 h => sp_ofSuite ok h) fun _ _ z => z.elim
  | @un2 x x2 c c2 ts b1 su px px2 pt py kt hs' ks' hn hn2 hsu _ ih =>
    obtain ⟨ob, us, hob, hz, hus, J1, JS, look, notL, notF⟩ := kit _ fly up1
    obtain ⟨b, ex, yes, no⟩ := w
    refine wpAny_handleBy_cons (codeAny_handlers_test ?_) nofun
    refine wpAny_Tuple ?_
    refine wpAny_items_cons (ask JS hn ?_)
    refine wpAny_items_cons (ask JS hn2 ?_)
    refine wpAny_items_nil ⟨by size_fits, ?_⟩
    have kp : ∀ q o, g1.get? q = some o → (g1.push { cls := .type "tuple", data := .seq [c, c2].toArray }).get? q = some o := fun _ _ z => Heap.get?_push_of_some _ z
    have fly := fly_keeps fly kp
    have up1 := up1.trans (Heap.UpToSlots.of_keeps kp)
    refine (PySem.W.exm_tup2 (M := model X.prog X.w) (J1.kIn.keeps kp) (look.keeps kp) (Heap.get?_push_size g1 rfl) ex).here ?_
    cases b with
    | false => exact ih (no rfl) _ fly up1
    | true =>
      refine codeAny_handlers_suite (HandSPX.lands_againZ fly fun g2 fly2 up2 => ?_)
      have J2 : Inv X pins σ1 H1 { t with heap := g2 } := J.landed nb fly2.1 ((up.trans up1).trans up2) osE ag
      obtain ⟨o2, us2, at2, hz2, hd2⟩ := fly2.there
      exact wpAny_mono ((hsu a o2 cls d (X.pn ++ pins) hz2 ⟨_, hd2⟩).run [] _ _ H1 _ (J2.suite at2 hd2 na notL notF) (yes rfl a na)) (fun f t3 h => sp_ofSuite ok h) fun _ _ z => z.elim
  | @un3 x x2 x3 c c2 c3 ts b1 su px px2 px3 pt py kt hs' ks' hn hn2 hn3 hsu _ ih =>
    obtain ⟨ob, us, hob, hz, hus, J1, JS, look, notL, notF⟩ := kit _ fly up1
    obtain ⟨b, ex, yes, no⟩ := w
    refine wpAny_handleBy_cons (codeAny_handlers_test ?_) nofun
    refine wpAny_Tuple ?_
    refine wpAny_items_cons (ask JS hn ?_)
    refine wpAny_items_cons (ask JS hn2 ?_)
    refine wpAny_items_cons (ask JS hn3 ?_)
    refine wpAny_items_nil ⟨by size_fits, ?_⟩
    have kp : ∀ q o, g1.get? q = some o → (g1.push { cls := .type "tuple", data := .seq [c, c2, c3].toArray }).get? q = some o := fun _ _ z => Heap.get?_push_of_some _ z
    have fly := fly_keeps fly kp
    have up1 := up1.trans (Heap.UpToSlots.of_keeps kp)
    refine (PySem.W.exm_tup3 (M := model X.prog X.w) (J1.kIn.keeps kp) (look.keeps kp) (Heap.get?_push_size g1 rfl) ex).here ?_
    cases b with
    | false => exact ih (no rfl) _ fly up1
    | true =>
      refine codeAny_handlers_suite (HandSPX.lands_againZ fly fun g2 fly2 up2 => ?_)
      have J2 : Inv X pins σ1 H1 { t with heap := g2 } := J.landed nb fly2.1 ((up.trans up1).trans up2) osE ag
      obtain ⟨o2, us2, at2, hz2, hd2⟩ := fly2.there
      exact wpAny_mono ((hsu a o2 cls d (X.pn ++ pins) hz2 ⟨_, hd2⟩).run [] _ _ H1 _ (J2.suite at2 hd2 na notL notF) (yes rfl a na)) (fun f t3 h => sp_ofSuite ok h) fun _ _ z => z.elim
  | @nm x n i c ts b1 su px py hs' ks' hn hi hl hsu _ ih =>
    obtain ⟨ob, us, hob, hz, hus, J1, JS, look, notL, notF⟩ := kit _ fly up1
    obtain ⟨b, ex, yes, no⟩ := w
    refine wpAny_handleBy_cons (codeAny_handlers_test (ask JS hn ((PySem.W.exm_one (M := model X.prog X.w) J1.kIn look ex).here ?_))) nofun
    cases b with
    | false => exact ih (no rfl) _ fly up1
    | true =>
      refine codeAny_handlers_suite_as (HandSPX.lands_againZ fly fun g2 fly2 up2 => ?_)
      have J2 : Inv X pins σ1 H1 { t with heap := g2 } := J.landed nb fly2.1 ((up.trans up1).trans up2) osE ag
      obtain ⟨o2, us2, at2, hz2, hd2⟩ := fly2.there
      have gone : ∀ {σ6 : L2.St} {H6 : Hp} {t3 : Shared} {Q : Shared → Prop}, Inv (X.suite a ((a, o2) :: (X.pn ++ pins))) [] σ6 H6 t3 → (∀ t4, Inv X pins (σ6.set i none) H6 t4 → Q t4) →
          wpAny (model X.prog X.w) X.A (do bindName X.env n .none; unbindBehindTheSuite X.env n py) (fun _ t4 => Q t4) X.xe t3 := fun J6 k => gone_ok (J6.unsuite ok) nd hi hl k
      refine store_ok (X := X.suite a ((a, o2) :: (X.pn ++ pins))) (v := .ref a) (J2.suite at2 hd2 na notL notF) nd hi (.inl hl) rfl (fun t2 I2 => ?_) (.inr hl)
      refine wpAny_mono ((hsu a o2 cls d (X.pn ++ pins) hz2 ⟨_, hd2⟩).run [] t2 _ H1 _ I2 (yes rfl a na)) (fun f t3 h => ?_) fun _ _ z => z.elim
      cases f with
      | next => obtain ⟨σ6, H6, J6, q⟩ := h; exact gone J6 fun t4 J7 => ⟨_, _, J7, q⟩
      | brk => obtain ⟨σ6, H6, J6, q⟩ := h; exact gone J6 fun t4 J7 => ⟨_, _, J7, q⟩
      | cont => obtain ⟨σ6, H6, J6, q⟩ := h; exact gone J6 fun t4 J7 => ⟨_, _, J7, q⟩
      | ret u => obtain ⟨v6, σ6, H6, J6, r, q⟩ := h; exact gone J6 fun t4 J7 => ⟨_, _, _, J7, r, q⟩
/-- an error that has landed, kept as a value -/
theorem landK {H : Hp} {σ : L2.St} {sI s' : Shared} {B : Heap} {a : Addr} {cls : Value} {d : Option Addr} {ob : Obj} {us : Array Value} (I : Inv X pins σ H sI) (nb : ∀ b o, sI.heap.get? b = some o → b ∉ frs X.stack → B.get? b = some o) (st : B.StaysIn s'.heap) (up : sI.heap.UpToSlots s'.heap) (os : s'.os = sI.os) (ag : PyProof.Rows.AllBare s'.gens)
    (na : H a = none) (nB : B.get? a = none) (out : a ∉ frs X.stack) (ha : s'.heap.get? a = some ob) (hz : Zc cls d ob) (hd : ob.data = .fields us) : Inv X pins σ (upd H a (ErO cls d a)) s' := by
  have nI : ∀ b o, sI.heap.get? b = some o → b ≠ a := fun b o e z => by
    subst z
    rw [nb _ o e out] at nB; cases nB
  have nf : ∀ b ∈ frs X.stack, ∀ o, sI.heap.get? b = some o → ∃ sl, s'.heap.get? b = some { o with slots := sl } := fun b hb o e => by
    obtain ⟨_, o', e', hd'⟩ := I.stack.mem hb
    rw [e] at e'; cases e'
    exact up b o e hd'
  have hN : HOk X.prog X.w (upd H a (ErO cls d a)) s'.heap := fun b o q => by
    by_cases hb : b = a
    · subst hb
      rw [upd_same] at q; cases q
      exact ⟨⟨ob, us, ha, hz, hd⟩, ⟨ob, ha⟩, fun _ _ ⟨o, v, q, r⟩ k => ⟨o, v, k o q, r⟩⟩
    · rw [upd_ne hb] at q
      exact ((I.inGround nb) b o q).stay (fun c v _ q => st c v q) (fun c q => by rw [upd_ne (ne_of_none q na)]; exact q) fun c xs q => by rw [upd_ne (ne_of_none q na)]; exact q
  have J := I.call (ch := []) (h' := s'.heap) (g' := s'.gens) (t' := s'.toks) (d' := s'.drawn) (H' := upd H a (ErO cls d a))
    ⟨fun b o e _ hb _ => st b o (nb b o e hb), fun b o e _ hb _ => nf b hb o e, fun b o e n _ => by rw [upd_ne (nI b o e)]; exact n, fun b o e _ => by
      by_cases hb : b ∈ frs X.stack
      · obtain ⟨sl, q⟩ := nf b hb o e
        exact ⟨_, q⟩
      · exact ⟨o, st b o (nb b o e hb)⟩, fun b xs e => by rw [upd_ne (ne_of_none e na)]; exact e, fun b o u e => by rw [upd_ne (ne_of_none e na)]; exact e, fun b ps e => ⟨#[], by rw [upd_ne (ne_of_none e na), e]; simp⟩⟩
    hN ag (fun _ z => nomatch z)
  obtain ⟨a1, a2, a3, a4, a5⟩ := s'
  have e5 : a5 = sI.os := os
  subst e5
  exact J
def SuiKp (X : Cx) (su : List Stmt) (ts : Sui) : Prop := ∀ (a : Addr) (cls : Value) (d : Option Addr) (qs : List (Addr × Obj)), PSs (X.suite a qs) su (ts a cls d)
def wKeep (K : PySem.W.Frag) (Wo : WX) (D : Ends) (c : Value) (i : Nat) (ts : Sui) : WX := fun cls d σ H => ∃ b, PySem.W.exmOne K cls c = some b ∧ (b = true → ∀ a, H a = none → ts a cls d (Ends.off D (some i)) (σ.set i (some (.ref a))) (upd H a (ErO cls d a))) ∧ (b = false → Wo cls d σ H)
theorem suiteK {σ : L2.St} {H : Hp} {s : Shared} (I : Inv X pins σ H s) (a : Addr) : Inv (X.suite a (X.pn ++ pins)) [] σ H s :=
  ⟨I.ok.suite _ _, I.os, I.bare, I.base, I.loc, I.cell, I.free, I.freeC, fun p hp => I.pin p (by rw [List.append_nil] at hp; exact hp), I.hok, I.len⟩
theorem unsuiteK {a : Addr} {σ : L2.St} {H : Hp} {s : Shared} (I : Inv (X.suite a (X.pn ++ pins)) [] σ H s) (ok : X.Ok) : Inv X pins σ H s :=
  ⟨ok, I.os, I.bare, I.base, I.loc, I.cell, I.free, I.freeC, fun p hp => I.pin p (List.mem_append_left _ hp), I.hok, I.len⟩
/-- try: .. except C as n: with the error kept -/
theorem ps_try_keep {body : List Stmt} {x n : Str} {i : Nat} {c : Value} {ts : Sui} {b1 : Stmt} {su : List Stmt} {px py pos : Pos} {tb : WX → TS} {Wo : WX} (hst : X.stack = X.env :: X.outer) (hfr : X.env.frame = some X.env.locals) (nd : X.N.Nodup) (tk : Takes X Wo)
    (hb : ∀ (W : WX) (qs : List (Addr × Obj)) (xe : Value → Shared → Prop), Takes (X.tr qs xe) W → PassesOwn (model X.prog X.w) X.A X.env xe → PSs (X.tr qs xe) body (tb W)) (hn : Names X x c) (hi : X.N[i]? = some n) (hl : X.env.kindOf n = some .local) (hsu : SuiKp X (b1 :: su) ts) :
    PS X (.Try body [.ExceptHandler (some (.Name x px)) (some n) (b1 :: su) py] [] [] pos) (fun D σ H => tb (wKeep X.K Wo D c i ts) D σ H) := by
  refine ⟨fun pins s σ H D I q0 => ?_⟩
  have ok := I.ok
  have afr : X.A.frames = some (X.env :: X.outer) := ok.frames.trans (congrArg some hst)
  refine wpAny_Try_except (wpAny_mono ((hb (wKeep X.K Wo D c i ts) (X.pn ++ pins) _ (fun u t down => ?_) PassesOwn.looking).run [] s σ H D (I.toTry _) q0) (fun f t sp => ?_) fun _ _ z => z)
  rotate_left
  · have sp := sp_ofTry ok sp
    cases f with
    | next => obtain ⟨σ1, H1, J1, q⟩ := sp; exact wpAny_execs_nil ⟨σ1, H1, J1, q⟩
    | brk => exact sp
    | cont => exact sp
    | ret u => exact sp
  obtain ⟨a, B, t0, ps0, σ1, H1, cls, d, rfl, J, nb, up, sky, na, osE, ag, w⟩ := down
  have J := J.ofTry ok
  rw [show (X.tr (X.pn ++ pins) _).stack = X.env :: X.outer from hst] at sky
  show wpAny (model X.prog X.w) X.A (noteFrame (.ref a) X.env) _ _ _
  refine Sky.land Zc.steady afr hfr sky fun g1 fly up1 => ?_
  clear q0 sky
  have J1 : Inv X pins σ1 H1 { t with heap := g1 } := J.landed nb fly.1 (up.trans up1) osE ag
  obtain ⟨ob, us, hob, hz, hus⟩ := fly.there
  have out : a ∉ frs (X.env :: X.outer) := fun hm => by
    obtain ⟨_, u, hu, no⟩ := fly.2.2.1.mem hm
    cases hob.symm.trans hu
    exact no _ hus
  have notL : a ≠ X.env.locals := fun z => out (List.mem_filterMap.mpr ⟨X.env, List.mem_cons_self, by rw [hfr, z]⟩)
  have notF : a ∉ X.fs := fun hm => by
    obtain ⟨e, he, q⟩ := List.mem_filterMap.mp hm
    exact out (List.mem_filterMap.mpr ⟨e, List.mem_cons_of_mem _ he, q⟩)
  have JS := J1.suite hob hus na notL notF
  have look : PySem.W.Looks (model X.prog X.w) g1 (typeOf (.ref a)) cls := fun _ _ _ _ kp q => wpAny_typeOf_ref (kp _ _ hob) (by rw [hz.1]; exact q)
  have ask : ∀ {Q : Value → Shared → Prop} {E : Value → Shared → Prop}, Q c { t with heap := g1 } → wpAny (model X.prog X.w) (X.A.mark (some (.ref a))) (eval (.Name x px) X.env) Q E { t with heap := g1 } := fun {Q E} q => by
    rcases hn with ⟨n1, n2, n3 | ⟨n3, n4, n5⟩⟩
    · exact ld_glob (X := X.suite a ((a, ob) :: (X.pn ++ pins))) JS n1 n3 q n2
    · exact ld_blt (X := X.suite a ((a, ob) :: (X.pn ++ pins))) JS n1 n3 n4 q n5 n2
  obtain ⟨b, ex, yes, no⟩ := w
  refine wpAny_handleBy_cons (codeAny_handlers_test (ask ((PySem.W.exm_one (M := model X.prog X.w) J1.kIn look ex).here ?_))) nofun
  cases b with
  | false =>
    obtain ⟨_, _, _, o1, vs1, T, _, _, e1, _, dd1, at1, _⟩ := id fly
    have ne : ¬ ((Value.ref T == Value.none) = true) := by simp
    have last : wpAny (model X.prog X.w) X.A (setFlight (.ref a) X.env.frame) (fun _ t4 => wpAny (model X.prog X.w) X.A (throw (.ref a) : Sem Flow) (SP X pins D) X.xe t4) X.xe { t with heap := g1 } := by
      rw [hfr]
      refine HandSPX.setFlight_upZ fly fun g2 held up2 => wpAny_throw (tk _ _ ⟨a, B, t0, pins, σ1, H1, cls, d, rfl, J, nb, (up.trans up1).trans up2, .inr (.inr ?_), na, osE, ag, no rfl⟩)
      rw [hst]; exact held
    refine wpAny_handleBy_nil ?_
    unfold PySem.passOn
    refine wpAny_bind (wpAny_field e1 dd1 at1 ?_)
    rw [if_neg ne]
    first
      | exact wpAny_bind last
      | exact wpAny_bind (wpAny_pure (wpAny_bind last))
  | true =>
    refine codeAny_handlers_suite_as (HandSPX.lands_againZ fly fun g2 fly2 up2 => ?_)
    obtain ⟨o2, us2, at2, hz2, hd2⟩ := fly2.there
    have J2 : Inv X pins σ1 (upd H1 a (ErO cls d a)) { t with heap := g2 } := landK J nb fly2.1 ((up.trans up1).trans up2) osE ag na fly2.2.1 (by rw [hst]; exact out) at2 hz2 hd2
    have gone : ∀ {σ6 : L2.St} {H6 : Hp} {t3 : Shared} {Q : Shared → Prop}, Inv (X.suite a (X.pn ++ pins)) [] σ6 H6 t3 → (∀ t4, Inv X pins (σ6.set i none) H6 t4 → Q t4) →
        wpAny (model X.prog X.w) X.A (do bindName X.env n .none; unbindBehindTheSuite X.env n py) (fun _ t4 => Q t4) X.xe t3 := fun J6 k => gone_ok (unsuiteK J6 ok) nd hi hl k
    refine store_ok (X := X.suite a (X.pn ++ pins)) (v := .ref a) (suiteK J2 a) nd hi (.inl hl) rfl (fun t2 I2 => ?_) (.inr hl)
    refine wpAny_mono ((hsu a cls d (X.pn ++ pins)).run [] t2 _ _ _ I2 (yes rfl a na)) (fun f t3 h => ?_) fun _ _ z => z.elim
    cases f with
    | next => obtain ⟨σ6, H6, J6, q⟩ := h; exact gone J6 fun t4 J7 => ⟨_, _, J7, q⟩
    | brk => obtain ⟨σ6, H6, J6, q⟩ := h; exact gone J6 fun t4 J7 => ⟨_, _, J7, q⟩
    | cont => obtain ⟨σ6, H6, J6, q⟩ := h; exact gone J6 fun t4 J7 => ⟨_, _, J7, q⟩
    | ret u => obtain ⟨v6, σ6, H6, J6, r, q⟩ := h; exact gone J6 fun t4 J7 => ⟨_, _, _, J7, r, q⟩
end
end M

set_option maxHeartbeats 4000000
namespace M
open PySem PySem.Spec L2
theorem PS.imp {X : Cx} {st : Stmt} {t t' : TS} (h : PS X st t) (i : ∀ D σ H, t' D σ H → t D σ H) : PS X st t' := ⟨fun pins s σ H D I q => h.run pins s σ H D I (i _ _ _ q)⟩
theorem PSs.imp {X : Cx} {st : List Stmt} {t t' : TS} (h : PSs X st t) (i : ∀ D σ H, t' D σ H → t D σ H) : PSs X st t' := ⟨fun pins s σ H D I q => h.run pins s σ H D I (i _ _ _ q)⟩
def hV (f : Str → Option Bool) (σ : L2.St) : HE → Option Bool
  | .bl b => some b
  | .is y => f y
  | .v i => match σ[i]? with
    | some (some (.bl b)) => some b
    | _ => none
  | .not a => (hV f σ a).map (!·)
  | .and a b => match hV f σ a with
    | some true => hV f σ b
    | some false => some false
    | none => none
  | .and3 a b c => match hV f σ a with
    | some true => (match hV f σ b with
      | some true => hV f σ c
      | some false => some false
      | none => none)
    | some false => some false
    | none => none
theorem hV_of {K : PySem.W.Frag} {H : Hp} {ρ : Loc} {σ : L2.St} (cl : CorL K H ρ σ) {f : Str → Option Bool} : ∀ {h : HE} {b : Bool}, hE f ρ h = some b → hV f σ h = some b
  | .bl _, _, e => e
  | .is _, _, e => e
  | .v i, b, e => by
    simp only [hE] at e
    split at e
    · rename_i b' e1
      cases e
      obtain ⟨x, e2, r⟩ := cl.2 _ _ e1
      simp only [RepV] at r; subst r
      simp only [hV, e2]
    · cases e
  | .not a, b, e => by
    simp only [hE, hV] at e ⊢
    cases e1 : hE f ρ a with
    | none => rw [e1] at e; cases e
    | some c => rw [hV_of cl e1]; rw [e1] at e; exact e
  | .and a b', b, e => by
    simp only [hE, hV] at e ⊢
    cases e1 : hE f ρ a with
    | none => rw [e1] at e; cases e
    | some c =>
      rw [hV_of cl e1]; rw [e1] at e
      cases c with
      | false => exact e
      | true => exact hV_of cl e
  | .and3 a b' c', b, e => by
    simp only [hE, hV] at e ⊢
    cases e1 : hE f ρ a with
    | none => rw [e1] at e; cases e
    | some c =>
      rw [hV_of cl e1]; rw [e1] at e
      cases c with
      | false => exact e
      | true =>
        dsimp only at e ⊢
        cases e2 : hE f ρ b' with
        | none => rw [e2] at e; cases e
        | some c2 =>
          rw [hV_of cl e2]; rw [e2] at e
          cases c2 with
          | false => exact e
          | true => exact hV_of cl e
/-- what is known of a caught error's class -/
def FOk (K : PySem.W.Frag) (mg : Str → Option Value) (cls : Value) (d : Option Addr) (f : Str → Option Bool) : Prop := ∀ y b, f y = some b → ∃ C, cls = .ref C ∧ d = none ∧ ExcC K C ∧
  ((∃ Y, mg y = some (.ref Y) ∧ PySem.W.kitOne K (.ref C) (.ref Y) = some b) ∨ mg y = none ∧ ∃ t, bootBuiltins y = some (.type t) ∧ PySem.W.kitOne K (.ref C) (.type t) = some b)
def tHE (X : Cx) (n : Option Str) (a : Addr) (f : Str → Option Bool) (h : HE) : TE := fun σ H Q => (∀ z, n = some z → ∃ i : Nat, X.N[i]? = some z ∧ ∃ σ0 : L2.St, σ = σ0.set i (some (.ref a))) ∧ ∃ b, hV f σ h = some b ∧ Q (.bl b) H
section
variable {X : Cx} {a : Addr} {ob : Obj} {cls : Value} {d : Option Addr} {qs : List (Addr × Obj)} {f : Str → Option Bool} {n : Option Str}
theorem pe_HE (hi : X.mg "isinstance" = none) (hz : Zc cls d ob) (hd : ∃ us, ob.data = .fields us) (hf : FOk X.K X.mg cls d f) : ∀ (h : HE) {e : Expr}, mHE X.N X.env.scope n h e = true → PE (X.suite a ((a, ob) :: qs)) e (tHE X n a f h)
  | .bl b, e, m => by
    simp only [mHE] at m; split at m
    · have m := of_decide_eq_true m
      subst m
      refine PE.imp pe_bl fun σ H Q ⟨_, b', e1, q⟩ => ?_
      cases e1; exact q
    · cases m
  | .v i, e, m => by
    simp only [mHE] at m; split at m
    · simp only [Bool.and_eq_true, decide_eq_true_eq] at m
      obtain ⟨⟨m1, m2⟩, m3⟩ := m
      refine PE.imp (pe_var (X := X.suite a ((a, ob) :: qs)) m1 (lookup_vis m2) (dbg_of m3).1 (dbg_of m3).2) fun σ H Q ⟨_, b', e1, q⟩ => ?_
      simp only [hV] at e1
      split at e1
      · rename_i e2; cases e1; exact ⟨_, e2, q⟩
      · cases e1
    · cases m
  | .not h, e, m => by
    simp only [mHE] at m; split at m
    · refine PE.imp (pe_not (pe_HE hi hz hd hf h m)) fun σ H Q ⟨hn, b', e1, q⟩ => ?_
      simp only [hV] at e1
      cases e2 : hV f σ h with
      | none => rw [e2] at e1; cases e1
      | some c =>
        rw [e2] at e1; cases e1
        exact ⟨hn, c, e2, c, rfl, q⟩
    · cases m
  | .and h1 h2, e, m => by
    simp only [mHE] at m; split at m
    · simp only [Bool.and_eq_true] at m
      refine PE.imp (pe_and (pe_HE hi hz hd hf h1 m.1) (pe_one (pe_HE hi hz hd hf h2 m.2))) fun σ H Q ⟨hn, b', e1, q⟩ => ?_
      simp only [hV] at e1
      cases e2 : hV f σ h1 with
      | none => rw [e2] at e1; cases e1
      | some c =>
        rw [e2] at e1
        refine ⟨hn, c, e2, c, rfl, ?_⟩
        cases c with
        | true => exact ⟨hn, b', e1, q⟩
        | false => cases e1; exact q
    · cases m
  | .and3 h1 h2 h3, e, m => by
    simp only [mHE] at m; split at m
    · simp only [Bool.and_eq_true] at m
      refine PE.imp (pe_and (pe_HE hi hz hd hf h1 m.1.1) (pe_and (pe_HE hi hz hd hf h2 m.1.2) (pe_one (pe_HE hi hz hd hf h3 m.2)))) fun σ H Q ⟨hn, b', e1, q⟩ => ?_
      simp only [hV] at e1
      cases e2 : hV f σ h1 with
      | none => rw [e2] at e1; cases e1
      | some c =>
        rw [e2] at e1
        refine ⟨hn, c, e2, c, rfl, ?_⟩
        cases c with
        | false => cases e1; exact q
        | true =>
          dsimp only at e1
          cases e3 : hV f σ h2 with
          | none => rw [e3] at e1; cases e1
          | some c2 =>
            rw [e3] at e1
            refine ⟨hn, c2, e3, c2, rfl, ?_⟩
            cases c2 with
            | true => exact ⟨hn, b', e1, q⟩
            | false => cases e1; exact q
    · cases m
  | .is y, e, m => by
    simp only [mHE] at m; split at m
    · rename_i fn p1 z p2 y' p3 p4
      simp only [Bool.and_eq_true, decide_eq_true_eq] at m
      obtain ⟨⟨⟨⟨⟨⟨⟨⟨rfl, m2⟩, m3⟩, m4⟩, m5⟩, rfl⟩, m7⟩, m8⟩, m9⟩ := m
      refine ⟨fun pins s σ H Q I ⟨hn, b', e1, q⟩ => ?_⟩
      simp only [hV] at e1
      obtain ⟨i, hi1, σ0, rfl⟩ := hn z m3
      have hi2 : (σ0.set i (some (.ref a)))[i]? = some (some (.ref a)) := by
        have l1 := I.len
        rw [List.length_set] at l1
        exact List.getElem?_set_self (by rw [l1]; exact (List.getElem?_eq_some_iff.mp hi1).1)
      obtain ⟨C, rfl, rfl, xc, alt⟩ := hf y b' e1
      have pv : PE (X.suite a ((a, ob) :: qs)) (.Name z p2) (tVar i) := pe_var (X := X.suite a ((a, ob) :: qs)) hi1 (lookup_vis m4) (dbg_of m5).1 (dbg_of m5).2
      rcases alt with ⟨Y, hY, hk⟩ | ⟨hY, t, hb, hk⟩
      · exact (pe_callB (call_isE (X := X) (pn := qs) xc hz hd) (gl_of (X := X.suite a ((a, ob) :: qs)) m2) hi boot_isinst (pa_cons pv (pa_cons (pe_glob (X := X.suite a ((a, ob) :: qs)) (v := .ref Y) (gl_of (X := X.suite a ((a, ob) :: qs)) m7) hY rfl (dbg_of m8).1) pa_nil rfl) rfl) (by decide) (by decide) rfl rfl).run pins s _ H Q I ⟨_, hi2, _, _, _, rfl, fun u r => r, hk, q⟩
      · exact (pe_callB (call_isE (X := X) (pn := qs) xc hz hd) (gl_of (X := X.suite a ((a, ob) :: qs)) m2) hi boot_isinst (pa_cons pv (pa_cons (pe_bltn (X := X.suite a ((a, ob) :: qs)) (v := .ty t) (gl_of (X := X.suite a ((a, ob) :: qs)) m7) hY hb rfl m9 (dbg_of m8).1) pa_nil rfl) rfl) (by decide) (by decide) rfl rfl).run pins s _ H Q I ⟨_, hi2, _, _, _, rfl, fun u r => r, hk, q⟩
    · cases m
/-- what a suite's reading asks -/
def suiR (X : Cx) (n : Option Str) (k : HK) : Sui := fun a cls d D σ H => (∀ z, n = some z → ∃ i : Nat, X.N[i]? = some z ∧ ∃ σ0 : L2.St, σ = σ0.set i (some (.ref a))) ∧ ∃ f, FOk X.K X.mg cls d f ∧ match k with
  | .ret h => ∃ b, hV f σ h = some b ∧ D.rt (.bl b) H
  | .setB i h => ∃ b, hV f σ h = some b ∧ D.nx (σ.set i (some (.bl b))) H
  | .setN i => D.nx (σ.set i (some .non)) H
  | .setS i x => D.nx (σ.set i (some (.str x))) H
theorem mHE_noswap {N : List Str} {sc : Scope} {n : Option Str} {h : HE} {e : Expr} (m : mHE N sc n h e = true) (t : Option Expr) (l : Nat) (env : Env) : swapsWith e t l env = pure false := by
  cases e
  case ListComp => cases h <;> simp [mHE] at m
  case SetComp => cases h <;> simp [mHE] at m
  case DictComp => cases h <;> simp [mHE] at m
  all_goals rfl
theorem sui_ok (nd : X.N.Nodup) (hi : X.mg "isinstance" = none) : ∀ (k : HK) {su : List Stmt}, mHK X.N X.env.scope n k su = true → SuiOk X su (suiR X n k)
  | .ret h, su, m => by
    simp only [mHK] at m; split at m
    · intro a ob cls d qs hz hd
      refine ⟨fun pins s σ H D I ⟨hn, f, fo, b, e1, q⟩ => ?_⟩
      exact (PSs.imp (pss_cons (ps_ret (pe_HE hi hz hd fo h m)) pss_nil) fun D' σ' H' q' => q').run pins s σ H D I ⟨hn, b, e1, q⟩
    · cases m
  | .setB i h, su, m => by
    simp only [mHK] at m; split at m
    · simp only [Bool.and_eq_true, decide_eq_true_eq] at m
      obtain ⟨⟨m1, m2⟩, m3⟩ := m
      have sw := fun t l env => (show swapsWithSole [t] _ l env = pure false from mHE_noswap m3 (some t) l env)
      intro a ob cls d qs hz hd
      refine ⟨fun pins s σ H D I ⟨hn, f, fo, b, e1, q⟩ => ?_⟩
      exact (PSs.imp (pss_cons (ps_asg (pe_HE hi hz hd fo h m3) (pg_name (X := X.suite a ((a, ob) :: qs)) nd m1 (.inl m2) (.inr m2)) (hs := sw _ _ _)) pss_nil) fun D' σ' H' q' => q').run pins s σ H D I ⟨hn, b, e1, q⟩
    · cases m
  | .setN i, su, m => by
    simp only [mHK] at m; split at m
    · simp only [Bool.and_eq_true, decide_eq_true_eq] at m
      obtain ⟨m1, m2⟩ := m
      intro a ob cls d qs hz hd
      refine ⟨fun pins s σ H D I ⟨hn, f, fo, q⟩ => ?_⟩
      exact (PSs.imp (pss_cons (ps_asg pe_non (pg_name (X := X.suite a ((a, ob) :: qs)) nd m1 (.inl m2) (.inr m2))) pss_nil) fun D' σ' H' q' => q').run pins s σ H D I q
    · cases m
  | .setS i z, su, m => by
    simp only [mHK] at m; split at m
    · simp only [Bool.and_eq_true, decide_eq_true_eq] at m
      obtain ⟨⟨m1, m2⟩, rfl⟩ := m
      intro a ob cls d qs hz hd
      refine ⟨fun pins s σ H D I ⟨hn, f, fo, q⟩ => ?_⟩
      exact (PSs.imp (pss_cons (ps_asg pe_str (pg_name (X := X.suite a ((a, ob) :: qs)) nd m1 (.inl m2) (.inr m2))) pss_nil) fun D' σ' H' q' => q').run pins s σ H D I q
    · cases m
end
end M

set_option maxHeartbeats 4000000
namespace M
open PySem PySem.Spec L2
structure EnR (K : PySem.W.Frag) (S1 : Sto) (H1 : Hp) (XP : XLoc) (D : En) (D' : Ends) : Prop where
  nx : ∀ ρ S σ H, Evo S1 H1 S H → Cor K S H → CorL K H ρ σ → D.nx ρ S → D'.nx σ H
  rt : ∀ v S x H, Evo S1 H1 S H → Cor K S H → RepV K H v x → D.rt v S → D'.rt x H
  bk : ∀ ρ S σ H, Evo S1 H1 S H → Cor K S H → CorL K H ρ σ → D.bk ρ S → D'.bk σ H
  ct : ∀ ρ S σ H, Evo S1 H1 S H → Cor K S H → CorL K H ρ σ → D.ct ρ S → D'.ct σ H
  xc : D.xc = XP
theorem EnR.evo {K : PySem.W.Frag} {S1 S2 : Sto} {H1 H2 : Hp} {XP : XLoc} {D : En} {D' : Ends} (h : EnR K S1 H1 XP D D') (e : Evo S1 H1 S2 H2) : EnR K S2 H2 XP D D' :=
  ⟨fun ρ S σ H f => h.nx ρ S σ H (e.trans f), fun v S x H f => h.rt v S x H (e.trans f), fun ρ S σ H f => h.bk ρ S σ H (e.trans f), fun ρ S σ H f => h.ct ρ S σ H (e.trans f), h.xc⟩
def lS (K : PySem.W.Frag) (S0 : Sto) (H0 : Hp) (XP : XLoc) (t : En → Loc → Sto → Prop) : TS := fun D' σ H => ∃ ρ S D, CorL K H ρ σ ∧ Cor K S H ∧ Evo S0 H0 S H ∧ EnR K S H XP D D' ∧ t D ρ S
/-- x('text') makes an error of a class -/
def RaisOk (X : Cx) (G : Gam) (x : Str) : Prop := ∃ C, G.ecls x = some C ∧ X.mg x = some (.ref C) ∧ ∀ (pn : List (Addr × Obj)) (xe : Value → Shared → Prop) (m : Str) (j : Nat) (p p2 pos : Pos), Gl X x → (x == ("__debug__" : Str)) = false → PMk (X.tr pn xe) (.Call (.Name x p) [.Constant (.str m) j p2] [] pos) (fun _ H Q => Q (.ref C) none H)
structure Ss (X : Cx) (G : Gam) (k : Nat) (S0 : Sto) (H0 : Hp) (XP : XLoc) (rs : List Str) : Prop extends Sd X G k S0 H0 XP where
  own : ∀ (i : Nat) (x : Str), X.N[i]? = some x → (X.fn x = true ∨ X.env.scope.names.lookup x = some .local)
  kind : X.env.scope.kind = .function
  pass : PassesOwn (model X.prog X.w) X.A X.env X.xe
  rais : ∀ x ∈ rs, RaisOk X G x
  fr : X.stack = X.env :: X.outer ∧ X.env.frame = some X.env.locals
theorem mE_setc {N : List Str} {sc : Scope} {m : E} {a b c d} : mE N sc m (.SetComp a b c d) = false := by cases m <;> simp [mE]
theorem mE_dictc {N : List Str} {sc : Scope} {m : E} {a b c d e} : mE N sc m (.DictComp a b c d e) = false := by cases m <;> simp [mE]
theorem noSwap {N : List Str} {sc : Scope} {m : E} {e : Expr} (h : mE N sc m e = true) (hn : ∀ a b c d, e ≠ .ListComp a b c d) (t : Option Expr) (l : Nat) (env : Env) : swapsWith e t l env = pure false := by
  cases e
  case ListComp => exact absurd rfl (hn _ _ _ _)
  case SetComp => rw [mE_setc] at h; cases h
  case DictComp => rw [mE_dictc] at h; cases h
  all_goals rfl
theorem noSwap2 {a b c d} {t : Expr} (hn : ∀ x p, t ≠ .Name x p) (l : Nat) (env : Env) : swapsWith (.ListComp a b c d) (some t) l env = pure false := by
  cases t
  case Name => exact absurd rfl (hn _ _)
  all_goals rfl
theorem swapB {a b c d} {x : Str} {p : Pos} (l : Nat) (env : Env) : swapsWith (.ListComp a b c d) (some (.Name x p)) l env = pure (env.blockKind == .function && env.kindOf x == some .local && p.line == (Expr.ListComp a b c d).pos.line
      && !(c.names.any fun (n, k) => n == x && (k == .local || k == .cell))) := rfl
theorem fm_len {α β : Type} {f : α → Option β} : ∀ {l : List α}, (l.filterMap f).length = l.length → ∀ x ∈ l, (f x).isSome = true
  | [], _, _, h => by cases h
  | y :: l, e, x, h => by
    rw [List.filterMap_cons] at e
    split at e
    · rename_i hn
      have := List.length_filterMap_le f l
      rw [e] at this
      simp only [List.length_cons] at this
      omega
    · rename_i z hz
      simp only [List.length_cons, Nat.add_right_cancel_iff] at e
      rcases List.mem_cons.mp h with rfl | h
      · rw [hz]; rfl
      · exact fm_len e x h
theorem stores_none {ts : List Expr} {vs : List Expr} {k1 k2 p1 p2} {env : Env} (h : vs.all (foldedForSure 8) = true ∨ 3 < ts.length ∨ ts.any (fun t => match t with | .Name x _ => (match env.scope.names.lookup x with | some .local => false | _ => true) | _ => true) = true) :
    swappedStores [.Tuple ts k1 p1] (.Tuple vs k2 p2) env = pure none := by
  unfold swappedStores
  dsimp only
  split
  · rfl
  rename_i h1
  split
  · rfl
  split
  · rfl
  rename_i h3
  split
  · rfl
  rename_i h4
  exfalso
  rcases h with h | h | h
  · exact h4 h
  · simp only [Bool.or_eq_true, Bool.not_eq_true', Bool.or_eq_false_iff, beq_eq_false_iff_ne, bne_iff_ne, ne_eq, not_or, not_and] at h1
    omega
  · simp only [Bool.or_eq_true, bne_iff_ne, ne_eq, not_or, Decidable.not_not] at h3
    obtain ⟨t, ht, q⟩ := List.any_eq_true.mp h
    have z := fm_len h3.1 t ht
    cases t
    case Name x p =>
      dsimp only at q z
      split at q
      · cases q
      · rename_i hne
        split at z
        · rename_i hk
          simp only [Bool.and_eq_true, beq_iff_eq] at hk
          exact hne hk.1
        · cases z
    all_goals cases z
def isStar : Expr → Bool
  | .Starred .. => true
  | _ => false
theorem not_star {N : List Str} {sc : Scope} {m : E} {e : Expr} (h : mE N sc m e = true) : isStar e = false := by
  cases e
  case Starred => rw [mE_star] at h; cases h
  all_goals rfl
theorem swap2 {a b : Expr} {x y : Str} {px py kt pt k2 pt2} {env : Env} (hf : env.blockKind = .function) (hx : env.scope.names.lookup x = some .local) (hy : env.scope.names.lookup y = some .local) (hl : py.line = px.line) (hxy : x ≠ y)
    (sa : isStar a = false) (sb : isStar b = false) (nf : ([a, b].all (foldedForSure 8)) = false) (nc : ([a, b].all (constantsAlone 8)) = false) :
    swappedStores [.Tuple [.Name x px, .Name y py] kt pt] (.Tuple [a, b] k2 pt2) env = pure (some [x, y]) := by
  have kx : env.kindOf x = some .local := hx
  have ky : env.kindOf y = some .local := hy
  have pp : (Expr.Name x px).pos.line = px.line := rfl
  unfold swappedStores
  dsimp only
  have e1 : (([a, b] : List Expr).any isStar) = false := by simp only [List.any_cons, List.any_nil, Bool.or_false, sa, sb]
  have e2 : ([x, y] : List Str).eraseDups = [x, y] := by
    have : (x == y) = false := by simpa using hxy
    have : (y == x) = false := by simpa using Ne.symm hxy
    simp [List.eraseDups_cons, this]
  simp only [hf, nf, nc, e1, List.head?_cons, Option.map_some, Option.getD_some, pp, List.filterMap_cons, List.filterMap_nil, kx, ky, hl, beq_self_eq_true, Bool.and_self, if_true, e2]
  refine (if_neg (by simp)).trans ((if_neg fun h => absurd (e1.symm.trans h) (by decide)).trans ((if_neg (by simp)).trans ((if_neg (by decide)).trans (if_neg (by decide)))))
theorem swap3 {a b c : Expr} {x y z : Str} {px py pz kt pt k2 pt2} {env : Env} (hf : env.blockKind = .function) (hx : env.scope.names.lookup x = some .local) (hy : env.scope.names.lookup y = some .local) (hz : env.scope.names.lookup z = some .local) (hl : py.line = px.line) (hl2 : pz.line = px.line) (hxy : x ≠ y) (hxz : x ≠ z) (hyz : y ≠ z)
    (sa : isStar a = false) (sb : isStar b = false) (sc : isStar c = false) (nf : ([a, b, c].all (foldedForSure 8)) = false) (nc : ([a, b, c].all (constantsAlone 8)) = false) :
    swappedStores [.Tuple [.Name x px, .Name y py, .Name z pz] kt pt] (.Tuple [a, b, c] k2 pt2) env = pure (some [x, y, z]) := by
  have kx : env.kindOf x = some .local := hx
  have ky : env.kindOf y = some .local := hy
  have kz : env.kindOf z = some .local := hz
  have pp : (Expr.Name x px).pos.line = px.line := rfl
  unfold swappedStores
  dsimp only
  have e1 : (([a, b, c] : List Expr).any isStar) = false := by simp only [List.any_cons, List.any_nil, Bool.or_false, sa, sb, sc]
  have e2 : ([x, y, z] : List Str).eraseDups = [x, y, z] := by
    have h1 : (y == x) = false := by simpa using Ne.symm hxy
    have h2 : (z == x) = false := by simpa using Ne.symm hxz
    have h3 : (z == y) = false := by simpa using Ne.symm hyz
    simp [List.eraseDups_cons, h1, h2, h3]
  simp only [hf, nf, nc, e1, List.head?_cons, Option.map_some, Option.getD_some, pp, List.filterMap_cons, List.filterMap_nil, kx, ky, kz, hl, hl2, beq_self_eq_true, Bool.and_self, if_true, e2]
  refine (if_neg (by simp)).trans ((if_neg fun h => absurd (e1.symm.trans h) (by decide)).trans ((if_neg (by simp)).trans ((if_neg (by decide)).trans (if_neg (by decide)))))
theorem aug_snd {X : Cx} (op : Operator) : PIp X op (l2 X.K (wAug op)) := fun pins s σ H x y v u Q I rx ry ⟨a, b, S, ra, rb, c, q⟩ => by
  cases op <;> simp only [wAug] at q
  case Add =>
    unfold aAdd at q
    split at q
    · simp only [RepV] at ra rb; subst ra; subst rb
      exact ip_add pins s σ H _ _ v u Q I rx ry ⟨_, _, rfl, rfl, q.int c⟩
    · simp only [RepV] at ra rb; subst ra; subst rb
      obtain ⟨xs, ys, h1, h2, hl, q⟩ := q
      obtain ⟨xs', e1, r1⟩ := c.lst h1
      obtain ⟨ys', e2, r2⟩ := c.lst h2
      refine iop_ext pins s σ H _ _ v u Q I rx ry ⟨_, _, _, _, rfl, rfl, e1, e2, by rw [r1.length, r2.length]; exact hl, ?_⟩
      exact q _ _ (.chg h1 e1 trivial) (c.setL h1 e1 (r1.append r2)) (by simp only [RepV])
    · exact q.elim
  case Sub =>
    unfold bSub at q
    split at q
    · simp only [RepV] at ra rb; subst ra; subst rb
      exact ip_sub pins s σ H _ _ v u Q I rx ry ⟨_, _, rfl, rfl, q.int c⟩
    · exact q.elim
  all_goals exact q.elim
theorem forW_keep {keep : Sto → Prop} {turn : Val → Loc → Sto → En → Prop} {D : En} {xs : List Val} {ρ : Loc} {S : Sto} (h : forW keep turn D xs ρ S) : keep S := by
  cases xs with
  | nil => exact h.1
  | cons x xs => exact h.1
theorem mPar_cons {N : List Str} {sc : Scope} {l i : Nat} {is : List Nat} {es : List Expr} (h : mPar N sc l (i :: is) es = true) : ∃ x p r, es = .Name x p :: r ∧ N[i]? = some x ∧ sc.names.lookup x = some .local ∧ p.line = l ∧ mPar N sc l is r = true := by
  cases es with
  | nil => simp [mPar] at h
  | cons e r =>
    cases e
    case Name x p =>
      simp only [mPar, Bool.and_eq_true, decide_eq_true_eq] at h
      obtain ⟨⟨⟨h1, h2⟩, h3⟩, h4⟩ := h
      refine ⟨_, _, _, rfl, h1, ?_, h3, h4⟩
      split at h2
      · assumption
      · cases h2
    all_goals simp [mPar] at h
theorem mPar_nil {N : List Str} {sc : Scope} {l : Nat} {es : List Expr} (h : mPar N sc l [] es = true) : es = [] := by
  cases es with
  | nil => rfl
  | cons e r => simp [mPar] at h
theorem mEs_cons {N : List Str} {sc : Scope} {ms : List E} {e : Expr} {es : List Expr} (h : mEs N sc ms (e :: es) = true) : ∃ m r, ms = m :: r ∧ mE N sc m e = true ∧ mEs N sc r es = true := by
  cases ms with
  | nil => simp [mEs] at h
  | cons m r => simp only [mEs, Bool.and_eq_true] at h; exact ⟨m, r, rfl, h.1, h.2⟩
theorem wEs_len (G : Gam) (X : XPost) : ∀ (es : List E) {ρ : Loc} {S : Sto} {Q : List Val → Sto → Prop}, wEs G X es ρ S Q → wEs G X es ρ S (fun vs S1 => vs.length = es.length ∧ Q vs S1)
  | [], _, _, _, q => by simp only [wEs] at q ⊢; exact ⟨rfl, q⟩
  | e :: es, _, _, _, q => by
    simp only [wEs] at q ⊢
    exact wE_mono G X e (fun v S1 q => wEs_mono G X es (fun vs S2 q => ⟨by simp [q.1], q.2⟩) (wEs_len G X es q)) q
section
variable {X : Cx} {G : Gam} {k : Nat} {S0 : Sto} {H0 : Hp} {XP : XLoc} {rs : List Str}
theorem Ss.fk (D : Ss X G k S0 H0 XP rs) : X.env.blockKind = .function := by unfold Env.blockKind; rw [D.kind]; rfl
theorem Ss.startS (D : Ss X G k S0 H0 XP rs) (S1 : Sto) (H1 : Hp) : Ss X G k S1 H1 (fun _ _ _ => False) rs := ⟨D.toSd.noX.start S1 H1, D.own, D.kind, D.pass, D.rais, D.fr⟩
theorem nodup_ne {N : List Str} {i j : Nat} {x y : Str} (h : N[i]? = some x) (h' : N[j]? = some y) (hij : i ≠ j) (nd : N.Nodup) : x ≠ y := fun e => by
  subst e; exact hij (nodup_ix nd h h')
theorem sPar (D : Ss X G k S0 H0 XP rs) {is : List Nat} {es : List E} {st : Stmt} (h : mC X.N X.env.scope rs (.par is es) st = true) : PS X st (lS X.K S0 H0 XP (wC G (.par is es))) := by
  simp only [mC] at h; split at h
  · rename_i ts kt pt es' k2 pt2 pos
    simp only [Bool.and_eq_true, Bool.or_eq_true, decide_eq_true_eq, Bool.not_eq_true'] at h
    obtain ⟨⟨⟨⟨⟨⟨h1, h2⟩, h3⟩, h4⟩, h5⟩, h6⟩, h7⟩ := h
    have hl := mEs_length h2
    rcases h4 with h4 | h4
    · match is, h4 with
      | [i, j], _ =>
        obtain ⟨x, px, r, rfl, hx, lx, ex, h1⟩ := mPar_cons h1
        obtain ⟨y, py, r, rfl, hy, ly, ey, h1⟩ := mPar_cons h1
        have := mPar_nil h1; subst this
        have hij : i ≠ j := by simpa using h3
        match es, es', h5, hl with
        | [ma, mb], [a, b], _, _ =>
        obtain ⟨_, _, e1, ha, h2a⟩ := mEs_cons h2
        cases e1
        obtain ⟨_, _, e1, hb, h2b⟩ := mEs_cons h2a
        cases e1
        refine PS.imp (ps_par D.calm D.nd hx hy hij lx ly (sEs G k S0 H0 _ D.toSd h2) (swap2 D.fk lx ly (ey.trans ex.symm) (nodup_ne hx hy hij D.nd) (not_star ha) (not_star hb) h6 h7)) fun D' σ H ⟨ρ, S, En, cl, c, e0, en, q⟩ => ?_
        simp only [wC] at q; rw [en.xc] at q
        refine ⟨ρ, S, cl, c, e0, wEs_mono G _ _ (fun vs S1 ⟨hv, q⟩ H1 xs e1 c1 r1 => ?_) (wEs_len G _ _ q)⟩
        match vs, hv with
        | [v, w], _ =>
        simp only [RepVs] at r1
        obtain ⟨xv, _, rfl, rv, xw, _, rfl, rw', rfl⟩ := r1
        exact ⟨_, _, rfl, en.nx _ _ _ _ e1 c1 (((cl.evo e1).set i rv).set j rw') q⟩
    · match is, h4 with
      | [i, j, l], _ =>
        obtain ⟨x, px, r, rfl, hx, lx, ex, h1⟩ := mPar_cons h1
        obtain ⟨y, py, r, rfl, hy, ly, ey, h1⟩ := mPar_cons h1
        obtain ⟨z, pz, r, rfl, hz, lz, ez, h1⟩ := mPar_cons h1
        have := mPar_nil h1; subst this
        have hij : (i ≠ j ∧ i ≠ l) ∧ j ≠ l := by simpa using h3
        match es, es', h5, hl with
        | [ma, mb, mc], [a, b, c], _, _ =>
        obtain ⟨_, _, e1, ha, h2a⟩ := mEs_cons h2
        cases e1
        obtain ⟨_, _, e1, hb, h2b⟩ := mEs_cons h2a
        cases e1
        obtain ⟨_, _, e1, hc, h2c⟩ := mEs_cons h2b
        cases e1
        refine PS.imp (ps_par3 D.calm D.nd hx hy hz hij.1.1 hij.1.2 hij.2 lx ly lz (sEs G k S0 H0 _ D.toSd h2) (swap3 D.fk lx ly lz (ey.trans ex.symm) (ez.trans ex.symm) (nodup_ne hx hy hij.1.1 D.nd) (nodup_ne hx hz hij.1.2 D.nd) (nodup_ne hy hz hij.2 D.nd) (not_star ha) (not_star hb) (not_star hc) h6 h7)) fun D' σ H ⟨ρ, S, En, cl, c, e0, en, q⟩ => ?_
        simp only [wC] at q; rw [en.xc] at q
        refine ⟨ρ, S, cl, c, e0, wEs_mono G _ _ (fun vs S1 ⟨hv, q⟩ H1 xs e1 c1 r1 => ?_) (wEs_len G _ _ q)⟩
        match vs, hv with
        | [v, w, u], _ =>
        simp only [RepVs] at r1
        obtain ⟨xv, _, rfl, rv, xw, _, rfl, rw', xu, _, rfl, ru, rfl⟩ := r1
        exact ⟨_, _, _, rfl, en.nx _ _ _ _ e1 c1 ((((cl.evo e1).set i rv).set j rw').set l ru) q⟩
  · cases h
/-- name = [..], on one line -/
theorem sAsgLc (D : Ss X G k S0 H0 XP rs) {t : T} {e : E} {elt : Expr} {gens : List Comprehension} {scope : Scope} {pos py spos : Pos} {y : Str} (ht : mT X.N X.env.scope t (.Name y py) = true) (he : mE X.N X.env.scope e (.ListComp elt gens scope pos) = true)
    (sw : swapsWith (.ListComp elt gens scope pos) (some (.Name y py)) spos.line X.env = pure true) (hyl : X.env.scope.names.lookup y = some .local) (hnl : notLock e = true) :
    PS X (.Assign [.Name y py] (.ListComp elt gens scope pos) spos) (lS X.K S0 H0 XP (wC G (.asg t e))) := by
  cases t <;> simp only [mT, Bool.and_eq_true, decide_eq_true_eq, Bool.false_eq_true] at ht
  rename_i i
  cases e
  case lockE => simp [notLock] at hnl
  all_goals simp only [mE, Bool.false_eq_true] at he
  rename_i own t it ifs b
  split at he
  · rename_i heq
    cases heq
    simp only [Bool.and_eq_true, decide_eq_true_eq] at he
    obtain ⟨⟨⟨⟨⟨⟨⟨⟨hz, h1⟩, h2⟩, h3⟩, h4⟩, h5⟩, h6⟩, h7⟩, h8⟩ := he
    have hown := blk_own (blkOk_by h1) h8 h7
    refine PS.imp (ps_setLc (i := i) (g := lG' X.K S0 H0 (slots t) fun v ρ S Q => wTg G M.noX t v ρ S Q) (tt := lB X.K S0 H0 fun ρ S Q => wBs G M.noX ifs ρ S Q) (te := lE X.K S0 H0 fun ρ S Q => wE G M.noX b ρ S Q) D.calm D.nd ht.1 hyl sw (sI G k S0 H0 it D.toSd h2 hz) (blkOk_by h1) (fun s H C cl fp => sT G k S0 H0 t (D.toSd.blk s H scope (compEnvC scope cl C X.env) fp) h3 hown) (fun s H C cl fp => sBs G k S0 H0 ifs (D.toSd.blk s H scope (compEnvC scope cl C X.env) fp) h4 h5) (fun s H C cl fp => sE G k S0 H0 b (D.toSd.blk s H scope (compEnvC scope cl C X.env) fp) h6) (noSet h2 _)) fun D' σ H ⟨ρ, S, En, cl, c, e0, en, q⟩ => ?_
    simp only [wC] at q; rw [en.xc] at q
    have q2 : lE X.K S0 H0 (fun ρ S Q => wE G (fun c S' => XP c ρ S') (.lc own t it ifs b) ρ S Q) σ H (fun x H1 => gName i x σ H1 D'.nx) := by
      refine ⟨ρ, S, cl, c, e0, wE_mono G _ _ (fun v S1 q H1 x e1 c1 r1 => ?_) q⟩
      simp only [wTg] at q
      exact en.nx _ _ _ _ e1 c1 ((cl.evo e1).set i r1) q
    simp only [wE] at q2
    exact lc_read (tI := fun ρ S R => wI G (fun c S' => XP c ρ S') it ρ S R) (tG := fun v ρ S Q => wTg G M.noX t v ρ S Q) (tB := fun ρ S Q => wBs G M.noX ifs ρ S Q) (tE := fun ρ S Q => wE G M.noX b ρ S Q) (slots t) h7 (wI_mono G _ it) (wTg_mono G _ t) (wBs_mono G _ ifs) (wE_mono G _ b) q2
  · cases he
theorem sAsg (D : Ss X G k S0 H0 XP rs) {t : T} {e : E} {tg e' : Expr} {spos : Pos} (ht : mT X.N X.env.scope t tg = true) (he : mE X.N X.env.scope e e' = true) (hs : swapsWith e' (some tg) spos.line X.env = pure false) (hw : swappedStores [tg] e' X.env = pure none) :
    PS X (.Assign [tg] e' spos) (lS X.K S0 H0 XP (wC G (.asg t e))) := by
  refine PS.imp (ps_asg (sE G k S0 H0 e D.toSd he) (sT G k S0 H0 t D.toSd ht (fun i _ x hx => D.own i x hx)) hs hw (by rw [assign_one ht]; rfl)) fun D' σ H ⟨ρ, S, En, cl, c, e0, en, q⟩ => ?_
  simp only [wC] at q; rw [en.xc] at q
  refine ⟨ρ, S, cl, c, e0, wE_mono G _ e (fun v S1 q H1 x e1 c1 r1 => ?_) q⟩
  exact ⟨v, ρ, S1, r1, cl.evo e1, c1, e0.trans e1, wTg_mono G _ t (fun ρ' S2 q σ' H2 e2 c2 cl2 _ _ => en.nx _ _ _ _ (e1.trans e2) c2 cl2 q) q⟩
end
section
variable {X : Cx} {G : Gam} {k : Nat} {S0 : Sto} {H0 : Hp} {XP : XLoc} {rs : List Str}
/-- the clauses of the model and those of the program -/
def RelH (X : Cx) (G : Gam) (h : Hd) (c : Cau) : Prop := ∃ (cc : Addr) (nm : Option Str) (ms : List Addr), G.ecls h.y = some cc ∧ h.more.map G.ecls = ms.map some ∧ c.c = .ref cc ∧ c.more = ms.map Value.ref ∧ c.n = h.n ∧ c.ts = suiR X nm h.k ∧ match h.n, nm with
  | none, none => True
  | some i, some z => X.N[i]? = some z
  | _, _ => False
theorem clauses_of (D : Ss X G k S0 H0 XP rs) : ∀ (hs : List Hd) {hds : List ExceptHandler}, mHds X.N X.env.scope rs hs hds = true → ∃ ks, Cls2 X hds ks ∧ Paired (RelH X G) hs ks
  | [], hds, m => by
    simp only [mHds] at m; split at m
    · exact ⟨[], .nil, .nil⟩
    · cases m
  | h :: hs, hds, m => by
    simp only [mHds] at m; split at m
    · rename_i x xs
      rw [Bool.and_eq_true] at m
      obtain ⟨m1, m2⟩ := m
      obtain ⟨ks, c2, rel⟩ := clauses_of D hs m2
      unfold mHd at m1
      split at m1
      · rename_i y py nm su pp
        simp only [Bool.and_eq_true, decide_eq_true_eq] at m1
        obtain ⟨⟨⟨⟨⟨⟨a0, rfl⟩, a2⟩, a3⟩, a4⟩, a5⟩, a6⟩ := m1
        have a0 : h.more.map G.ecls = ([] : List Addr).map some := by rw [a0]; rfl
        obtain ⟨cc, hc, hmg, mk⟩ := D.rais _ (List.contains_iff_mem.mp a4)
        have so := sui_ok (n := nm) D.nd (D.g.blt _ (by decide +kernel)) h.k a5
        have nms : Names X h.y (.ref cc) := ⟨gl_of a2, (dbg_of a3).1, .inl hmg⟩
        cases su with
        | nil => cases e : h.k <;> rw [e] at a5 <;> simp [mHK] at a5
        | cons b1 su =>
          split at a6
          · rename_i e1
            refine ⟨⟨.ref cc, none, suiR X none h.k, []⟩ :: ks, .un nms so c2, .cons ⟨cc, none, [], hc, a0, rfl, rfl, e1.symm, rfl, ?_⟩ rel⟩
            rw [e1]; trivial
          · rename_i i z e1
            simp only [Bool.and_eq_true, decide_eq_true_eq] at a6
            refine ⟨⟨.ref cc, some i, suiR X (some z) h.k, []⟩ :: ks, .nm nms a6.1 a6.2 so c2, .cons ⟨cc, some z, [], hc, a0, rfl, rfl, e1.symm, rfl, ?_⟩ rel⟩
            rw [e1]; exact a6.1
          · cases a6
      · rename_i y py y2 py2 kt pt su pp
        simp only [Bool.and_eq_true, decide_eq_true_eq] at m1
        obtain ⟨⟨⟨⟨⟨a0, a1⟩, rfl⟩, ⟨a2, a3⟩, a4⟩, ⟨b2, b3⟩, b4⟩, a5⟩ := m1
        obtain ⟨cc, hc, hmg, mk⟩ := D.rais _ (List.contains_iff_mem.mp a4)
        obtain ⟨cc2, hc2, hmg2, mk2⟩ := D.rais _ (List.contains_iff_mem.mp b4)
        have so := sui_ok (n := none) D.nd (D.g.blt _ (by decide +kernel)) h.k a5
        have nms : Names X h.y (.ref cc) := ⟨gl_of a2, (dbg_of a3).1, .inl hmg⟩
        have nms2 : Names X y2 (.ref cc2) := ⟨gl_of b2, (dbg_of b3).1, .inl hmg2⟩
        cases su with
        | nil => cases e : h.k <;> rw [e] at a5 <;> simp [mHK] at a5
        | cons b1 su =>
          refine ⟨⟨.ref cc, none, suiR X none h.k, [.ref cc2]⟩ :: ks, .un2 nms nms2 so c2, .cons ⟨cc, none, [cc2], hc, by rw [a1]; simp only [List.map_cons, List.map_nil, hc2], rfl, rfl, a0.symm, rfl, ?_⟩ rel⟩
          rw [a0]; trivial
      · rename_i y py y2 py2 y3 py3 kt pt su pp
        simp only [Bool.and_eq_true, decide_eq_true_eq] at m1
        obtain ⟨⟨⟨⟨⟨⟨a0, a1⟩, rfl⟩, ⟨a2, a3⟩, a4⟩, ⟨b2, b3⟩, b4⟩, ⟨d2, d3⟩, d4⟩, a5⟩ := m1
        obtain ⟨cc, hc, hmg, mk⟩ := D.rais _ (List.contains_iff_mem.mp a4)
        obtain ⟨cc2, hc2, hmg2, mk2⟩ := D.rais _ (List.contains_iff_mem.mp b4)
        obtain ⟨cc3, hc3, hmg3, mk3⟩ := D.rais _ (List.contains_iff_mem.mp d4)
        have so := sui_ok (n := none) D.nd (D.g.blt _ (by decide +kernel)) h.k a5
        have nms : Names X h.y (.ref cc) := ⟨gl_of a2, (dbg_of a3).1, .inl hmg⟩
        have nms2 : Names X y2 (.ref cc2) := ⟨gl_of b2, (dbg_of b3).1, .inl hmg2⟩
        have nms3 : Names X y3 (.ref cc3) := ⟨gl_of d2, (dbg_of d3).1, .inl hmg3⟩
        cases su with
        | nil => cases e : h.k <;> rw [e] at a5 <;> simp [mHK] at a5
        | cons b1 su =>
          refine ⟨⟨.ref cc, none, suiR X none h.k, [.ref cc2, .ref cc3]⟩ :: ks, .un3 nms nms2 nms3 so c2, .cons ⟨cc, none, [cc2, cc3], hc, by rw [a1]; simp only [List.map_cons, List.map_nil, hc2, hc3], rfl, rfl, a0.symm, rfl, ?_⟩ rel⟩
          rw [a0]; trivial
      · cases m1
    · cases m
theorem CorL.off {K : PySem.W.Frag} {H : Hp} {ρ : Loc} {σ : L2.St} (h : CorL K H ρ σ) (i : Nat) (o : Option V) : CorL K H (ρ.set i none) (σ.set i o) := by
  refine ⟨by simp only [List.length_set]; exact h.1, fun j v e => ?_⟩
  by_cases c : i = j
  · subst c
    rw [List.getElem?_set] at e
    split at e
    · split at e <;> cases e
    · contradiction
  · rw [List.getElem?_set_ne c] at e ⊢
    exact h.2 j v e
theorem exm_more {K : PySem.W.Frag} {cls : Value} {G : Gam} {c : Str} (g : ∀ y C b, G.ecls y = some C → G.exm c y = some b → PySem.W.exmOne K cls (.ref C) = some b) : ∀ (ms : List Str) (as : List Addr) (y : Str) (C : Addr) (b : Bool), G.ecls y = some C → ms.map G.ecls = as.map some → exmS G c y ms = some b → PySem.W.exmAny K cls (.ref C :: as.map Value.ref) = some b
  | [], as, y, C, b, hy, e, h => by
    cases as with
    | cons a as => cases e
    | nil =>
      have := g y C b hy h
      simp only [List.map_nil, PySem.W.exmAny, this, Bool.or_false]
  | m :: ms, as, y, C, b, hy, e, h => by
    cases as with
    | nil => cases e
    | cons a as =>
      simp only [List.map_cons, List.cons.injEq] at e
      unfold exmS at h
      split at h
      · rename_i p q h1 h2
        cases h
        have e1 := g y C p hy h1
        have e2 := exm_more g ms as m a q e.1 e.2 h2
        rw [List.map_cons]
        unfold PySem.W.exmAny
        rw [e1, e2]
      · cases h
/-- what the clauses wish -/
theorem mix_of {D' : Ends} {S : Sto} {H : Hp} {En : En} (D : Ss X G k S0 H0 XP rs) (en : EnR X.K S H XP En D') {c' : Str} {C : Addr} {ρ' : Loc} {σ' : L2.St} {S' : Sto} {H' : Hp} {Wo : WX} (hec : G.ecls c' = some C) (cl : CorL X.K H' ρ' σ') (co : Cor X.K S' H') (ev : Evo S H S' H') (out : En.xc c' ρ' S' → Wo (.ref C) none σ' H') :
    ∀ {hs : List Hd} {ks : List Cau}, Paired (RelH X G) hs ks → wHs G En c' ρ' S' hs → wMix X.K Wo D' ks (.ref C) none σ' H' := by
  intro hs ks rel
  induction rel with
  | nil => exact out
  | @cons h c hs ks r rel ih =>
    intro w
    obtain ⟨cc, nm, ms, r1, r1m, r2, r2m, r3, r4, r5⟩ := r
    simp only [wHs] at w
    obtain ⟨b, hx, w⟩ := w
    have one : ∀ y C1 b, G.ecls y = some C1 → G.exm c' y = some b → PySem.W.exmOne X.K (.ref C) (.ref C1) = some b := fun y C1 b hy hb => by
      obtain ⟨C2, Y, a1, a2, a3⟩ := D.g.exm _ _ _ hb
      rw [hec] at a1; cases a1
      rw [hy] at a2; cases a2
      exact a3
    have ex : exmC X.K (.ref C) c = some b := by
      unfold exmC
      rw [r2m, r2]
      cases ms with
      | nil =>
        have e : h.more = [] := by
          cases e : h.more with
          | nil => rfl
          | cons m l => rw [e] at r1m; cases r1m
        rw [e] at hx
        exact one _ _ _ r1 hx
      | cons m l => exact exm_more one _ _ _ _ _ r1 r1m hx
    refine ⟨b, ex, fun eb a na => ?_, fun eb => ?_⟩
    · subst eb
      rw [if_pos rfl] at w
      rw [r4, r3]
      cases hn : h.n with
      | none =>
        rw [hn] at w r5
        cases nm with
        | some z => exact r5.elim
        | none =>
          unfold suiR
          refine ⟨(fun z e => by cases e), (fun _ => none), (fun y b e => by cases e), ?_⟩
          cases hk : h.k with
          | ret x =>
            rw [hk] at w
            obtain ⟨b, e, q⟩ := w
            exact ⟨b, hV_of cl e, en.rt _ _ _ _ ev co (by simp only [RepV]) q⟩
          | setB i x =>
            rw [hk] at w
            obtain ⟨b, e, q⟩ := w
            exact ⟨b, hV_of cl e, en.nx _ _ _ _ ev co (cl.set i (v := .bl b) (x := .bl b) (by simp only [RepV])) q⟩
          | setN i =>
            rw [hk] at w
            exact en.nx _ _ _ _ ev co (cl.set i (v := .non) (x := .non) (by simp only [RepV])) w
          | setS i x =>
            rw [hk] at w
            exact en.nx _ _ _ _ ev co (cl.set i (v := .str x) (x := .str x) (by simp only [RepV])) w
      | some i =>
        rw [hn] at w r5
        cases nm with
        | none => exact r5.elim
        | some z =>
          have cl2 : CorL X.K H' (ρ'.set i none) (putN σ' a (some i)) := cl.off i _
          unfold suiR
          refine ⟨(fun z' e => by cases e; exact ⟨i, r5, σ', rfl⟩), G.exi c', fun y b e => ?_, ?_⟩
          · obtain ⟨C3, b1, b2, b3⟩ := D.g.exi _ _ _ e
            rw [hec] at b1; cases b1
            exact ⟨_, rfl, rfl, b2, b3⟩
          cases hk : h.k with
          | ret x =>
            rw [hk] at w
            obtain ⟨b, e, q⟩ := w
            exact ⟨b, hV_of cl2 e, en.rt _ _ _ _ ev co (by simp only [RepV]) q⟩
          | setB j x =>
            rw [hk] at w
            obtain ⟨b, e, q⟩ := w
            exact ⟨b, hV_of cl2 e, en.nx _ _ _ _ ev co ((cl2.set j (v := .bl b) (x := .bl b) (by simp only [RepV])).off i none) q⟩
          | setN j =>
            rw [hk] at w
            exact en.nx _ _ _ _ ev co ((cl2.set j (v := .non) (x := .non) (by simp only [RepV])).off i none) w
          | setS j x =>
            rw [hk] at w
            exact en.nx _ _ _ _ ev co ((cl2.set j (v := .str x) (x := .str x) (by simp only [RepV])).off i none) w
    · subst eb
      rw [if_neg (by decide)] at w
      exact ih w
end
mutual
theorem sC (G : Gam) (k : Nat) (S0 : Sto) (H0 : Hp) (rs : List Str) : ∀ (m : C) {X : Cx} {XP : XLoc} (D : Ss X G k S0 H0 XP rs) {st : Stmt}, mC X.N X.env.scope rs m st = true → PS X st (lS X.K S0 H0 XP (wC G m))
  | .asg t e, X, XP, D, st, h => by
    simp only [mC] at h; split at h
    · rename_i a' f' p1 e' pos
      split at h
      · simp only [Bool.and_eq_true, decide_eq_true_eq] at h
        obtain ⟨⟨rfl, h2⟩, h3⟩ := h
        rename_i a f
        have sw : swapsWith e' (some (.Attribute a' f p1)) pos.line X.env = pure false := by
          by_cases hlc : ∃ a b c d, e' = .ListComp a b c d
          · obtain ⟨_, _, _, _, rfl⟩ := hlc
            exact noSwap2 (fun x p e => by cases e) _ _
          · exact noSwap h3 (fun a b c d e => hlc ⟨a, b, c, d, e⟩) _ _ _
        refine PS.imp (ps_fld (sE G k S0 H0 a D.toSd.noX h2) (sE G k S0 H0 e D.toSd h3) sw) fun D' σ H ⟨ρ, S, En, cl, c, e0, en, q⟩ => ?_
        simp only [wC, wTg] at q; rw [en.xc] at q
        refine ⟨ρ, S, cl, c, e0, wE_mono G _ e (fun v S1 q H1 y e1 c1 r1 => ?_) q⟩
        refine ⟨ρ, S1, cl.evo e1, c1, e0.trans e1, wE_mono G _ a (fun o S2 q H2 x e2 c2 r2 => ?_) q⟩
        obtain ⟨p, C, fs, rfl, hs, ho, hl, q⟩ := q
        simp only [RepV] at r2; subst r2
        obtain ⟨dx, us, eh, rk⟩ := c2.ins hs
        obtain ⟨cl', na⟩ := D.g.fo _ _ ho
        have hlen : us.length = fs.length := (Paired.length rk).symm
        have ev : Evo S2 H2 (S2.upd p (.ins C (putV f v fs))) (upd H2 p (.ins (He.ga X.K C) dx (putF f y us))) := .chg hs eh trivial
        refine ⟨p, _, dx, us, rfl, eh, cl', na, by omega, en.nx _ _ _ _ ((e1.trans e2).trans ev) ?_ (((cl.evo e1).evo e2).evo ev) q⟩
        refine c2.chg hs eh trivial ?_
        simp only [RepA]
        exact ⟨dx, _, upd_same, (RepK.put (r1.evo e2) rk).evo' (chg_tup eh trivial) (chg_frz eh trivial)⟩
      · cases h
    · rename_i t' e' pos _
      simp only [Bool.and_eq_true] at h
      obtain ⟨⟨⟨hnl, h1⟩, h2⟩, h3⟩ := h
      have hw : swappedStores [t'] e' X.env = pure none := by
        cases t'
        case Tuple ts kt pt =>
          cases e'
          case Tuple vs k2 p2 =>
            simp only [Bool.or_eq_true, decide_eq_true_eq] at h3
            exact stores_none (by rcases h3 with (h3 | h3) | h3; exact .inl h3; exact .inr (.inl h3); exact .inr (.inr h3))
          all_goals rfl
        case List => cases t <;> simp [mT] at h1
        all_goals rfl
      by_cases hlc : ∃ a b c d, e' = .ListComp a b c d
      · obtain ⟨elt, gens, scope, p, rfl⟩ := hlc
        by_cases hn : ∃ x p, t' = .Name x p
        · obtain ⟨y, py, rfl⟩ := hn
          have sw := swapB (a := elt) (b := gens) (c := scope) (d := p) (x := y) (p := py) pos.line X.env
          cases hb : (X.env.blockKind == .function && X.env.kindOf y == some .local && py.line == (Expr.ListComp elt gens scope p).pos.line && !(scope.names.any fun (n, k) => n == y && (k == .local || k == .cell)))
          · rw [hb] at sw
            exact sAsg D h1 h2 sw hw
          · rw [hb] at sw
            simp only [Bool.and_eq_true, beq_iff_eq] at hb
            exact sAsgLc D h1 h2 sw hb.1.1.2 hnl
        · exact sAsg D h1 h2 (noSwap2 (fun x p e => hn ⟨x, p, e⟩) _ _) hw
      · exact sAsg D h1 h2 (noSwap h2 (fun a b c d e => hlc ⟨a, b, c, d, e⟩) _ _ _) hw
    · cases h
  | .par is es, X, XP, D, st, h => sPar D h
  | .aug i op e, X, XP, D, st, h => by
    simp only [mC] at h; split at h
    · simp only [Bool.and_eq_true, decide_eq_true_eq] at h
      obtain ⟨⟨⟨h1, h2⟩, rfl⟩, h4⟩ := h
      refine PS.imp (ps_aug D.nd h1 (lookup_loc h2) (sE G k S0 H0 e D.toSd h4) (aug_snd op) (D.own _ _ h1)) fun D' σ H ⟨ρ, S, En, cl, c, e0, en, q⟩ => ?_
      simp only [wC] at q; rw [en.xc] at q
      obtain ⟨v, hv, q⟩ := q
      obtain ⟨x, hx, r⟩ := cl.2 i v hv
      refine ⟨x, hx, ρ, S, cl, c, e0, wE_mono G _ e (fun w S1 q H1 y e1 c1 r1 => ?_) q⟩
      exact ⟨v, w, S1, r.evo e1, r1, c1, wAug_mono (fun z S2 q H2 zz e2 c2 r2 => en.nx _ _ _ _ (e1.trans e2) c2 (((cl.evo e1).evo e2).set i r2) q) op _ _ _ q⟩
    · cases h
  | .ex e, X, XP, D, st, h => by
    simp only [mC] at h; split at h
    · simp only [Bool.and_eq_true] at h
      rename_i e' pos
      have hlc : ∀ a b c d, e' ≠ .ListComp a b c d := fun a b c d z => by subst z; cases h.2
      refine PS.imp (ps_expr (sE G k S0 H0 e D.toSd h.1) (noSwap h.1 hlc _ _ _)) fun D' σ H ⟨ρ, S, En, cl, c, e0, en, q⟩ => ?_
      simp only [wC] at q; rw [en.xc] at q
      exact ⟨ρ, S, cl, c, e0, wE_mono G _ e (fun v S1 q H1 x e1 c1 r1 => en.nx _ _ _ _ e1 c1 (cl.evo e1) q) q⟩
    · cases h
  | .ret e, X, XP, D, st, h => by
    simp only [mC] at h; split at h
    · refine PS.imp (ps_ret (sE G k S0 H0 e D.toSd h)) fun D' σ H ⟨ρ, S, En, cl, c, e0, en, q⟩ => ?_
      simp only [wC] at q; rw [en.xc] at q
      exact ⟨ρ, S, cl, c, e0, wE_mono G _ e (fun v S1 q H1 x e1 c1 r1 => en.rt _ _ _ _ e1 c1 r1 q) q⟩
    · cases h
  | .retN, X, XP, D, st, h => by
    simp only [mC] at h; split at h
    · refine PS.imp ps_retN fun D' σ H ⟨ρ, S, En, cl, c, e0, en, q⟩ => ?_
      simp only [wC] at q
      exact en.rt _ _ _ _ .refl c (by simp only [RepV]) q
    · cases h
  | .ite b p q, X, XP, D, st, h => by
    simp only [mC] at h; split at h
    · simp only [Bool.and_eq_true] at h
      obtain ⟨⟨h1, h2⟩, h3⟩ := h
      refine PS.imp (ps_if (sB G k S0 H0 b D.toSd h1) (sCs G k S0 H0 rs p D h2) (sCs G k S0 H0 rs q D h3)) fun D' σ H ⟨ρ, S, En, cl, c, e0, en, q⟩ => ?_
      simp only [wC] at q; rw [en.xc] at q
      refine ⟨ρ, S, cl, c, e0, wB_mono G _ b (fun kk S1 q H1 e1 c1 => ?_) q⟩
      cases kk with
      | true => simp only [if_true] at q ⊢; exact ⟨ρ, S1, En, cl.evo e1, c1, e0.trans e1, en.evo e1, q⟩
      | false => simp only [Bool.false_eq_true, if_false] at q ⊢; exact ⟨ρ, S1, En, cl.evo e1, c1, e0.trans e1, en.evo e1, q⟩
    · cases h
  | .whil b p, X, XP, D, st, h => by
    simp only [mC] at h; split at h
    · simp only [Bool.and_eq_true] at h
      obtain ⟨h1, h2⟩ := h
      refine PS.imp (ps_while D.pass (sB G k S0 H0 b D.toSd h1) (sCs G k S0 H0 rs p D h2)) fun D' σ H ⟨ρ, S, En, cl, c, e0, en, q⟩ => ?_
      simp only [wC] at q; rw [en.xc] at q
      obtain ⟨W, ⟨m, w0⟩, turn⟩ := q
      refine ⟨fun m σ1 H1 => ∃ ρ1 S1, CorL X.K H1 ρ1 σ1 ∧ Cor X.K S1 H1 ∧ Evo S H S1 H1 ∧ W m ρ1 S1, ⟨m, ρ, S, cl, c, .refl, w0⟩, ?_⟩
      rintro m σ1 H1 ⟨ρ1, S1, cl1, c1, e1, w1⟩
      refine ⟨ρ1, S1, cl1, c1, e0.trans e1, wB_mono G _ _ (fun b S2 q H2 e2 c2 => ?_) (turn m ρ1 S1 w1)⟩
      cases b with
      | true =>
        simp only [if_true] at q ⊢
        refine ⟨fun σ' H' => ∃ m', m' < m ∧ ∃ ρ1 S1, CorL X.K H' ρ1 σ' ∧ Cor X.K S1 H' ∧ Evo S H S1 H' ∧ W m' ρ1 S1, fun σ' H' h => h, ?_⟩
        refine ⟨ρ1, S2, _, cl1.evo e2, c2, (e0.trans e1).trans e2, ⟨?_, ?_, ?_, ?_, ?_⟩, q⟩
        · exact fun ρ' S' σ' H' e c' cl' ⟨m', hm, w⟩ => ⟨m', hm, ρ', S', cl', c', (e1.trans e2).trans e, w⟩
        · exact fun v S' x H' e => en.rt v S' x H' ((e1.trans e2).trans e)
        · exact fun ρ' S' σ' H' e => en.nx ρ' S' σ' H' ((e1.trans e2).trans e)
        · exact fun ρ' S' σ' H' e c' cl' ⟨m', hm, w⟩ => ⟨m', hm, ρ', S', cl', c', (e1.trans e2).trans e, w⟩
        · exact rfl
      | false =>
        simp only [Bool.false_eq_true, if_false] at q ⊢
        exact en.nx _ _ _ _ (e1.trans e2) c2 (cl1.evo e2) q
    · cases h
  | .loop t it p, X, XP, D, st, h => by
    simp only [mC] at h; split at h
    · simp only [Bool.and_eq_true] at h
      obtain ⟨⟨⟨hz, h1⟩, h2⟩, h3⟩ := h
      refine PS.imp (ps_for D.pass D.calm (sI G k S0 H0 it D.toSd h2 hz) (sT G k S0 H0 t D.toSd h1 (fun i _ x hx => D.own i x hx)) (sCs G k S0 H0 rs p D h3) (noSet h2 _)) fun D' σ H ⟨ρ, S, En, cl, c, e0, en, q⟩ => ?_
      simp only [wC] at q; rw [en.xc] at q
      refine ⟨ρ, S, cl, c, e0, wI_mono G _ it (fun xs keep S1 q H1 J e1 c1 wk => ?_) q⟩
      generalize hturn : (fun x ρ1 S2 D' => wTg G M.noX t x ρ1 S2 fun ρ2 S3 => wCs G p D' ρ2 S3) = turn at q
      refine ⟨fun i m σ2 H2 => m = xs.length - i ∧ i ≤ xs.length ∧ ∃ ρ2 S2, CorL X.K H2 ρ2 σ2 ∧ Cor X.K S2 H2 ∧ Evo S1 H1 S2 H2 ∧ forW keep turn En (xs.drop i) ρ2 S2, ⟨xs.length, rfl, Nat.zero_le _, ρ, S1, cl.evo e1, c1, .refl, q⟩, ?_⟩
      rintro i m σ2 H2 ⟨rfl, hi, ρ2, S2, cl2, c2, e2, q2⟩
      have kp := forW_keep q2
      obtain ⟨w1, w2⟩ := wk i S2 H2 e2 c2 kp
      by_cases hlt : i < xs.length
      · obtain ⟨go, yl⟩ := w1 hlt
        refine .inr ⟨go, fun σ' H' => ∃ m', m' < xs.length - i ∧ (m' = xs.length - (i + 1) ∧ i + 1 ≤ xs.length ∧ ∃ ρ2 S2, CorL X.K H' ρ2 σ' ∧ Cor X.K S2 H' ∧ Evo S1 H1 S2 H' ∧ forW keep turn En (xs.drop (i + 1)) ρ2 S2), fun σ' H' h => h, fun x H3 y => ?_⟩
        obtain ⟨v, hv, rv, e3, c3⟩ := yl x H3 y
        have hd : xs.drop i = v :: xs.drop (i + 1) := by
          rw [List.drop_eq_getElem_cons hlt]
          rw [List.getElem?_eq_getElem hlt] at hv
          cases hv; rfl
        rw [hd] at q2
        obtain ⟨_, q2⟩ := q2
        subst hturn
        have e13 := (e0.trans e1).trans (e2.trans e3)
        refine ⟨v, ρ2, S2, rv, cl2.evo e3, c3, e13, wTg_mono G _ t (fun ρ3 S3 q3 σ4 H4 e4 c4 cl4 _ _ => ?_) q2⟩
        refine ⟨ρ3, S3, _, cl4, c4, e13.trans e4, ⟨?_, ?_, ?_, ?_, ?_⟩, q3⟩
        · exact fun ρ' S' σ' H' e c' cl' w => ⟨_, by omega, rfl, hlt, ρ', S', cl', c', ((e2.trans e3).trans e4).trans e, w⟩
        · exact fun v S' x H' e => en.rt v S' x H' ((e1.trans ((e2.trans e3).trans e4)).trans e)
        · exact fun ρ' S' σ' H' e => en.nx ρ' S' σ' H' ((e1.trans ((e2.trans e3).trans e4)).trans e)
        · exact fun ρ' S' σ' H' e c' cl' w => ⟨_, by omega, rfl, hlt, ρ', S', cl', c', ((e2.trans e3).trans e4).trans e, w⟩
        · exact en.xc
      · have hE : i = xs.length := by omega
        refine .inl ⟨w2 hE, ?_⟩
        subst hE
        rw [List.drop_length] at q2
        exact en.nx _ _ _ _ (e1.trans e2) c2 cl2 q2.2
    · cases h
  | .brk, X, XP, D, st, h => by
    simp only [mC] at h; split at h
    · exact PS.imp ps_break fun D' σ H ⟨ρ, S, En, cl, c, e0, en, q⟩ => by simp only [wC] at q; exact en.bk _ _ _ _ .refl c cl q
    · cases h
  | .cnt, X, XP, D, st, h => by
    simp only [mC] at h; split at h
    · exact PS.imp ps_continue fun D' σ H ⟨ρ, S, En, cl, c, e0, en, q⟩ => by simp only [wC] at q; exact en.ct _ _ _ _ .refl c cl q
    · cases h
  | .pass, X, XP, D, st, h => by
    simp only [mC] at h; split at h
    · exact PS.imp ps_pass fun D' σ H ⟨ρ, S, En, cl, c, e0, en, q⟩ => by simp only [wC] at q; exact en.nx _ _ _ _ .refl c cl q
    · cases h
  | .rais x, X, XP, D, st, h => by
    simp only [mC] at h; split at h
    · simp only [Bool.and_eq_true, decide_eq_true_eq] at h
      obtain ⟨⟨⟨rfl, h2⟩, h3⟩, h4⟩ := h
      obtain ⟨cc, hc, _, mk⟩ := D.rais _ h3
      refine PS.imp (ps_raise D.calm D.tk (mk X.pn X.xe _ _ _ _ _ (gl_of h2) (dbg_of h4).1)) fun D' σ H ⟨ρ, S, En, cl, c, e0, en, q⟩ => ?_
      simp only [wC] at q; rw [en.xc] at q
      exact ⟨_, cc, ρ, S, hc, rfl, rfl, cl, c, e0, q⟩
    · cases h
  | .augI a i op e, X, XP, D, st, h => by
    simp only [mC] at h; split at h
    · rename_i a' i' p1 op' e' pos
      simp only [Bool.and_eq_true, decide_eq_true_eq] at h
      obtain ⟨⟨⟨h1, h2⟩, rfl⟩, h4⟩ := h
      refine PS.imp (ps_augS (sE G k S0 H0 a D.toSd.noX h1) (sE G k S0 H0 i D.toSd.noX h2) get_list (sE G k S0 H0 e D.toSd.noX h4) (aug_snd op) set_list (by
        cases i'
        case Slice => rw [mE_slice] at h2; cases h2
        all_goals exact fun _ _ _ => rfl)) fun D' σ H ⟨ρ, S, En, cl, c, e0, en, q⟩ => ?_
      simp only [wC] at q
      refine ⟨ρ, S, cl, c, e0, wE_mono G _ a (fun o S1 q H1 x1 e1 c1 r1 => ?_) q⟩
      refine ⟨ρ, S1, cl.evo e1, c1, e0.trans e1, wE_mono G _ i (fun kv S2 q H2 x2 e2 c2 r2 => ?_) q⟩
      obtain ⟨p, vs, j, n, x, rfl, rfl, hs, hj, hx, q⟩ := q
      simp only [RepV] at r1 r2; subst r1; subst r2
      obtain ⟨xs, t, rs⟩ := c2.rd hs
      obtain ⟨v, hv, rv⟩ := rs.get hx
      refine ⟨p, xs, n, j, v, rfl, rfl, t, by rw [rs.length]; exact hj, hv, ?_⟩
      refine ⟨ρ, S2, (cl.evo e1).evo e2, c2, (e0.trans e1).trans e2, wE_mono G _ e (fun w S3 q H3 y e3 c3 r3 => ?_) q⟩
      refine ⟨x, w, S3, rv.evo e3, r3, c3, wAug_mono (fun z S4 q H4 zz e4 c4 r4 => ?_) op _ _ _ q⟩
      obtain ⟨ys, j', hs4, hj4, q⟩ := q
      obtain ⟨us, eh, ru⟩ := c4.lst hs4
      have ev : Evo S4 H4 (S4.upd p (.lst (ys.set j' z))) (upd H4 p (.lst (us.set j' zz))) := .chg hs4 eh trivial
      refine ⟨p, us, n, j', rfl, rfl, eh, by rw [ru.length]; exact hj4, ?_⟩
      exact en.nx _ _ _ _ (((e1.trans e2).trans e3).trans (e4.trans ev)) (c4.setL hs4 eh (ru.set j' r4)) (((((cl.evo e1).evo e2).evo e3).evo e4).evo ev) q
    · cases h
  | .tryR p y hk, X, XP, D, st, h => by
    simp only [mC] at h; split at h
    · rename_i p' x np hb hpos pos
      simp only [Bool.and_eq_true, decide_eq_true_eq] at h
      obtain ⟨⟨⟨⟨⟨rfl, h2⟩, h3⟩, h4⟩, h5⟩, h6⟩ := h
      obtain ⟨cc, hc, hmg, mk⟩ := D.rais _ (List.contains_iff_mem.mp h4)
      cases hk with
      | retB kk =>
        split at h6
        · rename_i k1 k2 p1 p2 p3 e1
          cases e1
          have h6 := of_decide_eq_true h6
          subst h6
          refine PS.imp (ps_try_only (tb := fun W D' σ H => ∃ S1 H1 XP', (∀ cls d σ' H', WM X.K G.ecls S1 H1 XP' cls d σ' H' → W cls d σ' H') ∧ lS X.K S1 H1 XP' (wCs G p) D' σ H) (ts := fun a cls d D' σ H => D'.rt (.bl kk) H) (Wout := WM X.K G.ecls S0 H0 XP) (c := .ref cc) D.fr.1 D.fr.2 ⟨gl_of h2, (dbg_of h3).1, .inl hmg⟩ D.tk ?_ ?_) fun D' σ H ⟨ρ, S, En, cl, c, e0, en, q⟩ => ?_
          · intro W pn xe tkW pa
            refine ⟨fun pins s σ H D' I ⟨S1, H1, XP', himp, q⟩ => ?_⟩
            exact (sCs G k S1 H1 rs p (X := X.tr pn xe) (XP := XP') ⟨⟨D.room, D.calm, D.nd, D.g, Takes.imp tkW fun cls d σ' H' w => himp cls d σ' H' w, D.gd⟩, D.own, D.kind, pa, D.rais, D.fr⟩ h5).run pins s σ H D' I q
          · intro a oe cls d pn _ _
            exact PSs.imp (pss_cons (ps_ret pe_bl) pss_nil) fun D' σ H q => q
          · simp only [wC] at q
            refine ⟨S, H, (fun c ρ' S' => ∃ b, G.exm c x = some b ∧ if b = true then En.rt (.bl kk) S' else En.xc c ρ' S'), ?_, ρ, S, { En with xc := fun c ρ' S' => ∃ b, G.exm c x = some b ∧ if b = true then En.rt (.bl kk) S' else En.xc c ρ' S' }, cl, c, .refl, ⟨en.nx, en.rt, en.bk, en.ct, rfl⟩, q⟩
            rintro cls d σ' H' ⟨c', C, ρ', S', hec, ecls, ed, cl', co', ev', b, hx, hb⟩
            obtain ⟨C2, Y, a1, a2, a3⟩ := D.g.exm _ _ _ hx
            rw [hec] at a1; cases a1
            rw [hc] at a2; cases a2
            subst ecls ed
            refine ⟨b, a3, fun eb a _ => ?_, fun eb => ?_⟩
            · subst eb
              rw [if_pos rfl] at hb
              exact en.rt _ _ _ _ ev' co' (by simp only [RepV]) hb
            · subst eb
              rw [if_neg (by decide), en.xc] at hb
              exact ⟨c', C, ρ', S', hec, rfl, rfl, cl', co', e0.trans ev', hb⟩
        · cases h6
    · cases h
  | .tryK p y n kk, X, XP, D, st, h => by
    simp only [mC] at h; split at h
    · rename_i p' x np z hb hpos pos
      simp only [Bool.and_eq_true, decide_eq_true_eq] at h
      obtain ⟨⟨⟨⟨⟨⟨⟨⟨rfl, h2⟩, h3⟩, h4⟩, h5⟩, n1⟩, n2⟩, n3⟩, h6⟩ := h
      obtain ⟨cc, hc, hmg, mk⟩ := D.rais _ (List.contains_iff_mem.mp h4)
      have body : ∀ (W : WX) (pn : List (Addr × Obj)) (xe : Value → Shared → Prop), Takes (X.tr pn xe) W → PassesOwn (model X.prog X.w) X.A X.env xe → PSs (X.tr pn xe) p' (fun D' σ H => ∃ S1 H1 XP', (∀ cls d σ' H', WM X.K G.ecls S1 H1 XP' cls d σ' H' → W cls d σ' H') ∧ lS X.K S1 H1 XP' (wCs G p) D' σ H) := by
        intro W pn xe tkW pa
        refine ⟨fun pins s σ H D' I ⟨S1, H1, XP', himp, q⟩ => ?_⟩
        exact (sCs G k S1 H1 rs p (X := X.tr pn xe) (XP := XP') ⟨⟨D.room, D.calm, D.nd, D.g, Takes.imp tkW fun cls d σ' H' w => himp cls d σ' H' w, D.gd⟩, D.own, D.kind, pa, D.rais, D.fr⟩ h5).run pins s σ H D' I q
      have fin : ∀ {ts : Sui} (hts : ∀ (En : En) (D' : Ends) (S : Sto) (H : Hp), EnR X.K S H XP En D' → ∀ (c' : Str) (C : Addr) (ρ' : Loc) (σ' : L2.St) (S' : Sto) (H' : Hp), G.ecls c' = some C → CorL X.K H' ρ' σ' → Cor X.K S' H' → Evo S H S' H' → (∀ q, S' q = none → wKK En n ρ' q (S'.upd q (.exo c')) kk) → ∀ a, H' a = none → ts a (.ref C) none (Ends.off D' (some n)) (σ'.set n (some (.ref a))) (upd H' a (ErO (.ref C) none a))),
          ∀ D' σ H, lS X.K S0 H0 XP (wC G (.tryK p x n kk)) D' σ H → ∃ S1 H1 XP', (∀ cls d σ' H', WM X.K G.ecls S1 H1 XP' cls d σ' H' → wKeep X.K (WM X.K G.ecls S0 H0 XP) D' (.ref cc) n ts cls d σ' H') ∧ lS X.K S1 H1 XP' (wCs G p) D' σ H := by
        intro ts hts D' σ H ⟨ρ, S, En, cl, c, e0, en, q⟩
        simp only [wC] at q
        refine ⟨S, H, _, ?_, ρ, S, { En with xc := fun c ρ' S' => ∃ b, G.exm c x = some b ∧ if b = true then (∀ q, S' q = none → wKK En n ρ' q (S'.upd q (.exo c)) kk) else En.xc c ρ' S' }, cl, c, .refl, ⟨en.nx, en.rt, en.bk, en.ct, rfl⟩, q⟩
        rintro cls d σ' H' ⟨c', C, ρ', S', hec, ecls, ed, cl', co', ev', b, hx, hb⟩
        obtain ⟨C2, Y, a1, a2, a3⟩ := D.g.exm _ _ _ hx
        rw [hec] at a1; cases a1
        rw [hc] at a2; cases a2
        subst ecls ed
        refine ⟨b, a3, fun eb a na => ?_, fun eb => ?_⟩
        · subst eb
          rw [if_pos rfl] at hb
          exact hts En D' S H en c' C ρ' σ' S' H' hec cl' co' ev' hb a na
        · subst eb
          rw [if_neg (by decide), en.xc] at hb
          exact ⟨c', C, ρ', S', hec, rfl, rfl, cl', co', e0.trans ev', hb⟩
      have own : ∀ {a : Addr} {H' : Hp} {S' : Sto} {c' : Str} {C : Addr}, G.ecls c' = some C → H' a = none → Cor X.K S' H' → Evo S' H' (S'.upd a (.exo c')) (upd H' a (ErO (.ref C) none a)) ∧ Cor X.K (S'.upd a (.exo c')) (upd H' a (ErO (.ref C) none a)) := fun hec na co => ⟨.newO na, co.newO na (by have eg := D.g.ga _ _ hec; subst eg; simp only [RepA]; exact upd_same)⟩
      have seen : ∀ (a : Addr) (qs : List (Addr × Obj)) (pz : Pos), PE (X.suite a qs) (.Name z pz) (tVar n) := fun a qs pz => pe_var (X := X.suite a qs) n1 (.inl n2) (dbg_of n3).1 (dbg_of n3).2
      cases kk with
      | ret =>
        split at h6
        · rename_i k1 k2 z' p1 p2 e1
          have h6 := of_decide_eq_true h6
          subst h6
          refine PS.imp (ps_try_keep (ts := fun a cls d D' σ H => (∃ σ0 : L2.St, σ = σ0.set n (some (.ref a))) ∧ D'.rt (.ref a) H) (Wo := WM X.K G.ecls S0 H0 XP) (c := .ref cc) D.fr.1 D.fr.2 D.nd D.tk body ⟨gl_of h2, (dbg_of h3).1, .inl hmg⟩ n1 n2 ?_) (fin ?_)
          · intro a cls d qs
            refine ⟨fun pins s σ H D' I ⟨⟨σ0, e⟩, q⟩ => ?_⟩
            subst e
            have at2 : (σ0.set n (some (.ref a)))[n]? = some (some (.ref a)) := by
              have l1 := I.len
              rw [List.length_set] at l1
              exact List.getElem?_set_self (by rw [l1]; exact (List.getElem?_eq_some_iff.mp n1).1)
            exact (PSs.imp (pss_cons (ps_ret (seen a qs _)) pss_nil) fun D' σ' H' q' => q').run pins s _ H D' I ⟨_, at2, q⟩
          · intro En D' S H en c' C ρ' σ' S' H' hec cl co ev w a na
            obtain ⟨e1, c1⟩ := own (c' := c') (C := C) hec na co
            exact ⟨⟨σ', rfl⟩, en.rt _ _ _ _ (ev.trans e1) c1 (by simp only [RepV]) (w a (co.free na))⟩
        · contradiction
        · contradiction
      | set i =>
        split at h6
        · contradiction
        · rename_i k1 k2 k3 w' pw z' p1 p2 e1
          cases e1
          simp only [Bool.and_eq_true, decide_eq_true_eq] at h6
          obtain ⟨⟨rfl, m1⟩, m2⟩ := h6
          refine PS.imp (ps_try_keep (ts := fun a cls d D' σ H => (∃ σ0 : L2.St, σ = σ0.set n (some (.ref a))) ∧ D'.nx (σ.set i (some (.ref a))) H) (Wo := WM X.K G.ecls S0 H0 XP) (c := .ref cc) D.fr.1 D.fr.2 D.nd D.tk body ⟨gl_of h2, (dbg_of h3).1, .inl hmg⟩ n1 n2 ?_) (fin ?_)
          · intro a cls d qs
            refine ⟨fun pins s σ H D' I ⟨⟨σ0, e⟩, q⟩ => ?_⟩
            subst e
            have at2 : (σ0.set n (some (.ref a)))[n]? = some (some (.ref a)) := by
              have l1 := I.len
              rw [List.length_set] at l1
              exact List.getElem?_set_self (by rw [l1]; exact (List.getElem?_eq_some_iff.mp n1).1)
            exact (PSs.imp (pss_cons (ps_asg (seen a qs _) (pg_name (X := X.suite a qs) D.nd m1 (.inl m2) (.inr m2))) pss_nil) fun D' σ' H' q' => q').run pins s _ H D' I ⟨_, at2, q⟩
          · intro En D' S H en c' C ρ' σ' S' H' hec cl co ev w a na
            obtain ⟨e1, c1⟩ := own (c' := c') (C := C) hec na co
            refine ⟨⟨σ', rfl⟩, ?_⟩
            have cl2 : CorL X.K (upd H' a (ErO (.ref C) none a)) ((ρ'.set n none).set i (some (.ref a))) ((σ'.set n (some (.ref a))).set i (some (.ref a))) := ((cl.evo e1).off n _).set i (v := .ref a) (x := .ref a) (by simp only [RepV])
            have cl3 := cl2.off n none
            refine en.nx ((ρ'.set i (some (.ref a))).set n none) _ _ _ (ev.trans e1) c1 ?_ (w a (co.free na))
            by_cases hin : i = n
            · subst hin
              simp only [List.set_set] at cl3 ⊢
              exact cl3
            · rw [List.set_comm _ _ (Ne.symm hin)] at cl3
              simp only [List.set_set] at cl3
              exact cl3
        · contradiction
    · cases h
  | .tryM p hs, X, XP, D, st, h => by
    simp only [mC] at h; split at h
    · rename_i p' h0 hds pos
      simp only [Bool.and_eq_true] at h
      obtain ⟨h1, h2⟩ := h
      obtain ⟨ks, c2, rel⟩ := clauses_of D hs h2
      refine PS.imp (ps_try_mix (tb := fun W D' σ H => ∃ S1 H1 XP', (∀ cls d σ' H', WM X.K G.ecls S1 H1 XP' cls d σ' H' → W cls d σ' H') ∧ lS X.K S1 H1 XP' (wCs G p) D' σ H) (Wo := WM X.K G.ecls S0 H0 XP) D.fr.1 D.fr.2 D.nd D.tk ?_ c2) fun D' σ H ⟨ρ, S, En, cl, c, e0, en, q⟩ => ?_
      · intro W pn xe tkW pa
        refine ⟨fun pins s σ H D' I ⟨S1, H1, XP', himp, q⟩ => ?_⟩
        exact (sCs G k S1 H1 rs p (X := X.tr pn xe) (XP := XP') ⟨⟨D.room, D.calm, D.nd, D.g, Takes.imp tkW fun cls d σ' H' w => himp cls d σ' H' w, D.gd⟩, D.own, D.kind, pa, D.rais, D.fr⟩ h1).run pins s σ H D' I q
      · simp only [wC] at q
        refine ⟨S, H, (fun c ρ' S' => wHs G En c ρ' S' hs), ?_, ρ, S, { En with xc := fun c ρ' S' => wHs G En c ρ' S' hs }, cl, c, .refl, ⟨en.nx, en.rt, en.bk, en.ct, rfl⟩, q⟩
        rintro cls d σ' H' ⟨c', C, ρ', S', hec, ecls, ed, cl', co', ev', hw⟩
        subst ecls ed
        refine mix_of D en hec cl' co' ev' ?_ rel hw
        intro hx
        rw [en.xc] at hx
        exact ⟨c', C, ρ', S', hec, rfl, rfl, cl', co', e0.trans ev', hx⟩
    · cases h
  | .lock m, X, XP, D, st, h => by
    simp only [mC] at h
    have key : PS X st (fun D' σ H => ∃ S0 H0, lS X.K S0 H0 (fun _ _ _ => False) (wC G m) D' σ H) := ⟨fun pins s σ H D' I ⟨S0, H0, q⟩ => (sC G k S0 H0 rs m (D.startS S0 H0) h).run pins s σ H D' I q⟩
    refine PS.imp (ps_lock key) fun D' σ H ⟨ρ, S, En, cl, c, e0, en, q⟩ => ?_
    simp only [wC] at q
    obtain ⟨d, ⟨kvs, hs, q⟩ | ⟨kvs, hs, q⟩⟩ := q
    · have hd := c d _ hs
      simp only [RepA] at hd
      obtain ⟨us, eu, rk⟩ := hd
      refine ⟨d, _, eu, trivial, fun od => ⟨S.upd d (.fK kvs), _, ρ, S.upd d (.fK kvs), _, cl.evo (.lockO (o' := .fK kvs) hs eu trivial), c.lockK hs eu rk, .refl, ⟨?_, ?_, ?_, ?_, rfl⟩, q⟩⟩
      · exact fun ρ1 S1 σ1 H1 e1 c1 cl1 ⟨hs1, q⟩ => have hf : H1 d = some (.frz od (.dK us)) := e1.frz _ _ _ upd_same; ⟨hf, en.nx _ _ _ _ (.unlockO hs eu trivial e1) (c1.unlockK hs1 hf) (cl1.unfrz hf trivial (fun _ z => by cases z)) q⟩
      · exact fun v S1 x H1 e1 c1 r1 ⟨hs1, q⟩ => have hf : H1 d = some (.frz od (.dK us)) := e1.frz _ _ _ upd_same; ⟨hf, en.rt _ _ _ _ (.unlockO hs eu trivial e1) (c1.unlockK hs1 hf) (.unfrz hf trivial (fun _ z => by cases z) _ r1) q⟩
      · exact fun ρ1 S1 σ1 H1 e1 c1 cl1 ⟨hs1, q⟩ => have hf : H1 d = some (.frz od (.dK us)) := e1.frz _ _ _ upd_same; ⟨hf, en.bk _ _ _ _ (.unlockO hs eu trivial e1) (c1.unlockK hs1 hf) (cl1.unfrz hf trivial (fun _ z => by cases z)) q⟩
      · exact fun ρ1 S1 σ1 H1 e1 c1 cl1 ⟨hs1, q⟩ => have hf : H1 d = some (.frz od (.dK us)) := e1.frz _ _ _ upd_same; ⟨hf, en.ct _ _ _ _ (.unlockO hs eu trivial e1) (c1.unlockK hs1 hf) (cl1.unfrz hf trivial (fun _ z => by cases z)) q⟩
    · have hd := c d _ hs
      simp only [RepA] at hd
      obtain ⟨us, eu, rk⟩ := hd
      refine ⟨d, _, eu, trivial, fun od => ⟨S.upd d (.fT kvs), _, ρ, S.upd d (.fT kvs), _, cl.evo (.lockO (o' := .fT kvs) hs eu trivial), c.lockT hs eu rk, .refl, ⟨?_, ?_, ?_, ?_, rfl⟩, q⟩⟩
      · exact fun ρ1 S1 σ1 H1 e1 c1 cl1 ⟨hs1, q⟩ => have hf : H1 d = some (.frz od (.dT us)) := e1.frz _ _ _ upd_same; ⟨hf, en.nx _ _ _ _ (.unlockO hs eu trivial e1) (c1.unlockT hs1 hf) (cl1.unfrz hf trivial (fun _ z => by cases z)) q⟩
      · exact fun v S1 x H1 e1 c1 r1 ⟨hs1, q⟩ => have hf : H1 d = some (.frz od (.dT us)) := e1.frz _ _ _ upd_same; ⟨hf, en.rt _ _ _ _ (.unlockO hs eu trivial e1) (c1.unlockT hs1 hf) (.unfrz hf trivial (fun _ z => by cases z) _ r1) q⟩
      · exact fun ρ1 S1 σ1 H1 e1 c1 cl1 ⟨hs1, q⟩ => have hf : H1 d = some (.frz od (.dT us)) := e1.frz _ _ _ upd_same; ⟨hf, en.bk _ _ _ _ (.unlockO hs eu trivial e1) (c1.unlockT hs1 hf) (cl1.unfrz hf trivial (fun _ z => by cases z)) q⟩
      · exact fun ρ1 S1 σ1 H1 e1 c1 cl1 ⟨hs1, q⟩ => have hf : H1 d = some (.frz od (.dT us)) := e1.frz _ _ _ upd_same; ⟨hf, en.ct _ _ _ _ (.unlockO hs eu trivial e1) (c1.unlockT hs1 hf) (cl1.unfrz hf trivial (fun _ z => by cases z)) q⟩
theorem sCs (G : Gam) (k : Nat) (S0 : Sto) (H0 : Hp) (rs : List Str) : ∀ (ms : List C) {X : Cx} {XP : XLoc} (D : Ss X G k S0 H0 XP rs) {sts : List Stmt}, mCs X.N X.env.scope rs ms sts = true → PSs X sts (lS X.K S0 H0 XP (wCs G ms))
  | [], X, XP, D, sts, h => by
    simp only [mCs] at h; split at h
    · exact PSs.imp pss_nil fun D' σ H ⟨ρ, S, En, cl, c, e0, en, q⟩ => by simp only [wCs] at q; exact en.nx _ _ _ _ .refl c cl q
    · cases h
  | m :: ms, X, XP, D, sts, h => by
    simp only [mCs] at h; split at h
    · simp only [Bool.and_eq_true] at h
      refine PSs.imp (pss_cons (sC G k S0 H0 rs m D h.1) (sCs G k S0 H0 rs ms D h.2)) fun D' σ H ⟨ρ, S, En, cl, c, e0, en, q⟩ => ?_
      simp only [wCs] at q
      refine ⟨ρ, S, _, cl, c, e0, ⟨?_, ?_, ?_, ?_, ?_⟩, q⟩
      · exact fun ρ' S' σ' H' e c' cl' w => ⟨ρ', S', En, cl', c', e0.trans e, en.evo e, w⟩
      · exact en.rt
      · exact en.bk
      · exact en.ct
      · exact en.xc
    · cases h
end
end M

set_option maxHeartbeats 1000000
namespace M
open PySem PySem.Spec L2
/-- a smaller store -/
def Sto.le (S S' : Sto) : Prop := ∀ a o, S a = some o → S' a = some o
theorem Sto.le.refl {S : Sto} : S.le S := fun _ _ h => h
theorem Sto.le.trans {S S1 S2 : Sto} (h : S.le S1) (h' : S1.le S2) : S.le S2 := fun _ _ q => h' _ _ (h _ _ q)
theorem Sto.le.non {S S' : Sto} {a : Addr} (h : S.le S') (n : S' a = none) : S a = none := by
  cases e : S a with
  | none => rfl
  | some o => rw [h _ _ e] at n; cases n
theorem Sto.le.new {S S' : Sto} {p : Addr} {o : MO} (h : S.le S') (n : S' p = none) : S.le (S'.upd p o) := fun a u q => by
  have := h _ _ q
  rw [Sto.upd_ne (fun e => by subst e; rw [n] at this; cases this)]; exact this
theorem Sto.le.upd {S S' : Sto} {p : Addr} {o : MO} (h : S.le S') : (S.upd p o).le (S'.upd p o) := fun a u q => by
  by_cases e : a = p
  · subst e; rw [Sto.upd_same] at q ⊢; exact q
  · rw [Sto.upd_ne e] at q ⊢; exact h _ _ q
theorem Sto.le.at {S S' : Sto} {a : Addr} {o : MO} (h : S.le S') (q : S a = some o) : S' a = some o := h _ _ q
def startL (N : List Str) (vs : List Val) : Loc := vs.map some ++ List.replicate (N.length - vs.length) none
theorem CorL.ofStart {K : PySem.W.Frag} {H : Hp} {N : List Str} {vs : List Val} {xs : List V} (r : RepVs K H vs xs) : CorL K H (startL N vs) (L2.start N xs) := by
  have hl := r.length
  refine ⟨by unfold L2.start startL; simp [hl], fun i v e => ?_⟩
  unfold startL at e
  by_cases hi : i < vs.length
  · rw [List.getElem?_append_left (by simpa using hi), List.getElem?_map] at e
    cases q : vs[i]? with
    | none => rw [q] at e; cases e
    | some w =>
      rw [q] at e; cases e
      obtain ⟨x, hx, rx⟩ := r.get q
      refine ⟨x, ?_, rx⟩
      unfold L2.start
      rw [List.getElem?_append_left (by rw [List.length_map, hl]; exact hi), List.getElem?_map, hx]; rfl
  · rw [List.getElem?_append_right (by simpa using hi), List.getElem?_replicate] at e
    split at e <;> cases e
/-- x('text') makes an error of a class, as the text of the program has it -/
structure RaisK (K : PySem.W.Frag) (mg : Str → Option Value) (ec : Str → Option Addr) (x : Str) (C : Addr) : Prop where
  ec : ec x = some C
  gC : mg x = some (.ref C)
  kC : PySem.W.keepIn K (.ref C) = true
  sub : PySem.W.subIn K (.ref C) (.type "BaseException") = some true
  ty : PySem.W.typeIn K (.ref C) = some (.type "type")
  own : ∃ B newId initId bmB, ExcBaseFacts B newId initId bmB ∧ PySem.W.excIn K C bmB newId = true
section
variable {P : Program} {w : World} {K : PySem.W.Frag} {mg : Str → Option Value} {base : Heap}
theorem Takes.ofM {X : Cx} {ec : Str → Option Addr} {S0 : Sto} {H0 : Hp} {E : XK} {XP : XLoc} (t : Takes X (fun cls d _ H => E cls d H)) (h : ∀ c C S ρ, ec c = some C → XP c ρ S → ∀ H', Evo S0 H0 S H' → Cor X.K S H' → E (.ref C) none H') : Takes X (WM X.K ec S0 H0 XP) :=
  Takes.imp t fun cls d σ H ⟨c, C, ρ, S, e1, e2, e3, cl, co, ev, x⟩ => by
    subst e2; subst e3; exact h c C S ρ e1 x H ev co
/-- what a def's body is to show -/
def Body (G : Gam) (N ps : List Str) (body : List C) (sp : Spec) : Prop := ∀ vs S Q X, sp vs S Q X → vs.length = ps.length ∧
  wCs G body { nx := fun _ S' => ∃ S'', S''.le S' ∧ Q .non S'', rt := fun v S' => ∃ S'', S''.le S' ∧ Q v S'', xc := fun c _ S' => ∃ S'', S''.le S' ∧ X c S'' } (startL N vs) S
theorem Cor.le {S S' : Sto} {H : Hp} (c : Cor K S' H) (h : S.le S') : Cor K S H := fun a o q => c a o (h _ _ q)
theorem Evo.le {S0 S S' : Sto} {H0 H : Hp} (e : Evo S0 H0 S' H) (h : S.le S') : Evo S0 H0 S H := ⟨e.tup, e.frz, fun a o q n => ⟨(e.frame a o q n).1, h.non (e.frame a o q n).2⟩⟩
theorem defM {x qual : Str} {params : Arguments} {stb : List Stmt} {scope : Scope} {dvs : List V} {kws : List (Str × V)} {f : Addr} {fd : FuncData} {N ps : List Str} {k : Nat} {G : Gam} {sp : Spec} {body : List C} {rs : List Str} (F : FunD K x qual params stb scope dvs kws f fd) (S : FnScope N ps scope) (g : GOk P w K mg base k G)
    (rais : ∀ x ∈ rs, ∃ C, RaisK K mg G.ecls x C) (hm : mCs N scope rs body stb = true) (h : Body G N ps body sp) (hrp : G.rp = false) :
    FnOk P w K mg base (L2.CX P w) (k + 1) f fd ps (lSp K G.ecls sp) := by
  refine F.ok S (fun xs H Q E ⟨vs, S1, r, c, Q1, X1, hsp, _, _⟩ => by rw [r.length]; exact (h _ _ _ _ hsp).1) ?_
  intro cdv A outer s H xs Q E hr ⟨vs, S1, r, c, Q1, X1, hsp, hQ, hX⟩
  obtain ⟨hl, q⟩ := h _ _ _ _ hsp
  refine ⟨_, sCs (X := cxOf (L2.CX P w) P w K mg base N qual scope f cdv A outer s H E) G k S1 H rs body (XP := fun c _ S' => ∃ S'', S''.le S' ∧ X1 c S'') { room := hr, calm := rfl, nd := S.nd, g := g, tk := ?_, own := fun _ _ _ => .inl rfl, kind := S.kind, pass := passes_of rfl, rais := ?_, gd := (fun z => by rw [hrp] at z; cases z), fr := ⟨rfl, rfl⟩ } hm, ?_⟩
  · refine Takes.ofM (takes_of rfl rfl rfl rfl) fun c C S2 ρ ec ⟨S3, l3, x3⟩ H' ev co => ?_
    exact hX _ _ x3 C ec H' (ev.le l3) (co.le l3)
  · intro y hy
    obtain ⟨C, R⟩ := rais y hy
    obtain ⟨B, newId, initId, bmB, EF, own⟩ := R.own
    exact ⟨C, R.ec, R.gC, fun pn xe m j p p2 pos hg hdb => pmk_own EF own R.gC R.kC (raises_own R.sub R.ty) hg hdb⟩
  · refine ⟨startL N vs, S1, _, .ofStart r, c, .refl, ⟨?_, ?_, ?_, ?_, rfl⟩, q⟩
    · exact fun ρ S2 σ H2 e c2 cl ⟨S3, l3, q3⟩ => hQ _ _ q3 H2 _ (e.le l3) (c2.le l3) (by simp only [RepV])
    · exact fun v S2 x H2 e c2 rv ⟨S3, l3, q3⟩ => hQ _ _ q3 H2 _ (e.le l3) (c2.le l3) rv
    · exact fun ρ S2 σ H2 e c2 cl z => z.elim
    · exact fun ρ S2 σ H2 e c2 cl z => z.elim
theorem FnM.mono {j k : Nat} {ec : Str → Option Addr} {x : Str} {sp : Spec} (h : FnM P w K mg base j ec x sp) (l : j ≤ k) : FnM P w K mg base k ec x sp := by
  obtain ⟨f, fd, ps, a, b, c, d⟩ := h
  exact ⟨f, fd, ps, a, b, c, d.mono l⟩
theorem lookup_mem {α : Type} {x : Str} {v : α} : ∀ {l : List (Str × α)}, l.lookup x = some v → (x, v) ∈ l
  | [], h => by cases h
  | (y, w) :: l, h => by
    rw [List.lookup_cons] at h
    split at h
    · rename_i e
      cases h
      have := eq_of_beq e
      subst this
      exact List.mem_cons_self
    · exact List.mem_cons_of_mem _ (lookup_mem h)
/-- what a law's bodies know, but for the defs -/
structure Base (K : PySem.W.Frag) (mg : Str → Option Value) (G : Gam) : Prop where
  fo : ∀ C f, G.fo C f = true → Cls K (He.ga K C) ∧ NoAttr K (He.ga K C) f
  cst : ∀ x v, G.cst x = some v → ∃ y u, mg x = some u ∧ RelV y u ∧ ∀ H, RepV K H v y
  blt : ∀ x ∈ bltNames, mg x = none
  rp : G.rp = false
  exm : ∀ c y b, G.exm c y = some b → ∃ C Y, G.ecls c = some C ∧ G.ecls y = some Y ∧ PySem.W.exmOne K (.ref C) (.ref Y) = some b := by exact fun _ _ _ h => by cases h
  exi : ∀ c y b, G.exi c y = some b → ∃ C, G.ecls c = some C ∧ ExcC K C ∧ ((∃ Y, mg y = some (.ref Y) ∧ PySem.W.kitOne K (.ref C) (.ref Y) = some b) ∨ mg y = none ∧ ∃ t, bootBuiltins y = some (.type t) ∧ PySem.W.kitOne K (.ref C) (.type t) = some b) := by exact fun _ _ _ h => by cases h
  ga : ∀ c C, G.ecls c = some C → C = He.ga K c := by exact fun _ _ h => by cases h
/-- the promises of the defs, of the makers, of the methods -/
structure Tabs where
  fn : List (Str × Spec) := []
  new : List (Str × Spec) := []
  mt : List ((Str × Str) × Spec) := []
def Gam.with (G : Gam) (T : Tabs) : Gam := { G with fn := fun x => T.fn.lookup x, new := fun x => T.new.lookup x, mt := fun C m => T.mt.lookup (C, m) }
structure TT (P : Program) (w : World) (K : PySem.W.Frag) (mg : Str → Option Value) (base : Heap) (ec : Str → Option Addr) (k : Nat) (T : Tabs) : Prop where
  fn : ∀ p ∈ T.fn, FnM P w K mg base k ec p.1 p.2
  new : ∀ p ∈ T.new, NewM P w K mg base k ec p.1 p.2
  mt : ∀ p ∈ T.mt, MetM P w K mg base k ec p.1.1 p.1.2 p.2
theorem lookup_memP {x : Str × Str} {v : Spec} : ∀ {l : List ((Str × Str) × Spec)}, l.lookup x = some v → (x, v) ∈ l
  | [], h => by cases h
  | (y, w) :: l, h => by
    rw [List.lookup_cons] at h
    split at h
    · rename_i e
      cases h
      have := eq_of_beq e
      subst this
      exact List.mem_cons_self
    · exact List.mem_cons_of_mem _ (lookup_memP h)
theorem TT.gok {k : Nat} {G : Gam} {T : Tabs} (b : Base K mg G) (t : TT P w K mg base G.ecls k T) : GOk P w K mg base k (G.with T) :=
  ⟨fun x sp h => t.fn (x, sp) (lookup_mem h), b.cst, b.blt, b.fo, fun C sp h => t.new (C, sp) (lookup_mem h), fun C m sp h => t.mt ((C, m), sp) (lookup_memP h), b.exm, b.exi, b.ga⟩
theorem TT.nil {ec : Str → Option Addr} : TT P w K mg base ec 0 {} := ⟨(fun _ h => by cases h), (fun _ h => by cases h), (fun _ h => by cases h)⟩
theorem NewM.mono {j k : Nat} {ec : Str → Option Addr} {x : Str} {sp : Spec} (h : NewM P w K mg base j ec x sp) (l : j ≤ k) : NewM P w K mg base k ec x sp := by
  obtain ⟨i, f, fd, ps, a, b⟩ := h
  exact ⟨i, f, fd, ps, by omega, b⟩
theorem MetM.mono {j k : Nat} {ec : Str → Option Addr} {C x : Str} {sp : Spec} (h : MetM P w K mg base j ec C x sp) (l : j ≤ k) : MetM P w K mg base k ec C x sp := by
  obtain ⟨f, fd, ps, a, b, c, d⟩ := h
  exact ⟨f, fd, ps, a, b, c, d.mono l⟩
theorem TT.mono {j k : Nat} {ec : Str → Option Addr} {T : Tabs} (t : TT P w K mg base ec j T) (l : j ≤ k) : TT P w K mg base ec k T :=
  ⟨fun p h => (t.fn p h).mono l, fun p h => (t.new p h).mono l, fun p h => (t.mt p h).mono l⟩
/-- a def of the text keeps its promise -/
theorem TT.one {fa : List He.Fa} {fn : List He.DefD} {k : Nat} {G : Gam} {T : Tabs} (b : Base K mg G) (t : TT P w K mg base G.ecls k T) (c : He.SaysD fa fn K) {d : He.DefD} (i : Nat) (hd : fn[i]? = some d)
    {N ps : List Str} {sp : Spec} {body : List C} {rs : List Str} (hdf : d.dfl = []) (hkw : d.kwd = []) (S : FnScope N ps d.scope) (rais : ∀ x ∈ rs, ∃ C, RaisK K mg G.ecls x C) (hm : mCs N d.scope rs body d.body = true)
    (hb : ∀ (dV kV doc pm : Value) (an : Option Addr) (cdv ct : Value) (us : List Value), us.length = ps.length → bindArgs (PySem.W.fnOf d.name d.qual d.params d.body d.scope .none kV doc pm an cdv ct) ⟨us, []⟩ = pure (ps.zip us))
    (h : Body (G.with T) N ps body sp) : ∃ fd, PySem.W.keepIn K (.ref (He.fAd K d.at_)) = true ∧ Binds K fd ps [] ∧ FnOk P w K mg base (L2.CX P w) (k + 1) (He.fAd K d.at_) fd ps (lSp K G.ecls sp) := by
  obtain ⟨fd, F⟩ := c.def_ i hd
  have e1 : d.dvs K = [] := by unfold He.DefD.dvs; rw [hdf]; rfl
  have e2 : d.kws K = [] := by unfold He.DefD.kws; rw [hkw]; rfl
  rw [e1, e2] at F
  exact ⟨fd, F.kp, F.bindsN fun kV doc pm an cdv ct us hl => hb .none kV doc pm an cdv ct us hl, defM (G := G.with T) F S (TT.gok b t) rais hm h b.rp⟩
/-- one def more -/
theorem TT.cons {fa : List He.Fa} {fn : List He.DefD} {k : Nat} {G : Gam} {T : Tabs} {h : Heap} (b : Base K mg G) (t : TT P w K mg base G.ecls k T) (c : He.SaysD fa fn K) (X : K.In h) (GG : h.Ns mainGlobals mg) {d : He.DefD} (i : Nat) (hd : fn[i]? = some d) (i2 : Nat) (hf : fa[i2]? = some (.glo d.name))
    {N ps : List Str} {sp : Spec} {body : List C} {rs : List Str} (hat : d.at_ = (d.name, none)) (hdf : d.dfl = []) (hkw : d.kwd = []) (S : FnScope N ps d.scope) (rais : ∀ x ∈ rs, ∃ C, RaisK K mg G.ecls x C) (hm : mCs N d.scope rs body d.body = true)
    (hb : ∀ (dV kV doc pm : Value) (an : Option Addr) (cdv ct : Value) (us : List Value), us.length = ps.length → bindArgs (PySem.W.fnOf d.name d.qual d.params d.body d.scope .none kV doc pm an cdv ct) ⟨us, []⟩ = pure (ps.zip us))
    (h : Body (G.with T) N ps body sp) : TT P w K mg base G.ecls (k + 1) { T with fn := (d.name, sp) :: T.fn } := by
  obtain ⟨fd, a1, a2, a3⟩ := TT.one b t c i hd hdf hkw S rais hm hb h
  have hg := He.glo_ok X GG (c.fact i2 hf)
  rw [hat] at a1 a3
  refine ⟨fun p hp => ?_, (t.mono (by omega)).new, (t.mono (by omega)).mt⟩
  rcases List.mem_cons.mp hp with rfl | hp
  · exact ⟨_, fd, ps, hg, a1, a2, a3⟩
  · exact (t.fn p hp).mono (by omega)
theorem TT.sub {ec : Str → Option Addr} {k : Nat} {T T' : Tabs} (t : TT P w K mg base ec k T) (h : ∀ p ∈ T'.fn, p ∈ T.fn) (h2 : T'.new = T.new) (h3 : T'.mt = T.mt) : TT P w K mg base ec k T' :=
  ⟨fun p hp => t.fn p (h p hp), fun p hp => t.new p (by rw [← h2]; exact hp), fun p hp => t.mt p (by rw [← h3]; exact hp)⟩
/-- one method more -/
theorem TT.meth {fa : List He.Fa} {fn : List He.DefD} {k : Nat} {G : Gam} {T : Tabs} (b : Base K mg G) (t : TT P w K mg base G.ecls k T) (c : He.SaysD fa fn K) {d : He.DefD} (i : Nat) (hd : fn[i]? = some d) {C m : Str} (i2 : Nat) (hf : fa[i2]? = some (.cls C)) (i3 : Nat) (hf3 : fa[i3]? = some (.meth C m))
    {N ps : List Str} {sp : Spec} {body : List M.C} {rs : List Str} (hat : d.at_ = (C, some m)) (hdf : d.dfl = []) (hkw : d.kwd = []) (S : FnScope N ps d.scope) (rais : ∀ x ∈ rs, ∃ C, RaisK K mg G.ecls x C) (hm : mCs N d.scope rs body d.body = true)
    (hb : ∀ (dV kV doc pm : Value) (an : Option Addr) (cdv ct : Value) (us : List Value), us.length = ps.length → bindArgs (PySem.W.fnOf d.name d.qual d.params d.body d.scope .none kV doc pm an cdv ct) ⟨us, []⟩ = pure (ps.zip us))
    (h : Body (G.with T) N ps body sp) : TT P w K mg base G.ecls (k + 1) { T with mt := ((C, m), sp) :: T.mt } := by
  obtain ⟨fd, a1, a2, a3⟩ := TT.one b t c i hd hdf hkw S rais hm hb h
  rw [hat] at a1 a3
  refine ⟨(t.mono (by omega)).fn, (t.mono (by omega)).new, fun p hp => ?_⟩
  rcases List.mem_cons.mp hp with rfl | hp
  · exact ⟨_, fd, ps, He.cls_ok (c.fact i2 hf), He.meth_ok (c.fact i3 hf3), a2, a3⟩
  · exact (t.mt p hp).mono (by omega)
/-- one maker more -/
theorem TT.init {fa : List He.Fa} {fn : List He.DefD} {k : Nat} {G : Gam} {T : Tabs} {h : Heap} (b : Base K mg G) (t : TT P w K mg base G.ecls k T) (c : He.SaysD fa fn K) (X : K.In h) (GG : h.Ns mainGlobals mg) {d : He.DefD} (i : Nat) (hd : fn[i]? = some d) {C : Str} (i2 : Nat) (hf : fa[i2]? = some (.glo C)) (i3 : Nat) (hf3 : fa[i3]? = some (.mkr C))
    {N ps : List Str} {sp : Spec} {body : List M.C} {rs : List Str} (hat : d.at_ = (C, some ("__init__" : Str))) (hdf : d.dfl = []) (hkw : d.kwd = []) (S : FnScope N ps d.scope) (rais : ∀ x ∈ rs, ∃ C, RaisK K mg G.ecls x C) (hm : mCs N d.scope rs body d.body = true)
    (hb : ∀ (dV kV doc pm : Value) (an : Option Addr) (cdv ct : Value) (us : List Value), us.length = ps.length → bindArgs (PySem.W.fnOf d.name d.qual d.params d.body d.scope .none kV doc pm an cdv ct) ⟨us, []⟩ = pure (ps.zip us))
    (h : Body (G.with T) N ps body sp) : TT P w K mg base G.ecls (k + 2) { T with new := (C, sp) :: T.new } := by
  obtain ⟨fd, a1, a2, a3⟩ := TT.one b t c i hd hdf hkw S rais hm hb h
  have hg := He.glo_ok X GG (c.fact i2 hf)
  rw [hat] at a1 a3
  refine ⟨(t.mono (by omega)).fn, fun p hp => ?_, (t.mono (by omega)).mt⟩
  rcases List.mem_cons.mp hp with rfl | hp
  · exact ⟨k + 1, _, fd, ps, by omega, hg, He.mkr_ok (c.fact i3 hf3), a2, a3⟩
  · exact (t.new p hp).mono (by omega)
end
/-- a class's member -/
def clsAt (s : Stmt) (j : Nat) : Stmt := match s with
  | .ClassDef _ _ _ body _ _ _ _ _ _ _ => body.getD j (.Pass ⟨0, 0, 0, 0⟩)
  | s => s
def spLaw : Spec
  | [.ref p], S, Q, _ => (∃ ns : List Int, ns.length ≤ 63 ∧ rdL S p (ns.map .int)) ∧ Q (.bl true) S
  | _, _, _, _ => False
/-- no list stands among the module's own objects -/
def noL (K : PySem.W.Frag) : Bool := K.all fun p => match p.2.cls with
  | .type n => n != "list"
  | _ => true
theorem noL_at {K : PySem.W.Frag} {a : Addr} {o : Obj} (h : noL K = true) (e : K.lookup a = some o) (hc : o.cls = .type "list") : False := by
  have : ∀ {L : PySem.W.Frag}, noL L = true → L.lookup a = some o → False := by
    intro L
    induction L with
    | nil => intro _ e; cases e
    | cons p L ih =>
      intro h e
      unfold noL at h
      rw [List.all_cons, Bool.and_eq_true] at h
      obtain ⟨b, u⟩ := p
      rw [List.lookup_cons] at e
      split at e
      · cases e
        have z := h.1
        simp only [hc] at z
        simp at z
      · exact ih h.2 e
  exact this h e
end M

set_option maxHeartbeats 1000000
namespace M
open PySem PySem.Spec L2
local macro_rules | `(tactic| simp_wf) => `(tactic| simp only [wCs, w_asg, w_par, w_aug, w_ex, w_ret, w_retN, w_ite, w_brk, w_cnt, w_pass, w_rais, e_v, e_int, e_bl, e_non, e_str, e_g, e_bin, e_neg, e_cmp, e_chain, e_and, e_or, e_not, e_ife, e_tup, e_lst, e_ix, e_sl, e_rev, e_fld, e_call, e_new, e_meth, e_blt, e_mth, e_isi, e_isiT, e_dK0, e_dT0, e_dT1, e_revT, e_repr, e_ktup, e_lrng1, e_lrng2, e_lrev, e_trev, e_dix, e_dg1, e_dg2, e_dsd, e_dpop, e_din, wEs, wAndV, wOrV, wB, wAnd, wOr, wBs, wP, r_nm, r_tgT, r_tgQ, r_tgW, r_tgt, r_tgr, r_tgp, r_tgd, r_tgi, r_tgs, r_tgs0, wBin, wCmp,
  r_add_ii, r_add_ib, r_add_ss, r_add_tt, r_add_rr, r_sub_ii, r_mul_ii, r_mul_ri, r_mul_ti, r_div_ii, r_mod_ii, r_pow_ii, r_shl_ii, r_shr_ii, r_and_ii, r_xor_ii, r_int, r_is_n, r_is_b, r_tru_b, r_tru_i, r_tru_n, r_tru_t, r_tru_r, r_ix_t, r_ix_r, r_sl_t, r_sl_r, r_len_t, r_len_s, r_abs, r_min2, r_max2, r_int1, r_int1b, r_str1, r_list1, r_tuple1, r_tuple1t, r_tuple1p, r_len_p, r_sorted1t, r_ix_p, r_valD_p, r_ty_p, r_tindex, r_tyM_tindex, r_reverse, r_tyM_reverse, r_remove, r_tyM_remove, r_append, r_pop0, r_pop1, r_insert, r_extend, r_count, r_index, r_sum1, r_sorted1, r_tyM_pop1, r_tyM_insert, r_tyM_extend, r_tyM_count, r_tyM_index, r_fld, r_tgf, r_tyM_append, r_tyM_pop0, r_valD_t, r_valD_r, r_ty_n, r_ty_b, r_ty_i, r_ty_s, r_ty_t, r_is_non_int, r_is_non_bool, r_is_non_str, r_is_non_tuple, r_is_non_list, r_is_non_dict, r_is_bl_int, r_is_bl_bool, r_is_bl_str, r_is_bl_tuple, r_is_bl_list, r_is_bl_dict, r_is_int_int, r_is_int_bool, r_is_int_str, r_is_int_tuple, r_is_int_list, r_is_int_dict, r_is_str_int, r_is_str_bool, r_is_str_str, r_is_str_tuple, r_is_str_list, r_is_str_dict, r_is_ptup_int, r_is_ptup_bool, r_is_ptup_str, r_is_ptup_tuple, r_is_ptup_list, r_is_ptup_dict, r_is_tup_int, r_is_tup_bool, r_is_tup_str, r_is_tup_tuple, r_is_tup_list, r_is_tup_dict, isNon, r_W0, r_W1, r_T0, r_T1, r_T2, r_Q0, r_Q1, r_at0, r_at1, r_at2, r_at3, r_at4, r_at5, r_eq_ii, r_eq_bb,
  List.getElem?_cons_zero, List.getElem?_cons_succ, List.set_cons_zero, List.set_cons_succ, setAll, Option.some.injEq, Val.int.injEq, Val.bl.injEq, Val.tup.injEq, Val.ref.injEq, exists_eq_left', exists_eq_left, exists_eq_right, Bool.false_eq_true, if_true, if_false, List.isEmpty_nil, List.isEmpty_cons, true_and, and_true, ↓reduceIte, List.length_cons, List.length_nil, startL, List.map_cons, List.map_nil, Bool.not_true, Bool.not_false, Nat.reduceAdd, Nat.reduceSub, List.replicate, List.cons_append, List.nil_append, reduceCtorEq, false_and, exists_false, List.cons.injEq, Bool.false_xor, Bool.true_xor, wipeL, Int.reduceNeg, Int.cast_ofNat_Int, decide_true, decide_false, Int.reduceEq, decide_eq_true_eq, r_nd, r_sl0, r_sl1, r_sl2, r_sl3, r_sl4, r_sl5, r_sl6, r_sl7, r_sl8, r_sl9, r_sl10, r_sl11, r_sl12, r_sl13, r_sl14, r_sl15, r_sl16, r_sl17, r_sl18, r_sl19, r_sl20, r_sl21, r_sl22, r_sl23, r_sl24, decide_eq_false_iff_not, not_true_eq_false, not_false_eq_true, Int.not_lt, Int.not_le])
def relI : List Int → List Value → Bool
  | [], [] => true
  | i :: is, .int j _ :: us => decide (j = i) && relI is us
  | _, _ => false
def tupM (K : PySem.W.Frag) (p : Str × List Int) : Bool := match K.lookup (He.ga K p.1) with
  | some ⟨.type c, none, .seq its _, _⟩ => decide (c = "tuple") && (decide (its.size ≤ sizeLine) && relI p.2 its.toList)
  | _ => false
/-- what an object of the module names: code, a class's names, a dict's values -/
def refsS (o : Obj) : List Addr := (match o.dict with
  | some d => [d]
  | none => []) ++ match o.data with
  | .func fd => He.refV fd.code
  | .cls cd => [cd.ns]
  | .dict es _ => es.toList.flatMap fun e => He.refV e.val
  | _ => []
def stepS (g : Addr → Option Obj) (as : List Addr) : List Addr := as.flatMap fun a => match g a with
  | some o => refsS o
  | none => []
def asS (g : Addr → Option Obj) (n : Nat) : List Addr → List Addr
  | as => match n with
    | 0 => as
    | n + 1 => as ++ asS g n (stepS g as)
def frS (g : Addr → Option Obj) (n : Nat) : PySem.W.Frag := He.frG g (asS g n [mainGlobals])
def hookT (n : Nat) (fa : List He.Fa) (fn : List He.DefD) (tc : List (Str × List Int)) : PySem.W.Hook where
  α := He.AlD × Bool
  obs := fun s => (He.obsD fa fn (frS s.heap.get? n), noL (frS s.heap.get? n) && tc.all (tupM (frS s.heap.get? n)))
  val := fun _ => (He.valD fn, true)
  says := fun _ h => ∃ K : PySem.W.Frag, K.In h ∧ He.SaysD fa fn K ∧ noL K = true ∧ tc.all (tupM K) = true
  of := fun _ _ e => ⟨_, He.frG_in, congrArg Prod.fst e, Bool.and_eq_true_iff.mp (congrArg Prod.snd e)⟩
  keeps := fun _ _ _ ⟨K, hK, c⟩ k => ⟨K, PySem.W.Frag.In.keeps hK k, c⟩
def obsT (n : Nat) (fa : List He.Fa) (fn : List He.DefD) (tc : List (Str × List Int)) (s : PySem.W.SharedT) : He.AlD × Bool := (He.obsD fa fn (frS (HandSHeadRun.getT s) n), noL (frS (HandSHeadRun.getT s) n) && tc.all (tupM (frS (HandSHeadRun.getT s) n)))
theorem obsT_eq {n : Nat} {fa : List He.Fa} {fn : List He.DefD} {tc : List (Str × List Int)} (s : PySem.W.SharedT) : obsT n fa fn tc s = (hookT n fa fn tc).obs s.abs := by
  have e : HandSHeadRun.getT s = s.abs.heap.get? := funext (HandSHeadRun.getT_eq s)
  unfold obsT
  rw [e] <;> rfl
/-- a law's script, each number of at most 2 ** 20 bits -/
def spLawB : Spec
  | [.ref p], S, Q, _ => (∃ ns : List Int, ns.length ≤ 63 ∧ (∀ n ∈ ns, bits n ≤ 1048576) ∧ rdL S p (ns.map .int)) ∧ Q (.bl true) S
  | _, _, _, _ => False
theorem law_spB {K : PySem.W.Frag} {ec : Str → Option Addr} (hK : noL K = true) {H : Hp} {a : Addr} {ns : List Int} (hl : ns.length ≤ 63) (hb : ∀ n ∈ ns, bits n ≤ 1048576) (h : SqL K H a (ns.map V.int)) : lSp K ec spLawB [.ref a] H (fun v _ => v = .bl true) (fun _ _ _ => False) := by
  rcases h with h | ⟨o, its, n, e, hc, _⟩
  · refine ⟨[.ref a], fun b => if b = a then some (.ro (ns.map .int)) else none, .cons (by simp only [RepV]) .nil, fun b o e => ?_, .mk ⟨⟨ns, hl, hb, .ro (if_pos rfl)⟩, fun H' z _ _ r => by simp only [RepV] at r; exact r⟩⟩
    dsimp only at e
    by_cases hb : b = a
    · subst hb
      rw [if_pos rfl] at e; cases e
      simp only [RepA]
      refine ⟨_, h, ?_⟩
      clear h hl hb
      induction ns with
      | nil => exact .nil
      | cons m ms ih => exact .cons (by simp only [RepV]) ih
    · rw [if_neg hb] at e; cases e
  · exact (noL_at hK e hc).elim
theorem law_T {l : PySem.W.OpenLaw} {k n : Nat} {q : Program} {loose : List Str} {XP : (Str → Option Value) → Heap → Prop} {d : DefRec} {x : Str} {fa : List He.Fa} {fn : List He.DefD} {tc : List (Str × List Int)} (hm : l.most = some 63) (hd : d.params.defaults = []) (hr : Room k callerA)
    (F : ∀ (w : World) (mg : Str → Option Value) (f : Addr) (h : Heap) (K : PySem.W.Frag), K.In h → h.Ns mainGlobals mg → He.SaysD fa fn K → tc.all (tupM K) = true → mg d.name = some (.ref f) → ∃ (fd : FuncData) (ec : Str → Option Addr), (∀ (s : Shared) (us : List Value), us.length = 1 → BindsTo s fd ⟨us, []⟩ ([x].zip us)) ∧
      ∀ base : Heap, K.In base → base.Ns mainGlobals mg → FnOk l.prog w K mg base (L2.CX l.prog w) k f fd [x] (lSp K ec spLawB)) :
    PySem.W.WalkO q loose XP (hookT n fa fn tc).says l.row.toRowW d [] (fun f vs => PySem.call f vs) := by
  refine Att.attach_callB hm hd fun w s0 s1 mg mb f o pm cd doc a vs ns Gr Y ho hdo hcd hmg hobj hints hlen hbits hg => ?_
  obtain ⟨K, KX, c, nl, tq⟩ := Y
  obtain ⟨fd, ec, hb, hF⟩ := F w mg f _ K KX Gr.T.g c tq hmg
  refine law_call (x := x) KX Gr.T.g Gr.T.b Gr.T.builtins Gr.T.nolimit hg hobj hints (Nat.le_trans hlen (by decide)) hr hF (fun s u => hb s [u] rfl) (fun H _ hS => law_spB nl hlen (fun n hn => hbits n hn) hS) fun H e s' z => ?_
  obtain ⟨_, _, _, _, _, _, _, _, _, _, _, _, z⟩ := z
  exact z.elim
end M

set_option maxHeartbeats 0
namespace MH
open M PySem PySem.Spec PyProof.Rows L2
def top (i : Nat) : Stmt := PySem.Challenge.pw_heavycut_k16_whole_groups_against_all_si.main.body.getD i (.Pass ⟨0, 0, 0, 0⟩)
def d_Link_init : He.DefD := ⟨("Link", some "__init__"), "__init__", "Link.__init__", defArgs (clsAt (top 6) 0), defBody (clsAt (top 6) 0), defScope (clsAt (top 6) 0), [], []⟩
def d_Parting_init : He.DefD := ⟨("Parting", some "__init__"), "__init__", "Parting.__init__", defArgs (clsAt (top 7) 0), defBody (clsAt (top 7) 0), defScope (clsAt (top 7) 0), [], []⟩
def d_Walk_init : He.DefD := ⟨("Walk", some "__init__"), "__init__", "Walk.__init__", defArgs (clsAt (top 8) 0), defBody (clsAt (top 8) 0), defScope (clsAt (top 8) 0), [], []⟩
def d_Walk_other_end : He.DefD := ⟨("Walk", some "other_end"), "other_end", "Walk.other_end", defArgs (clsAt (top 8) 1), defBody (clsAt (top 8) 1), defScope (clsAt (top 8) 1), [], []⟩
def d_Walk_way_back : He.DefD := ⟨("Walk", some "way_back"), "way_back", "Walk.way_back", defArgs (clsAt (top 8) 2), defBody (clsAt (top 8) 2), defScope (clsAt (top 8) 2), [], []⟩
def d_Walk_odd_ring : He.DefD := ⟨("Walk", some "odd_ring"), "odd_ring", "Walk.odd_ring", defArgs (clsAt (top 8) 3), defBody (clsAt (top 8) 3), defScope (clsAt (top 8) 3), [], []⟩
def d_Walk_go : He.DefD := ⟨("Walk", some "go"), "go", "Walk.go", defArgs (clsAt (top 8) 4), defBody (clsAt (top 8) 4), defScope (clsAt (top 8) 4), [], []⟩
def d_Walk_begin : He.DefD := ⟨("Walk", some "begin"), "begin", "Walk.begin", defArgs (clsAt (top 8) 5), defBody (clsAt (top 8) 5), defScope (clsAt (top 8) 5), [], []⟩
def d_is_int : He.DefD := ⟨("is_int", none), "is_int", "is_int", defArgs (top 4), defBody (top 4), defScope (top 4), [], []⟩
def d_is_point : He.DefD := ⟨("is_point", none), "is_point", "is_point", defArgs (top 11), defBody (top 11), defScope (top 11), [], []⟩
def d_parted : He.DefD := ⟨("parted", none), "parted", "parted", defArgs (top 9), defBody (top 9), defScope (top 9), [], []⟩
def d_made_wish : He.DefD := ⟨("made_wish", none), "made_wish", "made_wish", defArgs (top 14), defBody (top 14), defScope (top 14), [], []⟩
def d_made_wishes : He.DefD := ⟨("made_wishes", none), "made_wishes", "made_wishes", defArgs (top 15), defBody (top 15), defScope (top 15), [], []⟩
def d_keeps : He.DefD := ⟨("keeps", none), "keeps", "keeps", defArgs (top 16), defBody (top 16), defScope (top 16), [], []⟩
def d_grouped_points : He.DefD := ⟨("grouped_points", none), "grouped_points", "grouped_points", defArgs (top 17), defBody (top 17), defScope (top 17), [], []⟩
def d_grouped : He.DefD := ⟨("grouped", none), "grouped", "grouped", defArgs (top 18), defBody (top 18), defScope (top 18), [], []⟩
def d_Ltruth : He.DefD := ⟨("_law_truth", none), "_law_truth", "_law_truth", defArgs (top 20), defBody (top 20), defScope (top 20), [], []⟩
def d_LstreamE : He.DefD := ⟨("_law_stream", none), "_law_stream", "_law_stream", defArgs (top 21), defBody (top 21), defScope (top 21), [], []⟩
def d_Lnx : He.DefD := ⟨("_law_next", none), "_law_next", "_law_next", defArgs (top 22), defBody (top 22), defScope (top 22), [], []⟩
def d_Lw16 : He.DefD := ⟨("_law_wishes", none), "_law_wishes", "_law_wishes", defArgs (top 23), defBody (top 23), defScope (top 23), [], []⟩
def d_LsidesE : He.DefD := ⟨("_law_sides", none), "_law_sides", "_law_sides", defArgs (top 24), defBody (top 24), defScope (top 24), [], []⟩
def d_Lkeeps : He.DefD := ⟨("_law_keeps", none), "_law_keeps", "_law_keeps", defArgs (top 25), defBody (top 25), defScope (top 25), [], []⟩
def d_Lfollows : He.DefD := ⟨("_law_follows", none), "_law_follows", "_law_follows", defArgs (top 26), defBody (top 26), defScope (top 26), [], []⟩
def d_law : He.DefD := ⟨("law", none), "law", "law", defArgs (top 27), defBody (top 27), defScope (top 27), [], []⟩
def fn : List He.DefD := [d_Link_init, d_Parting_init, d_Walk_init, d_Walk_other_end, d_Walk_way_back, d_Walk_odd_ring, d_Walk_go, d_Walk_begin, d_is_int, d_is_point, d_parted, d_made_wish, d_made_wishes, d_keeps, d_grouped_points, d_grouped, d_Ltruth, d_LstreamE, d_Lnx, d_Lw16, d_LsidesE, d_Lkeeps, d_Lfollows, d_law]
def fa : List He.Fa := [.glo "is_int", .glo "is_point", .glo "parted", .glo "made_wish", .glo "made_wishes", .glo "keeps", .glo "grouped_points", .glo "grouped", .glo "_law_truth", .glo "_law_stream", .glo "_law_next", .glo "_law_wishes", .glo "_law_sides", .glo "_law_keeps", .glo "_law_follows", .glo "law", .free "len", .free "abs", .free "min", .free "max", .free "int", .free "str", .free "list", .free "tuple", .free "sorted", .free "set", .free "sum", .free "bool", .free "isinstance", .free "range", .free "zip", .free "enumerate", .free "reversed", .free "repr", .free "dict", .cls "Link", .glo "Link", .cls "Parting", .glo "Parting", .cls "Walk", .glo "Walk", .mkr "Link", .mkr "Parting", .mkr "Walk", .meth "Walk" "other_end", .meth "Walk" "way_back", .meth "Walk" "odd_ring", .meth "Walk" "go", .meth "Walk" "begin", .noat "Link" "one", .noat "Link" "other", .noat "Link" "apart", .noat "Walk" "links", .noat "Walk" "found", .noat "Walk" "came_by", .noat "Walk" "at_point", .noat "Parting" "groups", .noat "Parting" "bits", .noat "Parting" "ring", .int "MOST_WISHES" 120, .exc "NoWishes", .glo "NoWishes"]
def nm0 : List Str := ["CutError", "NoWishes", "is_int", "Link", "Parting", "Walk", "parted", "is_point", "MOST_WISHES", "made_wish", "made_wishes", "keeps", "grouped_points", "grouped", "_law_truth", "_law_stream", "_law_next", "_law_wishes", "_law_sides", "_law_keeps"]
def nm1 : List Str := ["_law_follows"]
def nms : List Str := nm0 ++ nm1
def tc : List (Str × List Int) := []
abbrev R : PySem.W.OpenRow := PySem.W.OpenLaw.row PySem.Challenge.rw_heavycut_k16_whole_groups_against_all_si
theorem run (w : World) : HandSHeadRun.RunEq R (PySem.W.view R.prog [27]) (hookT 4 fa fn tc) (obsT 4 fa fn tc) 6000 nms w := by
  intro os
  kernel_rfl
end MH
set_option maxHeartbeats 200000

set_option maxHeartbeats 1000000
namespace M
open PySem PySem.Spec PyProof.Rows L2
theorem wCs_step {G : Gam} {c : C} {cs : List C} {D : En} {ρ : Loc} {S : Sto} (h : ∀ nx : Loc → Sto → Prop, nx = (fun ρ S => wCs G cs D ρ S) → wC G c { D with nx := nx } ρ S) : wCs G (c :: cs) D ρ S := by
  simp only [wCs]
  exact h _ rfl
theorem r_tgs {G : Gam} {X : XPost} {t : T} {ts : List T} {v : Val} {vs : List Val} {ρ : Loc} {S : Sto} {Q : Loc → Sto → Prop} : wTgs G X (t :: ts) (v :: vs) ρ S Q = wTg G X t v ρ S (fun ρ' S' => wTgs G X ts vs ρ' S' Q) := by
  simp only [wTgs, List.cons.injEq, eq_iff_iff]
  exact ⟨fun ⟨_, _, ⟨rfl, rfl⟩, q⟩ => q, fun q => ⟨_, _, ⟨rfl, rfl⟩, q⟩⟩
theorem r_tgs0 {G : Gam} {X : XPost} {ρ : Loc} {S : Sto} {Q : Loc → Sto → Prop} : wTgs G X [] [] ρ S Q = Q ρ S := by
  simp only [wTgs, true_and]
theorem r_nm {G : Gam} {X : XPost} {i : Nat} {v : Val} {ρ : Loc} {S : Sto} {Q : Loc → Sto → Prop} : wTg G X (.nm i) v ρ S Q = Q (ρ.set i (some v)) S := by simp only [wTg]
theorem r_tgt {G : Gam} {X : XPost} {ts : List T} {vs : List Val} {ρ : Loc} {S : Sto} {Q : Loc → Sto → Prop} : wTg G X (.tup ts) (.tup vs) ρ S Q = (vs.length = ts.length ∧ wTgs G X ts vs ρ S Q) := by
  simp only [wTg, valD, exists_eq_left]
theorem r_tgr {G : Gam} {X : XPost} {ts : List T} {p : Addr} {ρ : Loc} {S : Sto} {Q : Loc → Sto → Prop} : wTg G X (.tup ts) (.ref p) ρ S Q = ∃ vs, rdL S p vs ∧ vs.length = ts.length ∧ wTgs G X ts vs ρ S Q := by
  simp only [wTg, valD]
theorem r_tgf {G : Gam} {X : XPost} {a : E} {f : Str} {v : Val} {ρ : Loc} {S : Sto} {Q : Loc → Sto → Prop} : wTg G X (.fld a f) v ρ S Q = wE G X a ρ S fun o S1 => ∃ p C fs, o = .ref p ∧ S1 p = some (.ins C fs) ∧ G.fo C f = true ∧ fs.length < 1000 ∧ Q ρ (S1.upd p (.ins C (putV f v fs))) := by simp only [wTg]
theorem r_tgi {G : Gam} {X : XPost} {a i : E} {v : Val} {ρ : Loc} {S : Sto} {Q : Loc → Sto → Prop} : wTg G X (.ix a i) v ρ S Q = wE G X a ρ S fun o S1 => wE G X i ρ S1 fun k S2 => ∃ p xs j n, o = .ref p ∧ k = .int n ∧ S2 p = some (.lst xs) ∧ ixN xs.length n = some j ∧ Q ρ (S2.upd p (.lst (xs.set j v))) := by simp only [wTg]
/-- a for by an invariant of what is still to come -/
theorem forW_inv {keep : Sto → Prop} {turn : Val → Loc → Sto → En → Prop} {D : En} (I : List Val → Loc → Sto → Prop) (hk : ∀ r ρ S, I r ρ S → keep S) (hend : ∀ ρ S, I [] ρ S → D.nx ρ S)
    (hst : ∀ x r ρ S, I (x :: r) ρ S → ∀ D' : En, (∀ ρ S, I r ρ S → D'.nx ρ S) → (∀ ρ S, I r ρ S → D'.ct ρ S) → D'.rt = D.rt → D'.bk = D.nx → D'.xc = D.xc → turn x ρ S D') : ∀ xs ρ S, I xs ρ S → forW keep turn D xs ρ S
  | [], ρ, S, h => ⟨hk _ _ _ h, hend _ _ h⟩
  | x :: xs, ρ, S, h => ⟨hk _ _ _ h, hst x xs ρ S h _ (fun ρ S => forW_inv I hk hend hst xs ρ S) (fun ρ S => forW_inv I hk hend hst xs ρ S) rfl rfl rfl⟩
theorem compW_inv {keep : Sto → Prop} {turn : Val → Sto → (Option Val → Sto → Prop) → Prop} {Q : Post} (I : List Val → List Val → Sto → Prop) (hk : ∀ r acc S, I r acc S → keep S) (hend : ∀ acc S, I [] acc S → ∀ p, S p = none → Q (.ref p) (S.upd p (.lst acc)))
    (hst : ∀ x r acc S, I (x :: r) acc S → ∀ R : Option Val → Sto → Prop, (∀ S, I r acc S → R none S) → (∀ v S, I r (acc ++ [v]) S → acc.length < sizeLine → R (some v) S) → turn x S R) (hl : ∀ r acc S, I r acc S → acc.length < sizeLine) : ∀ xs acc S, I xs acc S → compW keep turn xs acc S Q
  | [], acc, S, h => ⟨hk _ _ _ h, hend _ _ h⟩
  | x :: xs, acc, S, h => ⟨hk _ _ _ h, hst x xs acc S h _ (fun S h => compW_inv I hk hend hst hl xs acc S h) fun v S h hla => ⟨hla, compW_inv I hk hend hst hl xs (acc ++ [v]) S h⟩⟩
theorem Sto.upd_eta {S : Sto} {p : Addr} {o : MO} (h : S p = some o) : S.upd p o = S := by
  funext a
  by_cases e : a = p
  · subst e; rw [Sto.upd_same, h]
  · rw [Sto.upd_ne e]
theorem Sto.upd_upd {S : Sto} {p : Addr} {o o' : MO} : (S.upd p o).upd p o' = S.upd p o' := by
  funext a
  by_cases e : a = p
  · subst e; rw [Sto.upd_same, Sto.upd_same]
  · rw [Sto.upd_ne e, Sto.upd_ne e, Sto.upd_ne e]
/-- a size in bits -/
def Sz (n : Nat) (i : Int) : Prop := i.natAbs < 2 ^ n
theorem Sz.mono {m n : Nat} {i : Int} (h : Sz m i) (l : m ≤ n) : Sz n i := Nat.lt_of_lt_of_le h (Nat.pow_le_pow_right (by decide) l)
theorem Sz.mul {m n : Nat} {i j : Int} (h : Sz m i) (h' : Sz n j) : Sz (m + n) (i * j) := by
  unfold Sz at *
  rw [Int.natAbs_mul, Nat.pow_add]
  exact Nat.mul_lt_mul'' h h'
theorem Sz.add {m n : Nat} {i j : Int} (h : Sz m i) (h' : Sz n j) : Sz (max m n + 1) (i + j) := by
  have a := h.mono (Nat.le_max_left m n)
  have b := h'.mono (Nat.le_max_right m n)
  unfold Sz at *
  have := Int.natAbs_add_le i j
  rw [Nat.pow_succ]
  omega
theorem Sz.neg {m : Nat} {i : Int} (h : Sz m i) : Sz m (-i) := by unfold Sz at *; rw [Int.natAbs_neg]; exact h
theorem Sz.sub {m n : Nat} {i j : Int} (h : Sz m i) (h' : Sz n j) : Sz (max m n + 1) (i - j) := by rw [Int.sub_eq_add_neg]; exact h.add h'.neg
theorem Sz.bits {m : Nat} {i : Int} (h : Sz m i) : bits i ≤ m := PyProof.Rows.intBits_le h
theorem Sz.mulOk {m n : Nat} {i j : Int} (h : Sz m i) (h' : Sz n j) (l : m + n ≤ 134217728) : MulOk i j := by
  have a := h.bits
  have b := h'.bits
  unfold MulOk; omega
theorem Sz.abs {m : Nat} {i : Int} (h : Sz m i) : Sz m (if i < 0 then -i else i) := by split; exact h.neg; exact h
theorem Sz.of_le {m : Nat} {i j : Int} (h : Sz m i) (l : j.natAbs ≤ i.natAbs) : Sz m j := Nat.lt_of_le_of_lt l h
theorem divOk_of {i j : Int} (h : j ≠ 0) (s : Sz 9000 j) : DivOk i j := by
  refine ⟨h, ?_⟩
  unfold Builtin.divisionGoesByPylong
  simp only [Bool.and_eq_false_iff, decide_eq_false_iff_not, Nat.not_lt]
  left
  split
  · exact Nat.zero_le _
  · rename_i hj
    have hn : j.natAbs ≠ 0 := by omega
    have : j.natAbs.log2 < 9000 := (Nat.log2_lt hn).mpr s
    omega
theorem divOk_s {i j : Int} (h : 0 < j) (hs : j < 2 ^ 31) : DivOk i j := divOk_of (by omega) (Sz.mono (m := 31) (show j.natAbs < 2 ^ 31 by omega) (by decide))
theorem idiv_pos {i j : Int} (h : 0 < j) : idiv i j = i / j := by unfold idiv; rw [if_pos h]
theorem imod_pos {i j : Int} (h : 0 < j) : imod i j = i % j := by unfold imod; rw [if_pos h]
/-- a call's promise where it is met as it stands -/
theorem app.of {sp : Spec} {vs : List Val} {S : Sto} {Q : Post} {X : XPost} (h : sp vs S Q X) : app sp vs S Q X := .mk h
section
variable {S : Sto} {Q : Post} {i j : Int} {a b : Bool} {x y : Str} {xs ys vs : List Val} {p q : Addr} {v : Val} {n : Bool}
theorem r_bl (a : Bool) : (Val.bl a = .bl b) = (a = b) := by simp
theorem r_add_ii : bAdd (.int i) (.int j) S Q = Q (.int (i + j)) S := rfl
theorem r_add_ib : bAdd (.int i) (.bl b) S Q = Q (.int (i + b2i b)) S := rfl
theorem r_add_ss : bAdd (.str x) (.str y) S Q = (x.length + y.length ≤ sizeLine ∧ Q (.str (x ++ y)) S) := rfl
theorem r_add_tt : bAdd (.tup xs) (.tup ys) S Q = (xs.length + ys.length ≤ sizeLine ∧ Q (.tup (xs ++ ys)) S) := rfl
theorem r_add_rr : bAdd (.ref p) (.ref q) S Q = (∃ xs ys, S p = some (.lst xs) ∧ S q = some (.lst ys) ∧ xs.length + ys.length ≤ sizeLine ∧ ∀ p, S p = none → Q (.ref p) (S.upd p (.lst (xs ++ ys)))) := rfl
theorem r_sub_ii : bSub (.int i) (.int j) S Q = Q (.int (i - j)) S := rfl
theorem r_mul_ii : bMul (.int i) (.int j) S Q = (MulOk i j ∧ Q (.int (i * j)) S) := rfl
theorem r_mul_ri : bMul (.ref p) (.int j) S Q = (∃ xs, S p = some (.lst xs) ∧ -(2 ^ 63) ≤ j ∧ j < 2 ^ 63 ∧ xs.length * j.toNat ≤ sizeLine ∧ ∀ p, S p = none → Q (.ref p) (S.upd p (.lst (List.replicate j.toNat xs).flatten))) := rfl
theorem r_mul_ti : bMul (.tup xs) (.int j) S Q = (1 ≤ j ∧ j ≤ 1000 ∧ xs.length ≤ 1000 ∧ Q (.tup (List.replicate j.toNat xs).flatten) S) := rfl
theorem r_div_ii : bDiv (.int i) (.int j) S Q = (DivOk i j ∧ Q (.int (idiv i j)) S) := rfl
theorem r_mod_ii : bMod (.int i) (.int j) S Q = (j ≠ 0 ∧ Q (.int (imod i j)) S) := rfl
theorem r_pow_ii : bPow (.int i) (.int j) S Q = ((0 ≤ j ∧ j ≤ 1000000 ∧ i.natAbs < 2 ^ 64) ∧ Q (.int (i ^ j.toNat)) S) := rfl
theorem r_shl_ii : bShl (.int i) (.int j) S Q = ((0 ≤ j ∧ (bits i : Int) + j ≤ 2 ^ 27) ∧ Q (.int (i * 2 ^ j.toNat)) S) := rfl
theorem r_shr_ii : bShr (.int i) (.int j) S Q = (0 ≤ j ∧ Q (.int (i / 2 ^ j.toNat)) S) := rfl
theorem r_and_ii : bAnd (.int i) (.int j) S Q = Q (.int (Builtin.bitAnd i j)) S := rfl
theorem r_xor_ii : bXor (.int i) (.int j) S Q = Q (.int (Builtin.bitXor i j)) S := rfl
theorem r_int {f : Int → Int → Bool} : cInt f (.int i) (.int j) S Q = Q (.bl (f i j)) S := rfl
theorem r_is_n : cIs n v .non S Q = Q (.bl (n ^^ isNon v)) S := by cases v <;> rfl
theorem r_is_b : cIs n (.bl a) (.bl b) S Q = Q (.bl (n ^^ decide (a = b))) S := rfl
theorem r_tru_b {Q : Bool → Sto → Prop} : wTru (.bl b) S Q = Q b S := rfl
theorem r_tru_i {Q : Bool → Sto → Prop} : wTru (.int i) S Q = Q (i != 0) S := rfl
theorem r_tru_n {Q : Bool → Sto → Prop} : wTru .non S Q = Q false S := rfl
theorem r_tru_t {Q : Bool → Sto → Prop} : wTru (.tup xs) S Q = Q (!xs.isEmpty) S := rfl
theorem r_tru_r {Q : Bool → Sto → Prop} : wTru (.ref p) S Q = ∃ xs, rdL S p xs ∧ Q (!xs.isEmpty) S := rfl
theorem r_ix_t : vIx (.tup xs) (.int i) S Q = ∃ v, atI xs i = some v ∧ Q v S := rfl
theorem r_ix_r : vIx (.ref p) (.int i) S Q = ∃ xs v, rdL S p xs ∧ atI xs i = some v ∧ Q v S := rfl
theorem r_sl_t {lo hi : Option Int} : vSl (.tup xs) lo hi S Q = Q (.tup (cut xs lo hi)) S := rfl
theorem r_sl_r {lo hi : Option Int} : vSl (.ref p) lo hi S Q = ∃ xs, rdL S p xs ∧ ∀ p, S p = none → Q (.ref p) (S.upd p (.lst (cut xs lo hi))) := rfl
theorem r_len_t : wBlt .len [.tup xs] S Q = Q (.int xs.length) S := rfl
theorem r_len_l (h : S p = some (.lst xs)) : wBlt .len [.ref p] S Q = Q (.int xs.length) S := by simp only [wBlt, h]
theorem r_len_s : wBlt .len [.str x] S Q = (x.length ≤ sizeLine ∧ Q (.int x.length) S) := rfl
theorem r_abs : wBlt .abs [.int i] S Q = Q (.int (if i < 0 then -i else i)) S := rfl
theorem r_min2 : wBlt .min2 [.int i, .int j] S Q = Q (.int (if j < i then j else i)) S := rfl
theorem r_max2 : wBlt .max2 [.int i, .int j] S Q = Q (.int (if j > i then j else i)) S := rfl
theorem r_int1 : wBlt .int1 [.int i] S Q = Q (.int i) S := rfl
theorem r_int1b : wBlt .int1 [.bl b] S Q = Q (.int (if b then 1 else 0)) S := rfl
theorem r_bool1 : wBlt .bool1 [.int i] S Q = Q (.bl (i != 0)) S := rfl
theorem r_str1 : wBlt .str1 [.int i] S Q = (i.natAbs.log2 < 1920 ∧ Q (.str (toString i)) S) := rfl
theorem r_list1 : wBlt .list1 [v] S Q = ∃ xs, valD S v xs ∧ ∀ p, S p = none → Q (.ref p) (S.upd p (.lst xs)) := rfl
theorem r_tuple1 : wBlt .tuple1 [.ref p] S Q = ∃ xs, rdL S p xs ∧ Q (.tup xs) S := rfl
theorem r_tuple1t : wBlt .tuple1 [.tup xs] S Q = Q (.tup xs) S := rfl
theorem r_tuple1p : wBlt .tuple1 [.ptup xs] S Q = Q (.ptup xs) S := rfl
theorem r_len_p : wBlt .len [.ptup xs] S Q = Q (.int xs.length) S := rfl
theorem r_sorted1t : wBlt .sorted1 [.tup xs] S Q = ∃ ns : List Int, xs = ns.map .int ∧ ∀ ns' : List Int, ns'.Perm ns → ns'.Pairwise (· ≤ ·) → ∀ p, S p = none → Q (.ref p) (S.upd p (.lst (ns'.map .int))) := rfl
theorem r_ix_p : vIx (.ptup xs) (.int i) S Q = ∃ v, atI xs i = some v ∧ Q v S := rfl
theorem r_valD_p : valD S (.ptup xs) ys = (ys = xs) := rfl
theorem r_ty_p : tyName (.ptup xs) S = some "tuple" := rfl
theorem r_tindex : wMth .tindex (.tup xs) [.int i] S Q = ∃ (ns : List Int) (j : Nat), xs = ns.map .int ∧ ns[j]? = some i ∧ (∀ m : Nat, m < j → ns[m]? ≠ some i) ∧ Q (.int j) S := rfl
theorem r_tyM_tindex : tyM .tindex (.tup xs) S = True := rfl
theorem r_reverse : wMth .reverse (.ref p) [] S Q = ∃ xs, S p = some (.lst xs) ∧ Q .non (S.upd p (.lst xs.reverse)) := rfl
theorem r_tyM_reverse : tyM .reverse (.ref p) S = ∃ xs, rdL S p xs := rfl
theorem r_remove : wMth .remove (.ref p) [.int i] S Q = ∃ (ns : List Int) (j : Nat), S p = some (.lst (ns.map .int)) ∧ ns[j]? = some i ∧ (∀ m : Nat, m < j → ns[m]? ≠ some i) ∧ Q .non (S.upd p (.lst ((ns.eraseIdx j).map .int))) := rfl
theorem r_tyM_remove : tyM .remove (.ref p) S = ∃ xs, rdL S p xs := rfl
theorem r_append : wMth .append (.ref p) [v] S Q = ∃ xs, S p = some (.lst xs) ∧ xs.length < sizeLine ∧ Q .non (S.upd p (.lst (xs ++ [v]))) := rfl
theorem r_pop0 : wMth .pop0 (.ref p) [] S Q = ∃ xs v, S p = some (.lst xs) ∧ xs.getLast? = some v ∧ Q v (S.upd p (.lst xs.dropLast)) := rfl
theorem r_pop1 : wMth .pop1 (.ref p) [.int i] S Q = ∃ xs v, S p = some (.lst xs) ∧ 0 ≤ i ∧ i < 2 ^ 62 ∧ xs[i.toNat]? = some v ∧ Q v (S.upd p (.lst (xs.eraseIdx i.toNat))) := rfl
theorem r_insert : wMth .insert (.ref p) [.int i, v] S Q = ∃ xs, S p = some (.lst xs) ∧ xs.length < sizeLine ∧ 0 ≤ i ∧ i < 2 ^ 62 ∧ Q .non (S.upd p (.lst (xs.take i.toNat ++ [v] ++ xs.drop i.toNat))) := rfl
theorem r_extend : wMth .extend (.ref p) [.ref q] S Q = ∃ xs ys, S p = some (.lst xs) ∧ S q = some (.lst ys) ∧ xs.length + ys.length ≤ sizeLine ∧ Q .non (S.upd p (.lst (xs ++ ys))) := rfl
theorem r_count : wMth .count (.ref p) [.int i] S Q = ∃ ns : List Int, rdL S p (ns.map .int) ∧ Q (.int (ns.count i : Nat)) S := rfl
theorem r_index : wMth .index (.ref p) [.int i] S Q = ∃ (ns : List Int) (j : Nat), rdL S p (ns.map .int) ∧ ns[j]? = some i ∧ (∀ m : Nat, m < j → ns[m]? ≠ some i) ∧ Q (.int j) S := rfl
theorem r_sum1 : wBlt .sum1 [.ref p] S Q = ∃ ns : List Int, rdL S p (ns.map .int) ∧ Q (.int ns.sum) S := rfl
theorem r_sorted1 : wBlt .sorted1 [.ref p] S Q = ∃ ns : List Int, rdL S p (ns.map .int) ∧ ∀ ns' : List Int, ns'.Perm ns → ns'.Pairwise (· ≤ ·) → ∀ p, S p = none → Q (.ref p) (S.upd p (.lst (ns'.map .int))) := rfl
theorem r_tyM_pop1 : tyM .pop1 (.ref p) S = ∃ xs, rdL S p xs := rfl
theorem r_tyM_insert : tyM .insert (.ref p) S = ∃ xs, rdL S p xs := rfl
theorem r_tyM_extend : tyM .extend (.ref p) S = ∃ xs, rdL S p xs := rfl
theorem r_tyM_count : tyM .count (.ref p) S = ∃ xs, rdL S p xs := rfl
theorem r_tyM_index : tyM .index (.ref p) S = ∃ xs, rdL S p xs := rfl
theorem r_fld {fo : Str → Str → Bool} {f : Str} : vFld fo f (.ref p) S Q = ∃ C fs v, S p = some (.ins C fs) ∧ fo C f = true ∧ fs.lookup f = some v ∧ Q v S := rfl
theorem r_tyM_append : tyM .append (.ref p) S = ∃ xs, rdL S p xs := rfl
theorem r_tyM_pop0 : tyM .pop0 (.ref p) S = ∃ xs, rdL S p xs := rfl
theorem r_valD_t : valD S (.tup xs) ys = (ys = xs) := rfl
theorem r_valD_r : valD S (.ref p) ys = rdL S p ys := rfl
theorem r_ty_n : tyName .non S = some "NoneType" := rfl
theorem r_ty_b : tyName (.bl b) S = some "bool" := rfl
theorem r_ty_i : tyName (.int i) S = some "int" := rfl
theorem r_ty_s : tyName (.str x) S = some "str" := rfl
theorem r_ty_t : tyName (.tup xs) S = some "tuple" := rfl
theorem r_ty_l (h : S p = some (.lst xs)) : tyName (.ref p) S = some "list" := by simp only [tyName, h]
end
theorem atI_nat {α : Type} (xs : List α) (n : Nat) : atI xs (n : Int) = xs[n]? := by
  unfold L2.atI L2.ixN
  rw [if_pos (Int.natCast_nonneg n)]
  split
  · simp
  · rename_i h
    rw [List.getElem?_eq_none (by omega)]; rfl
section
variable {α : Type} {a b c d e f : α} {xs : List α}
theorem r_at0 : atI (a :: xs) 0 = some a := atI_nat _ 0
theorem r_at1 : atI (a :: b :: xs) 1 = some b := atI_nat _ 1
theorem r_at2 : atI (a :: b :: c :: xs) 2 = some c := atI_nat _ 2
theorem r_at3 : atI (a :: b :: c :: d :: xs) 3 = some d := atI_nat _ 3
theorem r_at4 : atI (a :: b :: c :: d :: e :: xs) 4 = some e := atI_nat _ 4
theorem r_at5 : atI (a :: b :: c :: d :: e :: f :: xs) 5 = some f := atI_nat _ 5
end
theorem ixN_nat {n i : Nat} (h : i < n) : ixN n (i : Int) = some i := by
  unfold L2.ixN
  rw [if_pos (Int.natCast_nonneg i), if_pos (by omega)]; simp
section
variable {G : Gam} {t : T} {p : List C} {D : En} {ρ : Loc} {S S1 S2 : Sto} {a b : E}
/-- one turn of a for -/
def Turn (G : Gam) (t : T) (p : List C) (D : En) (I : List Val → Loc → Sto → Prop) : Prop := ∀ x r ρ S, I (x :: r) ρ S → ∀ D' : En, (∀ ρ S, I r ρ S → D'.nx ρ S) → (∀ ρ S, I r ρ S → D'.ct ρ S) → D'.rt = D.rt → D'.bk = D.nx → D'.xc = D.xc → wTg G noX t x ρ S fun ρ2 S3 => wCs G p D' ρ2 S3
theorem loop_rng1 {j : Int} (I : List Val → Loc → Sto → Prop) (ha : ∀ Q : Post, Q (.int j) S1 → wE G (fun c S => D.xc c ρ S) a ρ S Q) (hj : small62 j) (h0 : I (rngV 0 j.toNat) ρ S1) (hend : ∀ ρ S, I [] ρ S → D.nx ρ S) (hst : Turn G t p D I) : wC G (.loop t (.rng1 a) p) D ρ S := by
  simp only [wC, wI]
  exact ha _ ⟨j, rfl, hj, forW_inv I (fun _ _ _ _ => trivial) hend hst _ _ _ h0⟩
theorem loop_rng2 {i j : Int} (I : List Val → Loc → Sto → Prop) (ha : ∀ Q : Post, Q (.int i) S1 → wE G (fun c S => D.xc c ρ S) a ρ S Q) (hb : ∀ Q : Post, Q (.int j) S2 → wE G (fun c S => D.xc c ρ S) b ρ S1 Q) (hi : small62 i) (hj : small62 j) (h0 : I (rngV i (j - i).toNat) ρ S2) (hend : ∀ ρ S, I [] ρ S → D.nx ρ S) (hst : Turn G t p D I) : wC G (.loop t (.rng2 a b) p) D ρ S := by
  simp only [wC, wI]
  exact ha _ (hb _ ⟨i, j, rfl, rfl, hi, hj, forW_inv I (fun _ _ _ _ => trivial) hend hst _ _ _ h0⟩)
theorem loop_list {q : Addr} {xs : List Val} (I : List Val → Loc → Sto → Prop) (ha : ∀ Q : Post, Q (.ref q) S1 → wE G (fun c S => D.xc c ρ S) a ρ S Q) (hr : rdL S1 q xs) (hk : ∀ r ρ S, I r ρ S → rdL S q xs) (h0 : I xs ρ S1) (hend : ∀ ρ S, I [] ρ S → D.nx ρ S) (hst : Turn G t p D I) : wC G (.loop t (.val a) p) D ρ S := by
  simp only [wC, wI]
  exact ha _ ⟨xs, hr, forW_inv I hk hend hst _ _ _ h0⟩
theorem whil_rule {c : B} (W : Nat → Loc → Sto → Prop) {m : Nat} (h0 : W m ρ S) (h : ∀ m ρ S, W m ρ S → wB G (fun c S => D.xc c ρ S) c ρ S fun k S1 =>
      if k = true then wCs G p { D with nx := fun ρ' S' => ∃ m', m' < m ∧ W m' ρ' S', ct := fun ρ' S' => ∃ m', m' < m ∧ W m' ρ' S', bk := D.nx } ρ S1 else D.nx ρ S1) : wC G (.whil c p) D ρ S := by
  simp only [wC]
  exact ⟨W, ⟨m, h0⟩, h⟩
/-- one turn of a comprehension -/
def CTurn (G : Gam) (own : List Nat) (t : T) (ifs : List B) (e : E) (ρ : Loc) (I : List Val → List Val → Sto → Prop) : Prop := ∀ x r acc S, I (x :: r) acc S → ∀ R : Option Val → Sto → Prop, (∀ S, I r acc S → R none S) → (∀ v S, I r (acc ++ [v]) S → acc.length < sizeLine → R (some v) S) →
  wTg G noX t x (wipeL ρ own) S fun ρ' S3 => wBs G noX ifs ρ' S3 fun k S4 => if k = true then wE G noX e ρ' S4 fun v S5 => R (some v) S5 else R none S4
variable {own : List (Str × Nat)} {ifs : List B} {e : E} {Q : Post} {X : XPost}
theorem lc_rng1 {j : Int} (I : List Val → List Val → Sto → Prop) (ha : ∀ Q : Post, Q (.int j) S1 → wE G X a ρ S Q) (hj : small62 j) (h0 : I (rngV 0 j.toNat) [] S1) (hl : ∀ r acc S, I r acc S → acc.length < sizeLine) (hend : ∀ acc S, I [] acc S → ∀ p, S p = none → Q (.ref p) (S.upd p (.lst acc))) (hst : CTurn G (own.map (·.2)) t ifs e ρ I) : wE G X (.lc own t (.rng1 a) ifs e) ρ S Q := by
  simp only [wE, wI]
  exact ha _ ⟨j, rfl, hj, compW_inv I (fun _ _ _ _ => trivial) hend hst hl _ _ _ h0⟩
theorem lc_tup {xs : List Val} (I : List Val → List Val → Sto → Prop) (ha : ∀ Q : Post, Q (.tup xs) S1 → wE G X a ρ S Q) (h0 : I xs [] S1) (hl : ∀ r acc S, I r acc S → acc.length < sizeLine) (hend : ∀ acc S, I [] acc S → ∀ p, S p = none → Q (.ref p) (S.upd p (.lst acc))) (hst : CTurn G (own.map (·.2)) t ifs e ρ I) : wE G X (.lc own t (.val a) ifs e) ρ S Q := by
  simp only [wE, wI]
  exact ha _ (compW_inv I (fun _ _ _ _ => trivial) hend hst hl _ _ _ h0)
theorem lc_list {q : Addr} {xs : List Val} (I : List Val → List Val → Sto → Prop) (ha : ∀ Q : Post, Q (.ref q) S1 → wE G X a ρ S Q) (hr : rdL S1 q xs) (hk : ∀ r acc S, I r acc S → rdL S q xs) (h0 : I xs [] S1) (hl : ∀ r acc S, I r acc S → acc.length < sizeLine) (hend : ∀ acc S, I [] acc S → ∀ p, S p = none → Q (.ref p) (S.upd p (.lst acc))) (hst : CTurn G (own.map (·.2)) t ifs e ρ I) : wE G X (.lc own t (.val a) ifs e) ρ S Q := by
  simp only [wE, wI]
  exact ha _ ⟨xs, hr, compW_inv I hk hend hst hl _ _ _ h0⟩
end
theorem rngV_len {lo : Int} {n : Nat} : (rngV lo n).length = n := by unfold rngV; simp
section
variable {G : Gam} {X : XPost} {D : En} {ρ : Loc} {S : Sto} {Q : Post}
theorem w_asg {t : T} {e : E} : wC G (.asg t e) D ρ S = (wE G (fun c S => D.xc c ρ S) e ρ S fun v S1 => wTg G noX t v ρ S1 D.nx) := by simp only [wC]
theorem w_par {is : List Nat} {es : List E} : wC G (.par is es) D ρ S = (wEs G (fun c S => D.xc c ρ S) es ρ S fun vs S1 => D.nx (setAll ρ is vs) S1) := by simp only [wC]
theorem w_aug {i : Nat} {op : Operator} {e : E} : wC G (.aug i op e) D ρ S = (∃ v, ρ[i]? = some (some v) ∧ wE G (fun c S => D.xc c ρ S) e ρ S fun w S1 => wAug op v w S1 fun r S2 => D.nx (ρ.set i (some r)) S2) := by simp only [wC]
theorem w_ex {e : E} : wC G (.ex e) D ρ S = (wE G (fun c S => D.xc c ρ S) e ρ S fun _ S1 => D.nx ρ S1) := by simp only [wC]
theorem w_ret {e : E} : wC G (.ret e) D ρ S = (wE G (fun c S => D.xc c ρ S) e ρ S D.rt) := by simp only [wC]
theorem w_retN  : wC G .retN D ρ S = (D.rt .non S) := by simp only [wC]
theorem w_ite {c : B} {p : List C} {q : List C} : wC G (.ite c p q) D ρ S = (wB G (fun c S => D.xc c ρ S) c ρ S fun k S1 => if k = true then wCs G p D ρ S1 else wCs G q D ρ S1) := by simp only [wC]
theorem w_brk  : wC G .brk D ρ S = (D.bk ρ S) := by simp only [wC]
theorem w_cnt  : wC G .cnt D ρ S = (D.ct ρ S) := by simp only [wC]
theorem w_pass  : wC G .pass D ρ S = (D.nx ρ S) := by simp only [wC]
theorem w_rais {x : Str} : wC G (.rais x) D ρ S = (D.xc x ρ S) := by simp only [wC]
theorem e_v {i : Nat} : wE G X (.v i) ρ S Q = (∃ v, ρ[i]? = some (some v) ∧ Q v S) := by simp only [wE]
theorem e_int {i : Int} : wE G X (.int i) ρ S Q = (Q (.int i) S) := by simp only [wE]
theorem e_bl {b : Bool} : wE G X (.bl b) ρ S Q = (Q (.bl b) S) := by simp only [wE]
theorem e_non  : wE G X .non ρ S Q = (Q .non S) := by simp only [wE]
theorem e_str {x : Str} : wE G X (.str x) ρ S Q = (Q (.str x) S) := by simp only [wE]
theorem e_g {x : Str} : wE G X (.g x) ρ S Q = (∃ v, G.cst x = some v ∧ Q v S) := by simp only [wE]
theorem e_bin {op : Operator} {a : E} {b : E} : wE G X (.bin op a b) ρ S Q = (wE G X a ρ S fun v S1 => wE G X b ρ S1 fun w S2 => wBin op v w S2 Q) := by simp only [wE]
theorem e_neg {a : E} : wE G X (.neg a) ρ S Q = (wE G X a ρ S fun v S1 => ∃ i, v = .int i ∧ Q (.int (-i)) S1) := by simp only [wE]
theorem e_cmp {op : CmpOp} {a : E} {b : E} : wE G X (.cmp op a b) ρ S Q = (wE G X a ρ S fun v S1 => wE G X b ρ S1 fun w S2 => wCmp op v w S2 Q) := by simp only [wE]
theorem e_chain {op : CmpOp} {op' : CmpOp} {a : E} {b : E} {c : E} : wE G X (.chain op op' a b c) ρ S Q = (wE G X a ρ S fun v S1 => wE G X b ρ S1 fun w S2 => wCmp op v w S2 fun r S3 => ∃ k, r = .bl k ∧ if k = true then wE G X c ρ S3 fun u S4 => wCmp op' w u S4 Q else Q (.bl false) S3) := by simp only [wE]
theorem e_and {es : List E} : wE G X (.and es) ρ S Q = (wAndV G X es ρ S Q) := by simp only [wE]
theorem e_or {es : List E} : wE G X (.or es) ρ S Q = (wOrV G X es ρ S Q) := by simp only [wE]
theorem e_not {a : E} : wE G X (.not a) ρ S Q = (wE G X a ρ S fun v S1 => ∃ b, v = .bl b ∧ Q (.bl (!b)) S1) := by simp only [wE]
theorem e_ife {t : B} {a : E} {b : E} : wE G X (.ife t a b) ρ S Q = (wB G X t ρ S fun k S1 => if k = true then wE G X a ρ S1 Q else wE G X b ρ S1 Q) := by simp only [wE]
theorem e_tup {es : List E} : wE G X (.tup es) ρ S Q = (wEs G X es ρ S fun vs S1 => vs.length ≤ sizeLine ∧ Q (.tup vs) S1) := by simp only [wE]
theorem e_lst {es : List E} : wE G X (.lst es) ρ S Q = (wEs G X es ρ S fun vs S1 => vs.length ≤ sizeLine ∧ ∀ p, S1 p = none → Q (.ref p) (S1.upd p (.lst vs))) := by simp only [wE]
theorem e_ix {a : E} {i : E} : wE G X (.ix a i) ρ S Q = (wE G X a ρ S fun v S1 => wE G X i ρ S1 fun w S2 => vIx v w S2 Q) := by simp only [wE]
theorem e_sl {a : E} {lo : P} {hi : P} : wE G X (.sl a lo hi) ρ S Q = (wE G X a ρ S fun v S1 => wP G X lo ρ S1 fun l S2 => wP G X hi ρ S2 fun h S3 => vSl v l h S3 Q) := by simp only [wE]
theorem e_rev {a : E} : wE G X (.rev a) ρ S Q = (wE G X a ρ S fun v S1 => ∃ a xs, v = .ref a ∧ rdL S1 a xs ∧ ∀ p, S1 p = none → Q (.ref p) (S1.upd p (.lst xs.reverse))) := by simp only [wE]
theorem e_fld {a : E} {f : Str} : wE G X (.fld a f) ρ S Q = (wE G X a ρ S fun v S1 => vFld G.fo f v S1 Q) := by simp only [wE]
theorem e_call {f : Str} {es : List E} : wE G X (.call f es) ρ S Q = (∃ sp, G.fn f = some sp ∧ wEs G X es ρ S fun vs S1 => app sp vs S1 Q X) := by simp only [wE]
theorem e_new {C : Str} {es : List E} : wE G X (.new C es) ρ S Q = (∃ sp, G.new C = some sp ∧ wEs G X es ρ S fun vs S1 => ∀ p, S1 p = none → app sp (.ref p :: vs) (S1.upd p (.ins C [])) (fun r S2 => r = .non ∧ Q (.ref p) S2) X) := by simp only [wE]
theorem e_meth {o : E} {m : Str} {es : List E} : wE G X (.meth o m es) ρ S Q = (wE G X o ρ S fun v S1 => ∃ a C fs sp, v = .ref a ∧ S1 a = some (.ins C fs) ∧ fs.lookup m = none ∧ G.mt C m = some sp ∧ wEs G X es ρ S1 fun vs S2 => app sp (.ref a :: vs) S2 Q X) := by simp only [wE]
theorem e_blt {b : Blt} {es : List E} : wE G X (.blt b es) ρ S Q = (wEs G X es ρ S fun vs S1 => wBlt b vs S1 Q) := by simp only [wE]
theorem e_mth {m : Mth} {o : E} {es : List E} : wE G X (.mth m o es) ρ S Q = (wE G X o ρ S fun v S1 => tyM m v S1 ∧ wEs G X es ρ S1 fun vs S2 => wMth m v vs S2 Q) := by simp only [wE]
theorem e_dK0  : wE G X .dK0 ρ S Q = (∀ p, S p = none → Q (.ref p) (S.upd p (.dK []))) := by simp only [wE]
theorem e_repr {a : E} : wE G X (.repr a) ρ S Q = (G.rp = true ∧ wE G X a ρ S fun v S1 => vRepr v S1 Q) := by simp only [wE]
theorem e_dT1 {k v : E} : wE G X (.dT1 k v) ρ S Q = (∀ p, S p = none → wE G X k ρ (S.upd p (.dT [])) fun w S1 => wE G X v ρ S1 fun u S2 => ∃ ks, w = .ptup (ks.map kval) ∧ S2 p = some (.dT []) ∧ Q (.ref p) (S2.upd p (.dT [(ks, u)]))) := by simp only [wE]
theorem e_revT {a : E} : wE G X (.revT a) ρ S Q = (wE G X a ρ S fun v S1 => ∃ xs, v = .tup xs ∧ Q (.tup xs.reverse) S1) := by simp only [wE]
theorem e_dT0  : wE G X .dT0 ρ S Q = (∀ p, S p = none → Q (.ref p) (S.upd p (.dT []))) := by simp only [wE]
theorem e_ktup {es : List E} : wE G X (.ktup es) ρ S Q = (wEs G X es ρ S fun vs S1 => vs.length ≤ sizeLine ∧ Q (.ptup vs) S1) := by simp only [wE]
theorem e_lrng1 {a : E} : wE G X (.lrng1 a) ρ S Q = (wE G X a ρ S fun v S1 => ∃ n, v = .int n ∧ -(2 ^ 62) ≤ n ∧ n ≤ 2 ^ 24 ∧ ∀ p, S1 p = none → Q (.ref p) (S1.upd p (.lst (rngV 0 n.toNat)))) := by simp only [wE]
theorem e_lrng2 {a b : E} : wE G X (.lrng2 a b) ρ S Q = (wE G X a ρ S fun v S1 => wE G X b ρ S1 fun w S2 => ∃ i j, v = .int i ∧ w = .int j ∧ small62 i ∧ small62 j ∧ (j - i).toNat ≤ 2 ^ 24 ∧ ∀ p, S2 p = none → Q (.ref p) (S2.upd p (.lst (rngV i (j - i).toNat)))) := by simp only [wE]
theorem e_lrev {a : E} : wE G X (.lrev a) ρ S Q = (wE G X a ρ S fun v S1 => ∃ a xs, v = .ref a ∧ rdL S1 a xs ∧ ∀ p, S1 p = none → Q (.ref p) (S1.upd p (.lst xs.reverse))) := by simp only [wE]
theorem e_trev {a : E} : wE G X (.trev a) ρ S Q = (wE G X a ρ S fun v S1 => ∃ a xs, v = .ref a ∧ rdL S1 a xs ∧ Q (.tup xs.reverse) S1) := by simp only [wE]
theorem e_dix {d k : E} : wE G X (.dix d k) ρ S Q = (wE G X d ρ S fun v S1 => wE G X k ρ S1 fun w S2 => ∃ a x, v = .ref a ∧ DG S2 a w (some x) ∧ Q x S2) := by simp only [wE]
theorem e_dg1 {d k : E} : wE G X (.dg1 d k) ρ S Q = (wE G X d ρ S fun v S1 => ∃ a, v = .ref a ∧ isD S1 a ∧ wE G X k ρ S1 fun w S2 => ∃ o, DG S2 a w o ∧ Q (o.getD .non) S2) := by simp only [wE]
theorem e_dg2 {d k x : E} : wE G X (.dg2 d k x) ρ S Q = (wE G X d ρ S fun v S1 => ∃ a, v = .ref a ∧ isD S1 a ∧ wE G X k ρ S1 fun w S2 => wE G X x ρ S2 fun u S3 => ∃ o, DG S3 a w o ∧ Q (o.getD u) S3) := by simp only [wE]
theorem e_dsd {d k x : E} : wE G X (.dsd d k x) ρ S Q = (wE G X d ρ S fun v S1 => ∃ a, v = .ref a ∧ isD S1 a ∧ wE G X k ρ S1 fun w S2 => wE G X x ρ S2 fun u S3 => ∃ kvs key, S3 a = some (.dK kvs) ∧ w = kval key ∧ kvs.length < sizeLine ∧ (∀ y, vlK kvs key = some y → Q y S3) ∧ (vlK kvs key = none → Q u (S3.upd a (.dK (ptK kvs key u))))) := by simp only [wE]
theorem e_dpop {d k : E} : wE G X (.dpop d k) ρ S Q = (wE G X d ρ S fun v S1 => ∃ a, v = .ref a ∧ isD S1 a ∧ wE G X k ρ S1 fun w S2 => ∃ kvs key x, S2 a = some (.dK kvs) ∧ w = kval key ∧ vlK kvs key = some x ∧ Q x (S2.upd a (.dK (drK kvs key)))) := by simp only [wE]
theorem e_din {n : Bool} {k d : E} : wE G X (.din n k d) ρ S Q = (wE G X k ρ S fun w S1 => wE G X d ρ S1 fun v S2 => ∃ a o, v = .ref a ∧ DG S2 a w o ∧ Q (.bl (n ^^ o.isSome)) S2) := by simp only [wE]
theorem r_tgd {a i : E} {v : Val} {Q : Loc → Sto → Prop} : wTg G X (.dix a i) v ρ S Q = (wE G X a ρ S fun o S1 => wE G X i ρ S1 fun k S2 => ∃ p, o = .ref p ∧ DP S2 p k v fun S3 => Q ρ S3) := by simp only [wTg]
theorem r_tgp {ts : List T} {vs : List Val} {Q : Loc → Sto → Prop} : wTg G X (.tup ts) (.ptup vs) ρ S Q = (vs.length = ts.length ∧ wTgs G X ts vs ρ S Q) := by
  simp only [wTg, valD, exists_eq_left]
end
def vIsi (t : String) (v : Val) (S : Sto) (Q : Post) : Prop := ∃ n k, tyName v S = some n ∧ kitB n t = some k ∧ Q (.bl k) S
def vIsiT (ts : List String) (v : Val) (S : Sto) (Q : Post) : Prop := ∃ n, tyName v S = some n ∧ (ts.all fun t => (kitB n t).isSome) = true ∧ Q (.bl (ts.any fun t => kitB n t == some true)) S
section
variable {G : Gam} {X : XPost} {ρ : Loc} {S : Sto} {Q : Post} {a : E} {t : String} {ts : List String} {v : Val} {n : String} {k : Bool} {i : Int} {b : Bool} {x : Str} {xs : List Val}
theorem e_isi : wE G X (.isi a t) ρ S Q = wE G X a ρ S fun v S1 => vIsi t v S1 Q := by simp only [wE, vIsi]
theorem e_isiT : wE G X (.isiT a ts) ρ S Q = wE G X a ρ S fun v S1 => vIsiT ts v S1 Q := by simp only [wE, vIsiT]
theorem vIsi_row (h : tyName v S = some n) (h2 : kitB n t = some k) : vIsi t v S Q = Q (.bl k) S := by
  unfold vIsi
  refine propext ⟨fun ⟨n', k', e1, e2, q⟩ => ?_, fun q => ⟨n, k, h, h2, q⟩⟩
  rw [h] at e1; cases e1
  rw [h2] at e2; cases e2
  exact q
theorem vIsiT_row (h : tyName v S = some n) (h2 : (ts.all fun t => (kitB n t).isSome) = true) (h3 : (ts.any fun t => kitB n t == some true) = k) : vIsiT ts v S Q = Q (.bl k) S := by
  unfold vIsiT
  refine propext ⟨fun ⟨n', e1, e2, q⟩ => ?_, fun q => ⟨n, h, h2, by rw [h3]; exact q⟩⟩
  rw [h] at e1; cases e1
  rw [h3] at q
  exact q
theorem r_is_non_int : vIsi "int" .non S Q = Q (.bl false) S := vIsi_row rfl (by decide +kernel)
theorem r_is_non_bool : vIsi "bool" .non S Q = Q (.bl false) S := vIsi_row rfl (by decide +kernel)
theorem r_is_non_str : vIsi "str" .non S Q = Q (.bl false) S := vIsi_row rfl (by decide +kernel)
theorem r_is_non_tuple : vIsi "tuple" .non S Q = Q (.bl false) S := vIsi_row rfl (by decide +kernel)
theorem r_is_non_list : vIsi "list" .non S Q = Q (.bl false) S := vIsi_row rfl (by decide +kernel)
theorem r_is_non_dict : vIsi "dict" .non S Q = Q (.bl false) S := vIsi_row rfl (by decide +kernel)
theorem r_is_bl_int : vIsi "int" (.bl b) S Q = Q (.bl true) S := vIsi_row rfl (by decide +kernel)
theorem r_is_bl_bool : vIsi "bool" (.bl b) S Q = Q (.bl true) S := vIsi_row rfl (by decide +kernel)
theorem r_is_bl_str : vIsi "str" (.bl b) S Q = Q (.bl false) S := vIsi_row rfl (by decide +kernel)
theorem r_is_bl_tuple : vIsi "tuple" (.bl b) S Q = Q (.bl false) S := vIsi_row rfl (by decide +kernel)
theorem r_is_bl_list : vIsi "list" (.bl b) S Q = Q (.bl false) S := vIsi_row rfl (by decide +kernel)
theorem r_is_bl_dict : vIsi "dict" (.bl b) S Q = Q (.bl false) S := vIsi_row rfl (by decide +kernel)
theorem r_is_int_int : vIsi "int" (.int i) S Q = Q (.bl true) S := vIsi_row rfl (by decide +kernel)
theorem r_is_int_bool : vIsi "bool" (.int i) S Q = Q (.bl false) S := vIsi_row rfl (by decide +kernel)
theorem r_is_int_str : vIsi "str" (.int i) S Q = Q (.bl false) S := vIsi_row rfl (by decide +kernel)
theorem r_is_int_tuple : vIsi "tuple" (.int i) S Q = Q (.bl false) S := vIsi_row rfl (by decide +kernel)
theorem r_is_int_list : vIsi "list" (.int i) S Q = Q (.bl false) S := vIsi_row rfl (by decide +kernel)
theorem r_is_int_dict : vIsi "dict" (.int i) S Q = Q (.bl false) S := vIsi_row rfl (by decide +kernel)
theorem r_is_str_int : vIsi "int" (.str x) S Q = Q (.bl false) S := vIsi_row rfl (by decide +kernel)
theorem r_is_str_bool : vIsi "bool" (.str x) S Q = Q (.bl false) S := vIsi_row rfl (by decide +kernel)
theorem r_is_str_str : vIsi "str" (.str x) S Q = Q (.bl true) S := vIsi_row rfl (by decide +kernel)
theorem r_is_str_tuple : vIsi "tuple" (.str x) S Q = Q (.bl false) S := vIsi_row rfl (by decide +kernel)
theorem r_is_str_list : vIsi "list" (.str x) S Q = Q (.bl false) S := vIsi_row rfl (by decide +kernel)
theorem r_is_str_dict : vIsi "dict" (.str x) S Q = Q (.bl false) S := vIsi_row rfl (by decide +kernel)
section
variable {S : Sto} {Q : Post} {xs : List Val}
theorem r_is_ptup_int : vIsi "int" (.ptup xs) S Q = Q (.bl false) S := vIsi_row rfl (by decide +kernel)
theorem r_is_ptup_bool : vIsi "bool" (.ptup xs) S Q = Q (.bl false) S := vIsi_row rfl (by decide +kernel)
theorem r_is_ptup_str : vIsi "str" (.ptup xs) S Q = Q (.bl false) S := vIsi_row rfl (by decide +kernel)
theorem r_is_ptup_tuple : vIsi "tuple" (.ptup xs) S Q = Q (.bl true) S := vIsi_row rfl (by decide +kernel)
theorem r_is_ptup_list : vIsi "list" (.ptup xs) S Q = Q (.bl false) S := vIsi_row rfl (by decide +kernel)
theorem r_is_ptup_dict : vIsi "dict" (.ptup xs) S Q = Q (.bl false) S := vIsi_row rfl (by decide +kernel)
end
theorem r_is_tup_int : vIsi "int" (.tup xs) S Q = Q (.bl false) S := vIsi_row rfl (by decide +kernel)
theorem r_is_tup_bool : vIsi "bool" (.tup xs) S Q = Q (.bl false) S := vIsi_row rfl (by decide +kernel)
theorem r_is_tup_str : vIsi "str" (.tup xs) S Q = Q (.bl false) S := vIsi_row rfl (by decide +kernel)
theorem r_is_tup_tuple : vIsi "tuple" (.tup xs) S Q = Q (.bl true) S := vIsi_row rfl (by decide +kernel)
theorem r_is_tup_list : vIsi "list" (.tup xs) S Q = Q (.bl false) S := vIsi_row rfl (by decide +kernel)
theorem r_is_tup_dict : vIsi "dict" (.tup xs) S Q = Q (.bl false) S := vIsi_row rfl (by decide +kernel)
end
theorem r_nd {p : Prop} [Decidable p] : ((!decide p) = true) = ¬ p := by simp
theorem r_sl0 : (0 ≤ sizeLine) = True := eq_true (by decide)
theorem r_sl1 : (1 ≤ sizeLine) = True := eq_true (by decide)
theorem r_sl2 : (2 ≤ sizeLine) = True := eq_true (by decide)
theorem r_sl3 : (3 ≤ sizeLine) = True := eq_true (by decide)
theorem r_sl4 : (4 ≤ sizeLine) = True := eq_true (by decide)
theorem r_sl5 : (5 ≤ sizeLine) = True := eq_true (by decide)
theorem r_sl6 : (6 ≤ sizeLine) = True := eq_true (by decide)
theorem r_sl7 : (7 ≤ sizeLine) = True := eq_true (by decide)
theorem r_sl8 : (8 ≤ sizeLine) = True := eq_true (by decide)
theorem r_sl9 : (9 ≤ sizeLine) = True := eq_true (by decide)
theorem r_sl10 : (10 ≤ sizeLine) = True := eq_true (by decide)
theorem r_sl11 : (11 ≤ sizeLine) = True := eq_true (by decide)
theorem r_sl12 : (12 ≤ sizeLine) = True := eq_true (by decide)
theorem r_sl13 : (13 ≤ sizeLine) = True := eq_true (by decide)
theorem r_sl14 : (14 ≤ sizeLine) = True := eq_true (by decide)
theorem r_sl15 : (15 ≤ sizeLine) = True := eq_true (by decide)
theorem r_sl16 : (16 ≤ sizeLine) = True := eq_true (by decide)
theorem r_sl17 : (17 ≤ sizeLine) = True := eq_true (by decide)
theorem r_sl18 : (18 ≤ sizeLine) = True := eq_true (by decide)
theorem r_sl19 : (19 ≤ sizeLine) = True := eq_true (by decide)
theorem r_sl20 : (20 ≤ sizeLine) = True := eq_true (by decide)
theorem r_sl21 : (21 ≤ sizeLine) = True := eq_true (by decide)
theorem r_sl22 : (22 ≤ sizeLine) = True := eq_true (by decide)
theorem r_sl23 : (23 ≤ sizeLine) = True := eq_true (by decide)
theorem r_sl24 : (24 ≤ sizeLine) = True := eq_true (by decide)
theorem Sto.le.own {S T : Sto} {p : Addr} {o : MO} (h : S.le T) (n : S p = none) : S.le (T.upd p o) := fun a u q => by
  rw [Sto.upd_ne (fun e => by subst e; rw [n] at q; cases q)]; exact h _ _ q
theorem rngV_get {lo : Int} {n j : Nat} (h : j < n) : (rngV lo n)[j]? = some (.int (lo + j)) := by
  unfold rngV
  rw [List.getElem?_map, List.getElem?_range h]; rfl
theorem drop_cons {α : Type} {xs r : List α} {x : α} {j : Nat} (h : x :: r = xs.drop j) : xs[j]? = some x ∧ r = xs.drop (j + 1) ∧ j < xs.length := by
  have hj : j < xs.length := by
    apply Nat.lt_of_not_le
    intro z
    rw [List.drop_eq_nil_of_le z] at h; cases h
  rw [List.drop_eq_getElem_cons hj] at h
  injection h with h1 h2
  exact ⟨by rw [List.getElem?_eq_getElem hj, h1], h2, hj⟩
section
variable {G : Gam} {t : T} {p : List C} {D : En} {ρ : Loc} {S S1 S2 : Sto} {a b : E}
/-- one turn, by its place -/
def TurnIx (G : Gam) (t : T) (p : List C) (D : En) (n : Nat) (at_ : Nat → Val) (J : Nat → Loc → Sto → Prop) : Prop := ∀ j ρ S, j < n → J j ρ S → ∀ D' : En, (∀ ρ S, J (j + 1) ρ S → D'.nx ρ S) → (∀ ρ S, J (j + 1) ρ S → D'.ct ρ S) → D'.rt = D.rt → D'.bk = D.nx → D'.xc = D.xc → wTg G noX t (at_ j) ρ S fun ρ2 S3 => wCs G p D' ρ2 S3
theorem TurnIx.turn {xs : List Val} {at_ : Nat → Val} {J : Nat → Loc → Sto → Prop} (hx : ∀ j, j < xs.length → xs[j]? = some (at_ j)) (h : TurnIx G t p D xs.length at_ J) : Turn G t p D (fun r ρ S => ∃ j, r = xs.drop j ∧ J j ρ S) := by
  rintro x r ρ S ⟨j, e, hj⟩ D' hn hc hr hb hx'
  obtain ⟨e1, e2, e3⟩ := drop_cons e
  rw [hx j e3] at e1; cases e1
  exact h j ρ S e3 hj D' (fun ρ S q => hn ρ S ⟨_, e2, q⟩) (fun ρ S q => hc ρ S ⟨_, e2, q⟩) hr hb hx'
theorem ix_end {xs : List Val} {J : Nat → Loc → Sto → Prop} (hJ : ∀ j ρ S, J j ρ S → j ≤ xs.length) (hend : ∀ ρ S, J xs.length ρ S → D.nx ρ S) : ∀ ρ S, (∃ j, ([] : List Val) = xs.drop j ∧ J j ρ S) → D.nx ρ S := by
  rintro ρ S ⟨j, e, h⟩
  have h1 := hJ j ρ S h
  have h2 : xs.length ≤ j := by
    have := congrArg List.length e
    simp at this; omega
  have : j = xs.length := by omega
  subst this
  exact hend ρ S h
theorem ixr {n : Nat} {lo : Int} : ∀ j, j < (rngV lo n).length → (rngV lo n)[j]? = some ((fun (j : Nat) => Val.int (lo + j)) j) := fun j h => rngV_get (by rw [rngV_len] at h; exact h)
theorem loop_rng1_ix {n : Nat} (J : Nat → Loc → Sto → Prop) (ha : ∀ Q : Post, Q (.int n) S1 → wE G (fun c S => D.xc c ρ S) a ρ S Q) (hn : n ≤ 2 ^ 60) (h0 : J 0 ρ S1) (hend : ∀ ρ S, J n ρ S → D.nx ρ S) (hst : TurnIx G t p D n (fun j => .int j) J) : wC G (.loop t (.rng1 a) p) D ρ S := by
  have hl : (rngV 0 n).length = n := rngV_len
  refine loop_rng1 (j := n) (fun r ρ S => ∃ j, r = (rngV 0 n).drop j ∧ j ≤ n ∧ J j ρ S) ha (by unfold small62; omega) ⟨0, by simp, by omega, h0⟩ (ix_end (J := fun j ρ S => j ≤ n ∧ J j ρ S) (fun j ρ S h => by rw [hl]; exact h.1) fun ρ S h => hend ρ S (by rw [hl] at h; exact h.2)) ?_
  refine TurnIx.turn (at_ := fun j => .int j) (J := fun j ρ S => j ≤ n ∧ J j ρ S) (fun j h => by rw [ixr j h]; simp) ?_
  rw [hl]
  exact fun j ρ S hj h D' h1 h2 => hst j ρ S hj h.2 D' (fun ρ S q => h1 ρ S ⟨hj, q⟩) fun ρ S q => h2 ρ S ⟨hj, q⟩
theorem loop_rng2_ix {lo hi : Int} (J : Nat → Loc → Sto → Prop) (ha : ∀ Q : Post, Q (.int lo) S1 → wE G (fun c S => D.xc c ρ S) a ρ S Q) (hb : ∀ Q : Post, Q (.int hi) S2 → wE G (fun c S => D.xc c ρ S) b ρ S1 Q) (hlo : small62 lo) (hhi : small62 hi) (h0 : J 0 ρ S2) (hend : ∀ ρ S, J (hi - lo).toNat ρ S → D.nx ρ S) (hst : TurnIx G t p D (hi - lo).toNat (fun j => .int (lo + j)) J) : wC G (.loop t (.rng2 a b) p) D ρ S := by
  generalize hn : (hi - lo).toNat = n at *
  have hl : (rngV lo n).length = n := rngV_len
  refine loop_rng2 (i := lo) (j := hi) (S1 := S1) (S2 := S2) (fun r ρ S => ∃ j, r = (rngV lo n).drop j ∧ j ≤ n ∧ J j ρ S) ha hb hlo hhi ⟨0, by rw [hn]; simp, by omega, h0⟩ (ix_end (J := fun j ρ S => j ≤ n ∧ J j ρ S) (fun j ρ S h => by rw [hl]; exact h.1) fun ρ S h => hend ρ S (by rw [hl] at h; exact h.2)) ?_
  refine TurnIx.turn (at_ := fun (j : Nat) => .int (lo + j)) (J := fun j ρ S => j ≤ n ∧ J j ρ S) (fun j h => by rw [ixr j h]) ?_
  rw [hl]
  exact fun j ρ S hj h D' h1 h2 => hst j ρ S hj h.2 D' (fun ρ S q => h1 ρ S ⟨hj, q⟩) fun ρ S q => h2 ρ S ⟨hj, q⟩
theorem loop_list_ix {α : Type} {xs : List α} {f : α → Val} {q : Addr} (J : Nat → Loc → Sto → Prop) (ha : ∀ Q : Post, Q (.ref q) S1 → wE G (fun c S => D.xc c ρ S) a ρ S Q) (hr : rdL S1 q (xs.map f)) (hk : ∀ j ρ S, J j ρ S → rdL S q (xs.map f)) (h0 : J 0 ρ S1) (hend : ∀ ρ S, J xs.length ρ S → D.nx ρ S)
    (hst : ∀ (j : Nat) (x : α), xs[j]? = some x → ∀ ρ S, J j ρ S → ∀ D' : En, (∀ ρ S, J (j + 1) ρ S → D'.nx ρ S) → (∀ ρ S, J (j + 1) ρ S → D'.ct ρ S) → D'.rt = D.rt → D'.bk = D.nx → D'.xc = D.xc → wTg G noX t (f x) ρ S fun ρ2 S3 => wCs G p D' ρ2 S3) : wC G (.loop t (.val a) p) D ρ S := by
  refine loop_list (S1 := S1) (q := q) (fun r ρ S => ∃ j, r = (xs.map f).drop j ∧ j ≤ xs.length ∧ J j ρ S) ha hr (fun r ρ S ⟨j, _, _, h⟩ => hk j ρ S h) ⟨0, by simp, by omega, h0⟩ (ix_end (J := fun j ρ S => j ≤ xs.length ∧ J j ρ S) (fun j ρ S h => by simpa using h.1) fun ρ S h => hend ρ S (by simpa using h.2)) ?_
  rintro x r ρ S ⟨j, e, hj, hJ⟩ D' h1 h2
  obtain ⟨e1, e2, e3⟩ := drop_cons e
  rw [List.getElem?_map] at e1
  cases q : xs[j]? with
  | none => rw [q] at e1; cases e1
  | some y =>
    rw [q] at e1; cases e1
    have hl : j < xs.length := by simpa using e3
    exact hst j y q ρ S hJ D' (fun ρ S q => h1 ρ S ⟨_, e2, hl, q⟩) fun ρ S q => h2 ρ S ⟨_, e2, hl, q⟩
variable {own : List (Str × Nat)} {ifs : List B} {e : E} {Q : Post} {X : XPost}
/-- a comprehension's turn, by its place -/
def CTurnAt (G : Gam) (own : List Nat) (t : T) (ifs : List B) (e : E) (ρ : Loc) (x : Val) (j : Nat) (acc : List Val) (S : Sto) (J : Nat → List Val → Sto → Prop) : Prop := ∀ R : Option Val → Sto → Prop, (∀ S, J (j + 1) acc S → R none S) → (∀ v S, J (j + 1) (acc ++ [v]) S → R (some v) S) →
  wTg G noX t x (wipeL ρ own) S fun ρ' S3 => wBs G noX ifs ρ' S3 fun k S4 => if k = true then wE G noX e ρ' S4 fun v S5 => R (some v) S5 else R none S4
theorem lc_rng1_ix {n : Nat} (J : Nat → List Val → Sto → Prop) (ha : ∀ Q : Post, Q (.int n) S1 → wE G X a ρ S Q) (hn : n ≤ 2 ^ 20) (hJ : ∀ j acc S, J j acc S → acc.length ≤ j) (h0 : J 0 [] S1) (hend : ∀ acc S, J n acc S → ∀ p, S p = none → Q (.ref p) (S.upd p (.lst acc)))
    (hst : ∀ j acc S, j < n → J j acc S → CTurnAt G (own.map (·.2)) t ifs e ρ (.int j) j acc S J) : wE G X (.lc own t (.rng1 a) ifs e) ρ S Q := by
  have hl : (rngV 0 n).length = n := rngV_len
  have big : ∀ j acc S, j ≤ n → J j acc S → acc.length < sizeLine := fun j acc S h h' => by
    have := hJ j acc S h'
    exact Nat.lt_of_le_of_lt (show acc.length ≤ 2 ^ 20 by omega) (by decide)
  refine lc_rng1 (S1 := S1) (j := n) (fun r acc S => ∃ j, r = (rngV 0 n).drop j ∧ j ≤ n ∧ J j acc S) ha (by unfold small62; omega) ⟨0, by simp, by omega, h0⟩ (fun r acc S ⟨j, _, h, h'⟩ => big j acc S h h') ?_ ?_
  · rintro acc S ⟨j, e, hj, h⟩
    have : j = n := by
      have := congrArg List.length e
      simp [hl] at this; omega
    subst this
    exact hend acc S h
  · rintro x r acc S ⟨j, e, hj, h⟩ R r0 r1
    obtain ⟨e1, e2, e3⟩ := drop_cons e
    rw [ixr j e3] at e1; cases e1
    have hjn : j < n := by rw [hl] at e3; exact e3
    have := hst j acc S hjn h R (fun S q => r0 S ⟨_, e2, hjn, q⟩) fun v T q => r1 v T ⟨_, e2, hjn, q⟩ (big j acc S hj h)
    have z : (0 : Int) + (j : Int) = j := by omega
    dsimp only
    rw [z]
    exact this
theorem lc_tup_ix {α : Type} {xs : List α} {f : α → Val} (J : Nat → List Val → Sto → Prop) (ha : ∀ Q : Post, Q (.tup (xs.map f)) S1 → wE G X a ρ S Q) (hn : xs.length ≤ 2 ^ 20) (hJ : ∀ j acc S, J j acc S → acc.length ≤ j) (h0 : J 0 [] S1) (hend : ∀ acc S, J xs.length acc S → ∀ p, S p = none → Q (.ref p) (S.upd p (.lst acc)))
    (hst : ∀ (j : Nat) (x : α) acc S, xs[j]? = some x → J j acc S → CTurnAt G (own.map (·.2)) t ifs e ρ (f x) j acc S J) : wE G X (.lc own t (.val a) ifs e) ρ S Q := by
  have big : ∀ j acc S, j ≤ xs.length → J j acc S → acc.length < sizeLine := fun j acc S h h' => by
    have := hJ j acc S h'
    exact Nat.lt_of_le_of_lt (show acc.length ≤ 2 ^ 20 by omega) (by decide)
  refine lc_tup (S1 := S1) (fun r acc S => ∃ j, r = (xs.map f).drop j ∧ j ≤ xs.length ∧ J j acc S) ha ⟨0, by simp, by omega, h0⟩ (fun r acc S ⟨j, _, h, h'⟩ => big j acc S h h') ?_ ?_
  · rintro acc S ⟨j, e, hj, h⟩
    have : j = xs.length := by
      have := congrArg List.length e
      simp at this; omega
    subst this
    exact hend acc S h
  · rintro x r acc S ⟨j, e, hj, h⟩ R r0 r1
    obtain ⟨e1, e2, e3⟩ := drop_cons e
    rw [List.getElem?_map] at e1
    cases q : xs[j]? with
    | none => rw [q] at e1; cases e1
    | some y =>
      rw [q] at e1; cases e1
      have hjn : j < xs.length := by simpa using e3
      exact hst j y acc S q h R (fun S q => r0 S ⟨_, e2, hjn, q⟩) fun v T q => r1 v T ⟨_, e2, hjn, q⟩ (big j acc S hj h)
theorem lc_list_ix {α : Type} {xs : List α} {f : α → Val} {q : Addr} (J : Nat → List Val → Sto → Prop) (ha : ∀ Q : Post, Q (.ref q) S1 → wE G X a ρ S Q) (hr : rdL S1 q (xs.map f)) (hk : ∀ j acc S, J j acc S → rdL S q (xs.map f)) (hn : xs.length ≤ 2 ^ 20) (hJ : ∀ j acc S, J j acc S → acc.length ≤ j) (h0 : J 0 [] S1) (hend : ∀ acc S, J xs.length acc S → ∀ p, S p = none → Q (.ref p) (S.upd p (.lst acc)))
    (hst : ∀ (j : Nat) (x : α) acc S, xs[j]? = some x → J j acc S → CTurnAt G (own.map (·.2)) t ifs e ρ (f x) j acc S J) : wE G X (.lc own t (.val a) ifs e) ρ S Q := by
  have big : ∀ j acc S, j ≤ xs.length → J j acc S → acc.length < sizeLine := fun j acc S h h' => by
    have := hJ j acc S h'
    exact Nat.lt_of_le_of_lt (show acc.length ≤ 2 ^ 20 by omega) (by decide)
  refine lc_list (S1 := S1) (q := q) (fun r acc S => ∃ j, r = (xs.map f).drop j ∧ j ≤ xs.length ∧ J j acc S) ha hr (fun r acc S ⟨j, _, _, h⟩ => hk j acc S h) ⟨0, by simp, by omega, h0⟩ (fun r acc S ⟨j, _, h, h'⟩ => big j acc S h h') ?_ ?_
  · rintro acc S ⟨j, e, hj, h⟩
    have : j = xs.length := by
      have := congrArg List.length e
      simp at this; omega
    subst this
    exact hend acc S h
  · rintro x r acc S ⟨j, e, hj, h⟩ R r0 r1
    obtain ⟨e1, e2, e3⟩ := drop_cons e
    rw [List.getElem?_map] at e1
    cases q : xs[j]? with
    | none => rw [q] at e1; cases e1
    | some y =>
      rw [q] at e1; cases e1
      have hjn : j < xs.length := by simpa using e3
      exact hst j y acc S q h R (fun S q => r0 S ⟨_, e2, hjn, q⟩) fun v T q => r1 v T ⟨_, e2, hjn, q⟩ (big j acc S hj h)
end
/-- a for over what an expression makes -/
theorem loop_made {G : Gam} {t : T} {p : List C} {D : En} {ρ : Loc} {S : Sto} {a : E} (R : Val → Sto → Prop) (ha : wE G (fun c S => D.xc c ρ S) a ρ S R)
    (h : ∀ v S1, R v S1 → ∃ q xs, v = .ref q ∧ rdL S1 q xs ∧ forW (fun S' => rdL S' q xs) (fun x ρ1 S2 D' => wTg G noX t x ρ1 S2 fun ρ2 S3 => wCs G p D' ρ2 S3) D xs ρ S1) : wC G (.loop t (.val a) p) D ρ S := by
  simp only [wC, wI]
  refine wE_mono G _ a (fun v S1 r => ?_) ha
  obtain ⟨q, xs, rfl, h1, h2⟩ := h v S1 r
  exact ⟨xs, h1, h2⟩
theorem rd_le {S T : Sto} {a : Addr} {xs : List Val} (h : rdL S a xs) (l : S.le T) : rdL T a xs := by
  rcases h.cases with e | e
  · exact .lst (l _ _ e)
  · exact .ro (l _ _ e)
end M

set_option maxHeartbeats 1000000
namespace M
open PySem PySem.Spec L2
local macro_rules | `(tactic| simp_wf) => `(tactic| simp only [wCs, w_asg, w_par, w_aug, w_ex, w_ret, w_retN, w_ite, w_brk, w_cnt, w_pass, w_rais, e_v, e_int, e_bl, e_non, e_str, e_g, e_bin, e_neg, e_cmp, e_chain, e_and, e_or, e_not, e_ife, e_tup, e_lst, e_ix, e_sl, e_rev, e_fld, e_call, e_new, e_meth, e_blt, e_mth, e_isi, e_isiT, e_dK0, e_dT0, e_repr, e_ktup, e_lrng1, e_lrng2, e_lrev, e_trev, e_dix, e_dg1, e_dg2, e_dsd, e_dpop, e_din, wEs, wAndV, wOrV, wB, wAnd, wOr, wBs, wP, r_nm, r_tgt, r_tgr, r_tgp, r_tgd, r_tgi, r_tgs, r_tgs0, wBin, wCmp,
  r_add_ii, r_add_ib, r_add_ss, r_add_tt, r_add_rr, r_sub_ii, r_mul_ii, r_mul_ri, r_mul_ti, r_div_ii, r_mod_ii, r_pow_ii, r_shl_ii, r_shr_ii, r_and_ii, r_xor_ii, r_int, r_is_n, r_is_b, r_tru_b, r_tru_i, r_tru_n, r_tru_t, r_tru_r, r_ix_t, r_ix_r, r_sl_t, r_sl_r, r_len_t, r_len_s, r_abs, r_min2, r_max2, r_int1, r_int1b, r_str1, r_list1, r_tuple1, r_tuple1t, r_tuple1p, r_len_p, r_sorted1t, r_ix_p, r_valD_p, r_ty_p, r_tindex, r_tyM_tindex, r_reverse, r_tyM_reverse, r_remove, r_tyM_remove, r_append, r_pop0, r_pop1, r_insert, r_extend, r_count, r_index, r_sum1, r_sorted1, r_tyM_pop1, r_tyM_insert, r_tyM_extend, r_tyM_count, r_tyM_index, r_fld, r_tgf, r_tyM_append, r_tyM_pop0, r_valD_t, r_valD_r, r_ty_n, r_ty_b, r_ty_i, r_ty_s, r_ty_t, r_is_non_int, r_is_non_bool, r_is_non_str, r_is_non_tuple, r_is_non_list, r_is_non_dict, r_is_bl_int, r_is_bl_bool, r_is_bl_str, r_is_bl_tuple, r_is_bl_list, r_is_bl_dict, r_is_int_int, r_is_int_bool, r_is_int_str, r_is_int_tuple, r_is_int_list, r_is_int_dict, r_is_str_int, r_is_str_bool, r_is_str_str, r_is_str_tuple, r_is_str_list, r_is_str_dict, r_is_ptup_int, r_is_ptup_bool, r_is_ptup_str, r_is_ptup_tuple, r_is_ptup_list, r_is_ptup_dict, r_is_tup_int, r_is_tup_bool, r_is_tup_str, r_is_tup_tuple, r_is_tup_list, r_is_tup_dict, isNon, r_at0, r_at1, r_at2, r_at3, r_at4, r_at5,
  List.getElem?_cons_zero, List.getElem?_cons_succ, List.set_cons_zero, List.set_cons_succ, setAll, Option.some.injEq, Val.int.injEq, Val.bl.injEq, Val.tup.injEq, Val.ref.injEq, exists_eq_left', exists_eq_left, exists_eq_right, Bool.false_eq_true, if_true, if_false, List.isEmpty_nil, List.isEmpty_cons, true_and, and_true, ↓reduceIte, List.length_cons, List.length_nil, startL, List.map_cons, List.map_nil, Bool.not_true, Bool.not_false, Nat.reduceAdd, Nat.reduceSub, List.replicate, List.cons_append, List.nil_append, reduceCtorEq, false_and, exists_false, List.cons.injEq, Bool.false_xor, Bool.true_xor, wipeL, Int.reduceNeg, Int.cast_ofNat_Int, decide_true, decide_false, Int.reduceEq, decide_eq_true_eq, r_nd, r_sl0, r_sl1, r_sl2, r_sl3, r_sl4, r_sl5, r_sl6, r_sl7, r_sl8, r_sl9, r_sl10, r_sl11, r_sl12, r_sl13, r_sl14, r_sl15, r_sl16, r_sl17, r_sl18, r_sl19, r_sl20, r_sl21, r_sl22, r_sl23, r_sl24, decide_eq_false_iff_not, not_true_eq_false, not_false_eq_true, Int.not_lt, Int.not_le])
mutual
def datB : Nat → Val → Bool
  | _, .non => true
  | _, .bl _ => true
  | _, .int _ => true
  | _, .str x => PyData.strOk x
  | 0, .tup _ => false
  | n + 1, .tup xs => datBs n xs
  | 0, .ptup _ => false
  | n + 1, .ptup xs => datBs n xs
  | _, .ref _ => false
def datBs : Nat → List Val → Bool
  | _, [] => true
  | n, v :: vs => datB n v && datBs n vs
end
mutual
theorem datB_ok : ∀ (n : Nat) (v : Val), datB n v = true → isPure v = true ∧ (toD v).canLay0 = true ∧ (toD v).depth ≤ n
  | _, .non, _ => by simp [isPure, toD, PyData.canLay0, PyData.depth]
  | _, .bl _, _ => by simp [isPure, toD, PyData.canLay0, PyData.depth]
  | _, .int _, _ => by simp [isPure, toD, PyData.canLay0, PyData.depth]
  | _, .str x, h => by simp only [datB] at h; simp [isPure, toD, PyData.canLay0, PyData.depth, h]
  | 0, .tup _, h => by simp [datB] at h
  | n + 1, .tup xs, h => by
    simp only [datB] at h
    obtain ⟨a, b, c⟩ := datBs_ok n xs h
    simp only [isPure, toD, PyData.canLay0, PyData.depth]
    exact ⟨a, b, by omega⟩
  | 0, .ptup _, h => by simp [datB] at h
  | n + 1, .ptup xs, h => by
    simp only [datB] at h
    obtain ⟨a, b, c⟩ := datBs_ok n xs h
    simp only [isPure, toD, PyData.canLay0, PyData.depth]
    exact ⟨a, b, by omega⟩
  | n, .ref _, h => by simp [datB] at h
theorem datBs_ok : ∀ (n : Nat) (vs : List Val), datBs n vs = true → arePure vs = true ∧ PyData.canLayAll0 (toDs vs) = true ∧ PyData.depthAll (toDs vs) ≤ n
  | _, [], _ => by simp [arePure, toDs, PyData.canLayAll0, PyData.depthAll]
  | n, v :: vs, h => by
    simp only [datBs, Bool.and_eq_true] at h
    obtain ⟨a, b, c⟩ := datB_ok n v h.1
    obtain ⟨a', b', c'⟩ := datBs_ok n vs h.2
    simp only [arePure, toDs, PyData.canLayAll0, PyData.depthAll, Bool.and_eq_true]
    exact ⟨⟨a, a'⟩, ⟨b, b'⟩, by omega⟩
end
theorem okD_of {n : Nat} {v : Val} (h : datB n v = true) (hn : n ≤ 64) : okD v = true := by
  obtain ⟨a, b, c⟩ := datB_ok n v h
  unfold okD SeqAt.shaped
  simp only [a, b, Bool.true_and, decide_eq_true_eq]
  omega
mutual
/-- without truths -/
def noB : Val → Bool
  | .bl _ => false
  | .tup xs => noBs xs
  | .ref _ => false
  | .ptup _ => false
  | _ => true
def noBs : List Val → Bool
  | [] => true
  | v :: vs => noB v && noBs vs
end
mutual
theorem eqv_iff : ∀ (v w : Val), noB v = true → noB w = true → (PyData.eqv (toD v) (toD w) = true ↔ v = w)
  | .non, w, _, hw => by cases w <;> simp [toD, PyData.eqv, noB] at hw ⊢
  | .bl _, _, h, _ => by simp [noB] at h
  | .ref _, _, h, _ => by simp [noB] at h
  | .ptup _, _, h, _ => by simp [noB] at h
  | .int i, w, _, hw => by cases w <;> simp [toD, PyData.eqv, noB] at hw ⊢
  | .str i, w, _, hw => by cases w <;> simp [toD, PyData.eqv, noB] at hw ⊢
  | .tup xs, w, h, hw => by
    cases w
    case tup ys =>
      simp only [noB] at h hw
      simp only [toD, PyData.eqv, Val.tup.injEq]
      exact eqvs_iff xs ys h hw
    all_goals simp [toD, PyData.eqv, noB] at hw ⊢
theorem eqvs_iff : ∀ (vs ws : List Val), noBs vs = true → noBs ws = true → (PyData.eqvAll (toDs vs) (toDs ws) = true ↔ vs = ws)
  | [], ws, _, _ => by cases ws <;> simp [toDs, PyData.eqvAll]
  | v :: vs, [], _, _ => by simp [toDs, PyData.eqvAll]
  | v :: vs, w :: ws, h, hw => by
    simp only [noBs, Bool.and_eq_true] at h hw
    simp only [toDs, PyData.eqvAll, Bool.and_eq_true, List.cons.injEq, eqv_iff v w h.1 hw.1, eqvs_iff vs ws h.2 hw.2]
end
section
variable {S : Sto} {Q : Post} {i j : Int} {a b n : Bool} {x y : Str}
theorem cEq_dat {k l : Nat} {v w : Val} (hv : datB k v = true) (hw : datB l w = true) (hk : k ≤ 64) (hl : l ≤ 64) : cEq n v w S Q = Q (.bl (n ^^ PyData.eqv (toD v) (toD w))) S := by
  unfold cEq
  rw [if_pos (by rw [okD_of hv hk, okD_of hw hl]; rfl)]
theorem r_eq_ii : cEq n (.int i) (.int j) S Q = Q (.bl (n ^^ decide (i = j))) S := by
  rw [cEq_dat (k := 0) (l := 0) (by simp only [datB]) (by simp only [datB]) (by decide) (by decide)]
  simp only [toD, PyData.eqv]
  rfl
theorem r_eq_bb : cEq n (.bl a) (.bl b) S Q = Q (.bl (n ^^ decide (a = b))) S := by
  rw [cEq_dat (k := 0) (l := 0) (by simp only [datB]) (by simp only [datB]) (by decide) (by decide)]
  simp only [toD, PyData.eqv]
  cases a <;> cases b <;> rfl
end
theorem eqv_str {x y : Str} : PyData.eqv (.str x) (.str y) = decide (x = y) := by
  simp only [PyData.eqv]; rfl
theorem cEq_str {S : Sto} {Q : Post} {n : Bool} {x y : Str} (h : Q (.bl (n ^^ decide (x = y))) S) : cEq n (.str x) (.str y) S Q := by
  unfold cEq
  split
  · simp only [toD, eqv_str]; exact h
  · exact .inl ⟨x, y, rfl, rfl, h⟩
/-- a list of ints beside the empty list -/
theorem Dv_ints {S : Sto} : ∀ (ns : List Int), DvAll S (ns.map Val.int) (ns.map PyData.int)
  | [] => .nil
  | n :: ns => .cons (.int n) (Dv_ints ns)
theorem lay_ints : ∀ (ns : List Int), PyData.canLayAll0 (ns.map PyData.int) = true ∧ PyData.depthAll (ns.map PyData.int) = 0
  | [] => by simp [PyData.canLayAll0, PyData.depthAll]
  | n :: ns => by simp [PyData.canLayAll0, PyData.canLay0, PyData.depthAll, PyData.depth, lay_ints ns]
theorem shaped_ints (ns : List Int) : SeqAt.shaped (.list (ns.map PyData.int)) = true := by
  unfold SeqAt.shaped
  simp only [PyData.canLay0, PyData.depth, lay_ints ns]; rfl
theorem cEq_nil {S : Sto} {Q : Post} {n : Bool} {p q : Addr} {ns : List Int} (h : rdL S p (ns.map Val.int)) (h' : rdL S q []) (hq : Q (.bl (n ^^ ns.isEmpty)) S) : cEq n (.ref p) (.ref q) S Q := by
  unfold cEq
  rw [if_neg (by simp [okD, isPure])]
  refine .inr ⟨_, _, .lst h (Dv_ints ns), .lst h' .nil, shaped_ints ns, shaped_ints [], ?_⟩
  cases ns with
  | nil => exact hq
  | cons m ns => exact hq
end M

set_option maxHeartbeats 1000000
namespace M
open PySem PySem.Spec L2
local macro_rules | `(tactic| simp_wf) => `(tactic| simp only [wCs, w_asg, w_par, w_aug, w_ex, w_ret, w_retN, w_ite, w_brk, w_cnt, w_pass, w_rais, e_v, e_int, e_bl, e_non, e_str, e_g, e_bin, e_neg, e_cmp, e_chain, e_and, e_or, e_not, e_ife, e_tup, e_lst, e_ix, e_sl, e_rev, e_fld, e_call, e_new, e_meth, e_blt, e_mth, e_isi, e_isiT, e_dK0, e_dT0, e_repr, e_ktup, e_lrng1, e_lrng2, e_lrev, e_trev, e_dix, e_dg1, e_dg2, e_dsd, e_dpop, e_din, wEs, wAndV, wOrV, wB, wAnd, wOr, wBs, wP, r_nm, r_tgt, r_tgr, r_tgp, r_tgd, r_tgi, r_tgs, r_tgs0, wBin, wCmp,
  r_add_ii, r_add_ib, r_add_ss, r_add_tt, r_add_rr, r_sub_ii, r_mul_ii, r_mul_ri, r_mul_ti, r_div_ii, r_mod_ii, r_pow_ii, r_shl_ii, r_shr_ii, r_and_ii, r_xor_ii, r_int, r_is_n, r_is_b, r_tru_b, r_tru_i, r_tru_n, r_tru_t, r_tru_r, r_ix_t, r_ix_r, r_sl_t, r_sl_r, r_len_t, r_len_s, r_abs, r_min2, r_max2, r_int1, r_int1b, r_str1, r_list1, r_tuple1, r_tuple1t, r_tuple1p, r_len_p, r_sorted1t, r_ix_p, r_valD_p, r_ty_p, r_tindex, r_tyM_tindex, r_reverse, r_tyM_reverse, r_remove, r_tyM_remove, r_append, r_pop0, r_pop1, r_insert, r_extend, r_count, r_index, r_sum1, r_sorted1, r_tyM_pop1, r_tyM_insert, r_tyM_extend, r_tyM_count, r_tyM_index, r_fld, r_tgf, r_tyM_append, r_tyM_pop0, r_valD_t, r_valD_r, r_ty_n, r_ty_b, r_ty_i, r_ty_s, r_ty_t, r_is_non_int, r_is_non_bool, r_is_non_str, r_is_non_tuple, r_is_non_list, r_is_non_dict, r_is_bl_int, r_is_bl_bool, r_is_bl_str, r_is_bl_tuple, r_is_bl_list, r_is_bl_dict, r_is_int_int, r_is_int_bool, r_is_int_str, r_is_int_tuple, r_is_int_list, r_is_int_dict, r_is_str_int, r_is_str_bool, r_is_str_str, r_is_str_tuple, r_is_str_list, r_is_str_dict, r_is_ptup_int, r_is_ptup_bool, r_is_ptup_str, r_is_ptup_tuple, r_is_ptup_list, r_is_ptup_dict, r_is_tup_int, r_is_tup_bool, r_is_tup_str, r_is_tup_tuple, r_is_tup_list, r_is_tup_dict, isNon, r_at0, r_at1, r_at2, r_at3, r_at4, r_at5, r_eq_ii, r_eq_bb,
  List.getElem?_cons_zero, List.getElem?_cons_succ, List.set_cons_zero, List.set_cons_succ, setAll, Option.some.injEq, Val.int.injEq, Val.bl.injEq, Val.tup.injEq, Val.ref.injEq, exists_eq_left', exists_eq_left, exists_eq_right, Bool.false_eq_true, if_true, if_false, List.isEmpty_nil, List.isEmpty_cons, true_and, and_true, ↓reduceIte, List.length_cons, List.length_nil, startL, List.map_cons, List.map_nil, Bool.not_true, Bool.not_false, Nat.reduceAdd, Nat.reduceSub, List.replicate, List.cons_append, List.nil_append, reduceCtorEq, false_and, exists_false, List.cons.injEq, Bool.false_xor, Bool.true_xor, wipeL, Int.reduceNeg, Int.cast_ofNat_Int, decide_true, decide_false, Int.reduceEq, decide_eq_true_eq, r_nd, r_sl0, r_sl1, r_sl2, r_sl3, r_sl4, r_sl5, r_sl6, r_sl7, r_sl8, r_sl9, r_sl10, r_sl11, r_sl12, r_sl13, r_sl14, r_sl15, r_sl16, r_sl17, r_sl18, r_sl19, r_sl20, r_sl21, r_sl22, r_sl23, r_sl24, decide_eq_false_iff_not, not_true_eq_false, not_false_eq_true, Int.not_lt, Int.not_le])
def cd (a b : Int) : Int := (Int.gcd a b : Nat)
theorem cd_pos {a b : Int} (h : b ≠ 0) : 0 < cd a b := by
  unfold cd
  have : 0 < Int.gcd a b := Int.gcd_pos_of_ne_zero_right a h
  omega
/-- the fraction of two ints -/
def fr (a b : Int) : Int × Int := if b < 0 then ((0 - a) / cd (0 - a) (0 - b), (0 - b) / cd (0 - a) (0 - b)) else (a / cd a b, b / cd a b)
def vF (p : Int × Int) : Val := .tup [.int p.1, .int p.2]
def SzF (n : Nat) (p : Int × Int) : Prop := Sz n p.1 ∧ Sz n p.2
/-- what a type is asked of -/
def isPt : Val → Bool
  | .ptup _ => true
  | _ => false
def okTy (v : Val) (S : Sto) : Prop := ∃ n, tyName v S = some n ∧ n ∈ ["NoneType", "bool", "int", "str", "tuple", "list", "dict"] ∧ isPt v = false
def isI : Val → Bool
  | .int _ => true
  | _ => false
def isB : Val → Bool
  | .bl _ => true
  | _ => false
theorem kb_int : kitB "NoneType" "int" = some false ∧ kitB "bool" "int" = some true ∧ kitB "int" "int" = some true ∧ kitB "str" "int" = some false ∧ kitB "tuple" "int" = some false ∧ kitB "list" "int" = some false ∧ kitB "dict" "int" = some false := by decide +kernel
theorem kb_bool : kitB "NoneType" "bool" = some false ∧ kitB "bool" "bool" = some true ∧ kitB "int" "bool" = some false ∧ kitB "str" "bool" = some false ∧ kitB "tuple" "bool" = some false ∧ kitB "list" "bool" = some false ∧ kitB "dict" "bool" = some false := by decide +kernel
theorem isi_int {v : Val} {S : Sto} (h : okTy v S) : ∃ n k, tyName v S = some n ∧ kitB n "int" = some k ∧ k = (isI v || isB v) := by
  obtain ⟨n, e, hn⟩ := h
  refine ⟨n, _, e, ?_, rfl⟩
  obtain ⟨k1, k2, k3, k4, k5, k6, k7⟩ := kb_int
  cases v <;> simp only [tyName, Option.some.injEq] at e <;> (try subst e) <;> simp only [isI, isB, *] <;> try rfl
  split at e <;> simp only [Option.some.injEq, reduceCtorEq] at e <;> subst e <;> simp only [*] <;> rfl
theorem isi_bool {v : Val} {S : Sto} (h : okTy v S) : ∃ n k, tyName v S = some n ∧ kitB n "bool" = some k ∧ k = isB v := by
  obtain ⟨n, e, hn⟩ := h
  refine ⟨n, _, e, ?_, rfl⟩
  obtain ⟨k1, k2, k3, k4, k5, k6, k7⟩ := kb_bool
  cases v <;> simp only [tyName, Option.some.injEq] at e <;> (try subst e) <;> simp only [isI, isB, *] <;> try rfl
  split at e <;> simp only [Option.some.injEq, reduceCtorEq] at e <;> subst e <;> simp only [*]
theorem okTy.of {v : Val} {S : Sto} (h : ∀ a, v = .ref a → ∃ xs, rdL S a xs) (hp : isPt v = false) : okTy v S := by
  cases v
  case ptup => cases hp
  case ref a =>
    obtain ⟨xs, r⟩ := h a rfl
    rcases r.cases with e | e <;> exact ⟨"list", by simp only [tyName, e], by simp, rfl⟩
  all_goals exact ⟨_, rfl, by simp, rfl⟩
def spInt : Spec
  | [v], S, Q, _ => okTy v S ∧ Q (.bl (isI v)) S
  | _, _, _, _ => False
def ofF : Val → Option (Int × Int)
  | .tup [.int a, .int b] => some (a, b)
  | _ => none
@[simp] theorem ofF_vF (p : Int × Int) : ofF (vF p) = some p := rfl
def N_is_int : List Str := ["thing"]
def P_is_int : List Str := ["thing"]
def B_is_int : List C := [
  .ret (.and [.isi (.v 0) "int", .not (.isi (.v 0) "bool")])]
theorem body_is_int {G : Gam} : Body G N_is_int P_is_int B_is_int spInt := by
  intro vs S Q X h
  unfold spInt at h
  split at h
  · rename_i v
    refine ⟨rfl, ?_⟩
    obtain ⟨ok, h⟩ := h
    simp only [B_is_int, N_is_int]
    obtain ⟨n1, k1, e1, e2, e3⟩ := isi_int ok
    obtain ⟨n2, k2, f1, f2, f3⟩ := isi_bool ok
    simp_wf
    rw [vIsi_row e1 e2]
    simp_wf
    split
    · rename_i hk
      have e : (!k2) = isI v := by cases v <;> simp_all [isI, isB]
      rw [vIsi_row f1 f2]
      simp_wf
      exact ⟨S, .refl, by rw [e]; exact h⟩
    · rename_i hk
      have e : false = isI v := by cases v <;> simp_all [isI, isB]
      exact ⟨S, .refl, by rw [e]; exact h⟩
  · exact h.elim
theorem Sz.cd {n : Nat} {a b : Int} (h : b ≠ 0) (s : Sz n b) : Sz n (cd a b) := s.of_le (by
  unfold M.cd
  have := Int.gcd_le_natAbs_right a h
  simpa using this)
theorem SzF.m {n : Nat} {p q : Int × Int} (hp : SzF n p) (hq : SzF n q) : MulOk p.1 q.1 ∨ True := .inr trivial
end M

set_option maxHeartbeats 1000000
namespace M
open PySem PySem.Spec L2
local macro_rules | `(tactic| simp_wf) => `(tactic| simp only [wCs, w_asg, w_par, w_aug, w_ex, w_ret, w_retN, w_ite, w_brk, w_cnt, w_pass, w_rais, e_v, e_int, e_bl, e_non, e_str, e_g, e_bin, e_neg, e_cmp, e_chain, e_and, e_or, e_not, e_ife, e_tup, e_lst, e_ix, e_sl, e_rev, e_fld, e_call, e_new, e_meth, e_blt, e_mth, e_isi, e_isiT, e_dK0, e_dT0, e_repr, e_ktup, e_lrng1, e_lrng2, e_lrev, e_trev, e_dix, e_dg1, e_dg2, e_dsd, e_dpop, e_din, wEs, wAndV, wOrV, wB, wAnd, wOr, wBs, wP, r_nm, r_tgt, r_tgr, r_tgp, r_tgd, r_tgi, r_tgs, r_tgs0, wBin, wCmp,
  r_add_ii, r_add_ib, r_add_ss, r_add_tt, r_add_rr, r_sub_ii, r_mul_ii, r_mul_ri, r_mul_ti, r_div_ii, r_mod_ii, r_pow_ii, r_shl_ii, r_shr_ii, r_and_ii, r_xor_ii, r_int, r_is_n, r_is_b, r_tru_b, r_tru_i, r_tru_n, r_tru_t, r_tru_r, r_ix_t, r_ix_r, r_sl_t, r_sl_r, r_len_t, r_len_s, r_abs, r_min2, r_max2, r_int1, r_int1b, r_str1, r_list1, r_tuple1, r_tuple1t, r_tuple1p, r_len_p, r_sorted1t, r_ix_p, r_valD_p, r_ty_p, r_tindex, r_tyM_tindex, r_reverse, r_tyM_reverse, r_remove, r_tyM_remove, r_append, r_pop0, r_pop1, r_insert, r_extend, r_count, r_index, r_sum1, r_sorted1, r_tyM_pop1, r_tyM_insert, r_tyM_extend, r_tyM_count, r_tyM_index, r_fld, r_tgf, r_tyM_append, r_tyM_pop0, r_valD_t, r_valD_r, r_ty_n, r_ty_b, r_ty_i, r_ty_s, r_ty_t, r_is_non_int, r_is_non_bool, r_is_non_str, r_is_non_tuple, r_is_non_list, r_is_non_dict, r_is_bl_int, r_is_bl_bool, r_is_bl_str, r_is_bl_tuple, r_is_bl_list, r_is_bl_dict, r_is_int_int, r_is_int_bool, r_is_int_str, r_is_int_tuple, r_is_int_list, r_is_int_dict, r_is_str_int, r_is_str_bool, r_is_str_str, r_is_str_tuple, r_is_str_list, r_is_str_dict, r_is_ptup_int, r_is_ptup_bool, r_is_ptup_str, r_is_ptup_tuple, r_is_ptup_list, r_is_ptup_dict, r_is_tup_int, r_is_tup_bool, r_is_tup_str, r_is_tup_tuple, r_is_tup_list, r_is_tup_dict, isNon, r_at0, r_at1, r_at2, r_at3, r_at4, r_at5, r_eq_ii, r_eq_bb,
  List.getElem?_cons_zero, List.getElem?_cons_succ, List.set_cons_zero, List.set_cons_succ, setAll, Option.some.injEq, Val.int.injEq, Val.bl.injEq, Val.tup.injEq, Val.ref.injEq, exists_eq_left', exists_eq_left, exists_eq_right, Bool.false_eq_true, if_true, if_false, List.isEmpty_nil, List.isEmpty_cons, true_and, and_true, ↓reduceIte, List.length_cons, List.length_nil, startL, List.map_cons, List.map_nil, Bool.not_true, Bool.not_false, Nat.reduceAdd, Nat.reduceSub, List.replicate, List.cons_append, List.nil_append, reduceCtorEq, false_and, exists_false, List.cons.injEq, Bool.false_xor, Bool.true_xor, wipeL, Int.reduceNeg, Int.cast_ofNat_Int, decide_true, decide_false, Int.reduceEq, decide_eq_true_eq, r_nd, r_sl0, r_sl1, r_sl2, r_sl3, r_sl4, r_sl5, r_sl6, r_sl7, r_sl8, r_sl9, r_sl10, r_sl11, r_sl12, r_sl13, r_sl14, r_sl15, r_sl16, r_sl17, r_sl18, r_sl19, r_sl20, r_sl21, r_sl22, r_sl23, r_sl24, decide_eq_false_iff_not, not_true_eq_false, not_false_eq_true, Int.not_lt, Int.not_le])
theorem cd_dvd_l (a b : Int) : cd a b ∣ a := by unfold cd; exact Int.gcd_dvd_left ..
theorem cd_dvd_r (a b : Int) : cd a b ∣ b := by unfold cd; exact Int.gcd_dvd_right ..
theorem cd_div {a b : Int} (h : b ≠ 0) : cd (a / cd a b) (b / cd a b) = 1 := by
  unfold cd
  have hp : 0 < Int.gcd a b := Int.gcd_pos_of_ne_zero_right a h
  have := Int.gcd_ediv_gcd_ediv_gcd hp
  omega
theorem fr_core {a b : Int} (h : 0 < b) : 0 < b / cd a b ∧ (a / cd a b) * b = a * (b / cd a b) ∧ cd (a / cd a b) (b / cd a b) = 1 ∧ (a / cd a b).natAbs ≤ a.natAbs ∧ (b / cd a b).natAbs ≤ b.natAbs := by
  have hg := cd_pos (a := a) (show b ≠ 0 by omega)
  obtain ⟨x, hx⟩ := cd_dvd_l a b
  obtain ⟨y, hy⟩ := cd_dvd_r a b
  have e1 : a / cd a b = x := by
    have := Int.mul_ediv_cancel_left x (show cd a b ≠ 0 by omega)
    rw [← hx] at this; exact this
  have e2 : b / cd a b = y := by
    have := Int.mul_ediv_cancel_left y (show cd a b ≠ 0 by omega)
    rw [← hy] at this; exact this
  refine ⟨?_, ?_, cd_div (by omega), Int.natAbs_ediv_le_natAbs .., Int.natAbs_ediv_le_natAbs ..⟩
  · rw [e2]
    rcases Int.lt_trichotomy y 0 with z | z | z
    · have : cd a b * y < 0 := Int.mul_neg_of_pos_of_neg hg z
      omega
    · subst z; simp at hy; omega
    · exact z
  · rw [e1, e2]
    calc x * b = x * (cd a b * y) := by rw [← hy]
      _ = (cd a b * x) * y := by grind
      _ = a * y := by rw [← hx]
structure FrOk (a b : Int) (f : Int × Int) : Prop where
  pos : 0 < f.2
  eq : f.1 * b = a * f.2
  low : cd f.1 f.2 = 1
  l1 : f.1.natAbs ≤ a.natAbs
  l2 : f.2.natAbs ≤ b.natAbs
theorem fr_ok {a b : Int} (h : b ≠ 0) : FrOk a b (fr a b) := by
  unfold fr
  split
  · obtain ⟨h1, h2, h3, h4, h5⟩ := fr_core (a := 0 - a) (b := 0 - b) (by omega)
    refine ⟨h1, ?_, h3, by simpa using h4, by simpa using h5⟩
    dsimp only
    generalize (0 - a) / cd (0 - a) (0 - b) = x at *
    generalize (0 - b) / cd (0 - a) (0 - b) = y at *
    have : x * (0 - b) = -(x * b) := by grind
    have : (0 - a) * y = -(a * y) := by grind
    omega
  · obtain ⟨h1, h2, h3, h4, h5⟩ := fr_core (a := a) (b := b) (by omega)
    exact ⟨h1, h2, h3, h4, h5⟩
theorem FrOk.sz {a b : Int} {f : Int × Int} {m n : Nat} (h : FrOk a b f) (ha : Sz m a) (hb : Sz n b) : Sz m f.1 ∧ Sz n f.2 := ⟨ha.of_le h.l1, hb.of_le h.l2⟩
theorem FrOk.ne {a b : Int} {f : Int × Int} (h : FrOk a b f) : f.2 ≠ 0 := by have := h.pos; omega
end M

set_option maxHeartbeats 1000000
namespace M
open PySem PySem.Spec L2
local macro_rules | `(tactic| simp_wf) => `(tactic| simp only [wCs, w_asg, w_par, w_aug, w_ex, w_ret, w_retN, w_ite, w_brk, w_cnt, w_pass, w_rais, e_v, e_int, e_bl, e_non, e_str, e_g, e_bin, e_neg, e_cmp, e_chain, e_and, e_or, e_not, e_ife, e_tup, e_lst, e_ix, e_sl, e_rev, e_fld, e_call, e_new, e_meth, e_blt, e_mth, e_isi, e_isiT, e_dK0, e_dT0, e_repr, e_ktup, e_lrng1, e_lrng2, e_lrev, e_trev, e_dix, e_dg1, e_dg2, e_dsd, e_dpop, e_din, wEs, wAndV, wOrV, wB, wAnd, wOr, wBs, wP, r_nm, r_tgt, r_tgr, r_tgp, r_tgd, r_tgi, r_tgs, r_tgs0, wBin, wCmp,
  r_add_ii, r_add_ib, r_add_ss, r_add_tt, r_add_rr, r_sub_ii, r_mul_ii, r_mul_ri, r_mul_ti, r_div_ii, r_mod_ii, r_pow_ii, r_shl_ii, r_shr_ii, r_and_ii, r_xor_ii, r_int, r_is_n, r_is_b, r_tru_b, r_tru_i, r_tru_n, r_tru_t, r_tru_r, r_ix_t, r_ix_r, r_sl_t, r_sl_r, r_len_t, r_len_s, r_abs, r_min2, r_max2, r_int1, r_int1b, r_str1, r_list1, r_tuple1, r_tuple1t, r_tuple1p, r_len_p, r_sorted1t, r_ix_p, r_valD_p, r_ty_p, r_tindex, r_tyM_tindex, r_reverse, r_tyM_reverse, r_remove, r_tyM_remove, r_append, r_pop0, r_pop1, r_insert, r_extend, r_count, r_index, r_sum1, r_sorted1, r_tyM_pop1, r_tyM_insert, r_tyM_extend, r_tyM_count, r_tyM_index, r_fld, r_tgf, r_tyM_append, r_tyM_pop0, r_valD_t, r_valD_r, r_ty_n, r_ty_b, r_ty_i, r_ty_s, r_ty_t, r_is_non_int, r_is_non_bool, r_is_non_str, r_is_non_tuple, r_is_non_list, r_is_non_dict, r_is_bl_int, r_is_bl_bool, r_is_bl_str, r_is_bl_tuple, r_is_bl_list, r_is_bl_dict, r_is_int_int, r_is_int_bool, r_is_int_str, r_is_int_tuple, r_is_int_list, r_is_int_dict, r_is_str_int, r_is_str_bool, r_is_str_str, r_is_str_tuple, r_is_str_list, r_is_str_dict, r_is_ptup_int, r_is_ptup_bool, r_is_ptup_str, r_is_ptup_tuple, r_is_ptup_list, r_is_ptup_dict, r_is_tup_int, r_is_tup_bool, r_is_tup_str, r_is_tup_tuple, r_is_tup_list, r_is_tup_dict, isNon, r_at0, r_at1, r_at2, r_at3, r_at4, r_at5, r_eq_ii, r_eq_bb,
  List.getElem?_cons_zero, List.getElem?_cons_succ, List.set_cons_zero, List.set_cons_succ, setAll, Option.some.injEq, Val.int.injEq, Val.bl.injEq, Val.tup.injEq, Val.ref.injEq, exists_eq_left', exists_eq_left, exists_eq_right, Bool.false_eq_true, if_true, if_false, List.isEmpty_nil, List.isEmpty_cons, true_and, and_true, ↓reduceIte, List.length_cons, List.length_nil, startL, List.map_cons, List.map_nil, Bool.not_true, Bool.not_false, Nat.reduceAdd, Nat.reduceSub, List.replicate, List.cons_append, List.nil_append, reduceCtorEq, false_and, exists_false, List.cons.injEq, Bool.false_xor, Bool.true_xor, wipeL, Int.reduceNeg, Int.cast_ofNat_Int, decide_true, decide_false, Int.reduceEq, decide_eq_true_eq, r_nd, r_sl0, r_sl1, r_sl2, r_sl3, r_sl4, r_sl5, r_sl6, r_sl7, r_sl8, r_sl9, r_sl10, r_sl11, r_sl12, r_sl13, r_sl14, r_sl15, r_sl16, r_sl17, r_sl18, r_sl19, r_sl20, r_sl21, r_sl22, r_sl23, r_sl24, decide_eq_false_iff_not, not_true_eq_false, not_false_eq_true, Int.not_lt, Int.not_le])
/-- a list of ints -/
def vI (ns : List Int) : List Val := ns.map .int
theorem vI_app {ns : List Int} {i : Int} : vI ns ++ [.int i] = vI (ns ++ [i]) := by unfold vI; simp
theorem vI_len {ns : List Int} : (vI ns).length = ns.length := by unfold vI; simp
theorem rd_upd {S : Sto} {p : Addr} {xs : List Val} : rdL (S.upd p (.lst xs)) p xs := .lst Sto.upd_same
theorem szSmall {i : Int} {n : Nat} (h : i.natAbs < 2 ^ n) : Sz n i := h
theorem Sto.ne_of {S : Sto} {p q : Addr} {o : MO} (h : S p = some o) (hq : S q = none) : p ≠ q := fun e => by subst e; rw [h] at hq; cases hq
theorem Sto.old {S : Sto} {p q : Addr} {o u : MO} (h : S p = some o) (hq : S q = none) : (S.upd q u) p = some o := by rw [Sto.upd_ne (Sto.ne_of h hq)]; exact h
end M

set_option maxHeartbeats 1000000
namespace M
open PySem PySem.Spec L2
local macro_rules | `(tactic| simp_wf) => `(tactic| simp only [wCs, w_asg, w_par, w_aug, w_ex, w_ret, w_retN, w_ite, w_brk, w_cnt, w_pass, w_rais, e_v, e_int, e_bl, e_non, e_str, e_g, e_bin, e_neg, e_cmp, e_chain, e_and, e_or, e_not, e_ife, e_tup, e_lst, e_ix, e_sl, e_rev, e_fld, e_call, e_new, e_meth, e_blt, e_mth, e_isi, e_isiT, e_dK0, e_dT0, e_repr, e_ktup, e_lrng1, e_lrng2, e_lrev, e_trev, e_dix, e_dg1, e_dg2, e_dsd, e_dpop, e_din, wEs, wAndV, wOrV, wB, wAnd, wOr, wBs, wP, r_nm, r_tgt, r_tgr, r_tgp, r_tgd, r_tgi, r_tgs, r_tgs0, wBin, wCmp,
  r_add_ii, r_add_ib, r_add_ss, r_add_tt, r_add_rr, r_sub_ii, r_mul_ii, r_mul_ri, r_mul_ti, r_div_ii, r_mod_ii, r_pow_ii, r_shl_ii, r_shr_ii, r_and_ii, r_xor_ii, r_int, r_is_n, r_is_b, r_tru_b, r_tru_i, r_tru_n, r_tru_t, r_tru_r, r_ix_t, r_ix_r, r_sl_t, r_sl_r, r_len_t, r_len_s, r_abs, r_min2, r_max2, r_int1, r_int1b, r_str1, r_list1, r_tuple1, r_tuple1t, r_tuple1p, r_len_p, r_sorted1t, r_ix_p, r_valD_p, r_ty_p, r_tindex, r_tyM_tindex, r_reverse, r_tyM_reverse, r_remove, r_tyM_remove, r_append, r_pop0, r_pop1, r_insert, r_extend, r_count, r_index, r_sum1, r_sorted1, r_tyM_pop1, r_tyM_insert, r_tyM_extend, r_tyM_count, r_tyM_index, r_fld, r_tgf, r_tyM_append, r_tyM_pop0, r_valD_t, r_valD_r, r_ty_n, r_ty_b, r_ty_i, r_ty_s, r_ty_t, r_is_non_int, r_is_non_bool, r_is_non_str, r_is_non_tuple, r_is_non_list, r_is_non_dict, r_is_bl_int, r_is_bl_bool, r_is_bl_str, r_is_bl_tuple, r_is_bl_list, r_is_bl_dict, r_is_int_int, r_is_int_bool, r_is_int_str, r_is_int_tuple, r_is_int_list, r_is_int_dict, r_is_str_int, r_is_str_bool, r_is_str_str, r_is_str_tuple, r_is_str_list, r_is_str_dict, r_is_ptup_int, r_is_ptup_bool, r_is_ptup_str, r_is_ptup_tuple, r_is_ptup_list, r_is_ptup_dict, r_is_tup_int, r_is_tup_bool, r_is_tup_str, r_is_tup_tuple, r_is_tup_list, r_is_tup_dict, isNon, r_at0, r_at1, r_at2, r_at3, r_at4, r_at5, r_eq_ii, r_eq_bb,
  List.getElem?_cons_zero, List.getElem?_cons_succ, List.set_cons_zero, List.set_cons_succ, setAll, Option.some.injEq, Val.int.injEq, Val.bl.injEq, Val.tup.injEq, Val.ref.injEq, exists_eq_left', exists_eq_left, exists_eq_right, Bool.false_eq_true, if_true, if_false, List.isEmpty_nil, List.isEmpty_cons, true_and, and_true, ↓reduceIte, List.length_cons, List.length_nil, startL, List.map_cons, List.map_nil, Bool.not_true, Bool.not_false, Nat.reduceAdd, Nat.reduceSub, List.replicate, List.cons_append, List.nil_append, reduceCtorEq, false_and, exists_false, List.cons.injEq, Bool.false_xor, Bool.true_xor, wipeL, Int.reduceNeg, Int.cast_ofNat_Int, decide_true, decide_false, Int.reduceEq, decide_eq_true_eq, r_nd, r_sl0, r_sl1, r_sl2, r_sl3, r_sl4, r_sl5, r_sl6, r_sl7, r_sl8, r_sl9, r_sl10, r_sl11, r_sl12, r_sl13, r_sl14, r_sl15, r_sl16, r_sl17, r_sl18, r_sl19, r_sl20, r_sl21, r_sl22, r_sl23, r_sl24, decide_eq_false_iff_not, not_true_eq_false, not_false_eq_true, Int.not_lt, Int.not_le])
def vQ (r : Rat) : Val := .tup [.int r.num, .int (r.den : Int)]
theorem frok_rat {a b : Int} {f : Int × Int} (hb : b ≠ 0) (h : FrOk a b f) : f = ((Rat.divInt a b).num, ((Rat.divInt a b).den : Int)) := by
  obtain ⟨x, y⟩ := f
  have hp := h.pos
  have he := h.eq
  have hl := h.low
  dsimp only at hp he hl
  obtain ⟨n, rfl⟩ := Int.eq_ofNat_of_zero_le (show 0 ≤ y by omega)
  have nz : n ≠ 0 := by omega
  have cop : x.natAbs.Coprime n := by
    unfold cd at hl
    show Nat.gcd _ _ = 1
    have : Int.gcd x n = Nat.gcd x.natAbs n := rfl
    omega
  have e : (Rat.mk' x n nz cop) = Rat.divInt a b := by
    rw [Rat.mk_eq_divInt, Rat.divInt_eq_divInt_iff (by omega) hb]
    exact he
  rw [← e]
/-- sizes -/
structure SzQ (n d : Nat) (r : Rat) : Prop where
  num : Sz n r.num
  den : r.den < 2 ^ d
theorem SzQ.mono {n d m e : Nat} {r : Rat} (h : SzQ n d r) (a : n ≤ m) (b : d ≤ e) : SzQ m e r := ⟨h.num.mono a, Nat.lt_of_lt_of_le h.den (Nat.pow_le_pow_right (by decide) b)⟩
theorem SzQ.dsz {n d : Nat} {r : Rat} (h : SzQ n d r) : Sz d (r.den : Int) := by unfold Sz; simpa using h.den
theorem divInt_sz {a b : Int} {n d : Nat} (hb : b ≠ 0) (ha : Sz n a) (hd : Sz d b) : SzQ n d (Rat.divInt a b) := by
  have f := fr_ok (a := a) hb
  rw [frok_rat hb f] at f
  have l1 := f.l1
  have l2 := f.l2
  dsimp only at l1 l2
  exact ⟨ha.of_le l1, by unfold Sz at hd; omega⟩
theorem den_ne (r : Rat) : (r.den : Int) ≠ 0 := by have := r.den_nz; omega
theorem add_divInt (a b : Rat) : a + b = Rat.divInt (a.num * b.den + b.num * a.den) (a.den * b.den) := by
  have := Rat.divInt_add_divInt a.num b.num (den_ne a) (den_ne b)
  rw [Rat.num_divInt_den, Rat.num_divInt_den] at this
  exact this
theorem sub_divInt (a b : Rat) : a - b = Rat.divInt (a.num * b.den - b.num * a.den) (a.den * b.den) := by
  have := Rat.divInt_sub_divInt a.num b.num (den_ne a) (den_ne b)
  rw [Rat.num_divInt_den, Rat.num_divInt_den] at this
  exact this
theorem mul_divInt (a b : Rat) : a * b = Rat.divInt (a.num * b.num) (a.den * b.den) := by
  have := Rat.divInt_mul_divInt a.num b.num (d₁ := a.den) (d₂ := b.den)
  rw [Rat.num_divInt_den, Rat.num_divInt_den] at this
  exact this
theorem SzQ.add {n d m e : Nat} {r s : Rat} (h : SzQ n d r) (h' : SzQ m e s) : SzQ (max (n + e) (m + d) + 1) (d + e) (r + s) := by
  rw [add_divInt]
  exact divInt_sz (Int.mul_ne_zero (den_ne r) (den_ne s)) ((h.num.mul h'.dsz).add (h'.num.mul h.dsz)) (h.dsz.mul h'.dsz)
theorem SzQ.sub {n d m e : Nat} {r s : Rat} (h : SzQ n d r) (h' : SzQ m e s) : SzQ (max (n + e) (m + d) + 1) (d + e) (r - s) := by
  rw [sub_divInt]
  exact divInt_sz (Int.mul_ne_zero (den_ne r) (den_ne s)) ((h.num.mul h'.dsz).sub (h'.num.mul h.dsz)) (h.dsz.mul h'.dsz)
theorem SzQ.mul {n d m e : Nat} {r s : Rat} (h : SzQ n d r) (h' : SzQ m e s) : SzQ (n + m) (d + e) (r * s) := by
  rw [mul_divInt]
  exact divInt_sz (Int.mul_ne_zero (den_ne r) (den_ne s)) (h.num.mul h'.num) (h.dsz.mul h'.dsz)
theorem SzQ.zero {n d : Nat} (hd : 0 < d) : SzQ n d 0 := ⟨by unfold Sz; exact Nat.pow_pos (by decide), by
  show 1 < 2 ^ d
  have := Nat.pow_le_pow_right (n := 2) (by decide) hd
  omega⟩
/-- a weaker promise of a body -/
theorem Body.imp {G : Gam} {N ps : List Str} {body : List C} {sp sp' : Spec} (h : Body G N ps body sp) (i : ∀ vs S Q X, sp' vs S Q X → sp vs S Q X) : Body G N ps body sp' := fun vs S Q X q => h vs S Q X (i _ _ _ _ q)
end M

set_option maxHeartbeats 1000000
namespace M
open PySem PySem.Spec L2
local macro_rules | `(tactic| simp_wf) => `(tactic| simp only [wCs, w_asg, w_par, w_aug, w_ex, w_ret, w_retN, w_ite, w_brk, w_cnt, w_pass, w_rais, e_v, e_int, e_bl, e_non, e_str, e_g, e_bin, e_neg, e_cmp, e_chain, e_and, e_or, e_not, e_ife, e_tup, e_lst, e_ix, e_sl, e_rev, e_fld, e_call, e_new, e_meth, e_blt, e_mth, e_isi, e_isiT, e_dK0, e_dT0, e_repr, e_ktup, e_lrng1, e_lrng2, e_lrev, e_trev, e_dix, e_dg1, e_dg2, e_dsd, e_dpop, e_din, wEs, wAndV, wOrV, wB, wAnd, wOr, wBs, wP, r_nm, r_tgt, r_tgr, r_tgp, r_tgd, r_tgi, r_tgs, r_tgs0, wBin, wCmp,
  r_add_ii, r_add_ib, r_add_ss, r_add_tt, r_add_rr, r_sub_ii, r_mul_ii, r_mul_ri, r_mul_ti, r_div_ii, r_mod_ii, r_pow_ii, r_shl_ii, r_shr_ii, r_and_ii, r_xor_ii, r_int, r_is_n, r_is_b, r_tru_b, r_tru_i, r_tru_n, r_tru_t, r_tru_r, r_ix_t, r_ix_r, r_sl_t, r_sl_r, r_len_t, r_len_s, r_abs, r_min2, r_max2, r_int1, r_int1b, r_str1, r_list1, r_tuple1, r_tuple1t, r_tuple1p, r_len_p, r_sorted1t, r_ix_p, r_valD_p, r_ty_p, r_tindex, r_tyM_tindex, r_reverse, r_tyM_reverse, r_remove, r_tyM_remove, r_append, r_pop0, r_pop1, r_insert, r_extend, r_count, r_index, r_sum1, r_sorted1, r_tyM_pop1, r_tyM_insert, r_tyM_extend, r_tyM_count, r_tyM_index, r_fld, r_tgf, r_tyM_append, r_tyM_pop0, r_valD_t, r_valD_r, r_ty_n, r_ty_b, r_ty_i, r_ty_s, r_ty_t, r_is_non_int, r_is_non_bool, r_is_non_str, r_is_non_tuple, r_is_non_list, r_is_non_dict, r_is_bl_int, r_is_bl_bool, r_is_bl_str, r_is_bl_tuple, r_is_bl_list, r_is_bl_dict, r_is_int_int, r_is_int_bool, r_is_int_str, r_is_int_tuple, r_is_int_list, r_is_int_dict, r_is_str_int, r_is_str_bool, r_is_str_str, r_is_str_tuple, r_is_str_list, r_is_str_dict, r_is_ptup_int, r_is_ptup_bool, r_is_ptup_str, r_is_ptup_tuple, r_is_ptup_list, r_is_ptup_dict, r_is_tup_int, r_is_tup_bool, r_is_tup_str, r_is_tup_tuple, r_is_tup_list, r_is_tup_dict, isNon, r_at0, r_at1, r_at2, r_at3, r_at4, r_at5, r_eq_ii, r_eq_bb,
  List.getElem?_cons_zero, List.getElem?_cons_succ, List.set_cons_zero, List.set_cons_succ, setAll, Option.some.injEq, Val.int.injEq, Val.bl.injEq, Val.tup.injEq, Val.ref.injEq, exists_eq_left', exists_eq_left, exists_eq_right, Bool.false_eq_true, if_true, if_false, List.isEmpty_nil, List.isEmpty_cons, true_and, and_true, ↓reduceIte, List.length_cons, List.length_nil, startL, List.map_cons, List.map_nil, Bool.not_true, Bool.not_false, Nat.reduceAdd, Nat.reduceSub, List.replicate, List.cons_append, List.nil_append, reduceCtorEq, false_and, exists_false, List.cons.injEq, Bool.false_xor, Bool.true_xor, wipeL, Int.reduceNeg, Int.cast_ofNat_Int, decide_true, decide_false, Int.reduceEq, decide_eq_true_eq, r_nd, r_sl0, r_sl1, r_sl2, r_sl3, r_sl4, r_sl5, r_sl6, r_sl7, r_sl8, r_sl9, r_sl10, r_sl11, r_sl12, r_sl13, r_sl14, r_sl15, r_sl16, r_sl17, r_sl18, r_sl19, r_sl20, r_sl21, r_sl22, r_sl23, r_sl24, decide_eq_false_iff_not, not_true_eq_false, not_false_eq_true, Int.not_lt, Int.not_le])
structure Tie where
  a : Nat
  b : Nat
  w : Rat
structure Web where
  n : Nat
  ts : List Tie
def vT (t : Tie) : Val := .tup [.int t.a, .int t.b, vQ t.w]
def vW (W : Web) : Val := .tup [.int W.n, .tup (W.ts.map vT)]
def WtOk (r : Rat) : Prop := r.num.natAbs ≤ 1000000000 ∧ r.den ≤ 1000
theorem WtOk.sz {r : Rat} (h : WtOk r) : SzQ 30 10 r := ⟨by unfold Sz; have := h.1; omega, by have := h.2; omega⟩
structure Web.Ok (W : Web) : Prop where
  n1 : 1 ≤ W.n
  n2 : W.n ≤ 60
  len : W.ts.length ≤ 170
  ends : ∀ t ∈ W.ts, t.a < t.b ∧ t.b < W.n
  wt : ∀ t ∈ W.ts, WtOk t.w
/-- sums -/
def qs : List Rat → Rat
  | [] => 0
  | r :: rs => r + qs rs
theorem qs_sz : ∀ {rs : List Rat} {k : Nat}, (∀ r ∈ rs, SzQ 30 10 r) → rs.length ≤ k → SzQ (30 + 11 * k) (10 * k + 1) (qs rs)
  | [], k, _, _ => SzQ.zero (by omega)
  | r :: rs, k, h, hl => by
    have h1 := h r (by simp)
    have ih := qs_sz (rs := rs) (k := k - 1) (fun x hx => h x (by simp [hx])) (by simp at hl; omega)
    have := h1.add ih
    simp only [List.length_cons] at hl
    exact this.mono (by omega) (by omega)
theorem at_map {α : Type} {xs : List α} {f : α → Val} {j : Nat} {x : α} (h : xs[j]? = some x) : atI (xs.map f) (j : Int) = some (f x) := by
  rw [atI_nat, List.getElem?_map, h]; rfl
theorem take_snoc {α : Type} {xs : List α} {j : Nat} {x : α} (h : xs[j]? = some x) : xs.take (j + 1) = xs.take j ++ [x] := by
  rw [List.take_add_one, h]; rfl
theorem mem_of_get {α : Type} {xs : List α} {j : Nat} {x : α} (h : xs[j]? = some x) : x ∈ xs := List.mem_of_getElem? h
section
variable {G : Gam} {X : XPost} {ρ : Loc} {S : Sto} {Q : Post} {W : Web} {t : Tie} {r : Rat} {ts : List T} {R : Loc → Sto → Prop}
theorem r_W0 : vIx (vW W) (.int 0) S Q = Q (.int W.n) S := by unfold vW; rw [r_ix_t, r_at0]; simp only [Option.some.injEq, exists_eq_left']
theorem r_W1 : vIx (vW W) (.int 1) S Q = Q (.tup (W.ts.map vT)) S := by unfold vW; rw [r_ix_t, r_at1]; simp only [Option.some.injEq, exists_eq_left']
theorem r_T0 : vIx (vT t) (.int 0) S Q = Q (.int t.a) S := by unfold vT; rw [r_ix_t, r_at0]; simp only [Option.some.injEq, exists_eq_left']
theorem r_T1 : vIx (vT t) (.int 1) S Q = Q (.int t.b) S := by unfold vT; rw [r_ix_t, r_at1]; simp only [Option.some.injEq, exists_eq_left']
theorem r_T2 : vIx (vT t) (.int 2) S Q = Q (vQ t.w) S := by unfold vT; rw [r_ix_t, r_at2]; simp only [Option.some.injEq, exists_eq_left']
theorem r_Q0 : vIx (vQ r) (.int 0) S Q = Q (.int r.num) S := by unfold vQ; rw [r_ix_t, r_at0]; simp only [Option.some.injEq, exists_eq_left']
theorem r_Q1 : vIx (vQ r) (.int 1) S Q = Q (.int r.den) S := by unfold vQ; rw [r_ix_t, r_at1]; simp only [Option.some.injEq, exists_eq_left']
theorem r_tgT {a b c : T} : wTg G X (.tup [a, b, c]) (vT t) ρ S R = wTgs G X [a, b, c] [.int t.a, .int t.b, vQ t.w] ρ S R := by unfold vT; rw [r_tgt]; simp
theorem r_tgQ {a b : T} : wTg G X (.tup [a, b]) (vQ r) ρ S R = wTgs G X [a, b] [.int r.num, .int r.den] ρ S R := by unfold vQ; rw [r_tgt]; simp
theorem r_tgW {a b : T} : wTg G X (.tup [a, b]) (vW W) ρ S R = wTgs G X [a, b] [.int W.n, .tup (W.ts.map vT)] ρ S R := by unfold vW; rw [r_tgt]; simp
end
/-- names are of no weight -/
theorem Body.names {G : Gam} {N N' ps ps' : List Str} {body : List C} {sp : Spec} (h : Body G N ps body sp) (e : N.length = N'.length) (e2 : ps.length = ps'.length) : Body G N' ps' body sp := fun vs S Q X q => by
  have := h vs S Q X q
  unfold startL at this ⊢
  rw [← e, ← e2]; exact this
end M

set_option maxHeartbeats 1000000
namespace M
open PySem PySem.Spec L2
local macro_rules | `(tactic| simp_wf) => `(tactic| simp only [wCs, w_asg, w_par, w_aug, w_ex, w_ret, w_retN, w_ite, w_brk, w_cnt, w_pass, w_rais, e_v, e_int, e_bl, e_non, e_str, e_g, e_bin, e_neg, e_cmp, e_chain, e_and, e_or, e_not, e_ife, e_tup, e_lst, e_ix, e_sl, e_rev, e_fld, e_call, e_new, e_meth, e_blt, e_mth, e_isi, e_isiT, e_dK0, e_dT0, e_repr, e_ktup, e_lrng1, e_lrng2, e_lrev, e_trev, e_dix, e_dg1, e_dg2, e_dsd, e_dpop, e_din, wEs, wAndV, wOrV, wB, wAnd, wOr, wBs, wP, r_nm, r_tgT, r_tgQ, r_tgW, r_tgt, r_tgr, r_tgp, r_tgd, r_tgi, r_tgs, r_tgs0, wBin, wCmp,
  r_add_ii, r_add_ib, r_add_ss, r_add_tt, r_add_rr, r_sub_ii, r_mul_ii, r_mul_ri, r_mul_ti, r_div_ii, r_mod_ii, r_pow_ii, r_shl_ii, r_shr_ii, r_and_ii, r_xor_ii, r_int, r_is_n, r_is_b, r_tru_b, r_tru_i, r_tru_n, r_tru_t, r_tru_r, r_ix_t, r_ix_r, r_sl_t, r_sl_r, r_len_t, r_len_s, r_abs, r_min2, r_max2, r_int1, r_int1b, r_str1, r_list1, r_tuple1, r_tuple1t, r_tuple1p, r_len_p, r_sorted1t, r_ix_p, r_valD_p, r_ty_p, r_tindex, r_tyM_tindex, r_reverse, r_tyM_reverse, r_remove, r_tyM_remove, r_append, r_pop0, r_pop1, r_insert, r_extend, r_count, r_index, r_sum1, r_sorted1, r_tyM_pop1, r_tyM_insert, r_tyM_extend, r_tyM_count, r_tyM_index, r_fld, r_tgf, r_tyM_append, r_tyM_pop0, r_valD_t, r_valD_r, r_ty_n, r_ty_b, r_ty_i, r_ty_s, r_ty_t, r_is_non_int, r_is_non_bool, r_is_non_str, r_is_non_tuple, r_is_non_list, r_is_non_dict, r_is_bl_int, r_is_bl_bool, r_is_bl_str, r_is_bl_tuple, r_is_bl_list, r_is_bl_dict, r_is_int_int, r_is_int_bool, r_is_int_str, r_is_int_tuple, r_is_int_list, r_is_int_dict, r_is_str_int, r_is_str_bool, r_is_str_str, r_is_str_tuple, r_is_str_list, r_is_str_dict, r_is_ptup_int, r_is_ptup_bool, r_is_ptup_str, r_is_ptup_tuple, r_is_ptup_list, r_is_ptup_dict, r_is_tup_int, r_is_tup_bool, r_is_tup_str, r_is_tup_tuple, r_is_tup_list, r_is_tup_dict, isNon, r_W0, r_W1, r_T0, r_T1, r_T2, r_Q0, r_Q1, r_at0, r_at1, r_at2, r_at3, r_at4, r_at5, r_eq_ii, r_eq_bb,
  List.getElem?_cons_zero, List.getElem?_cons_succ, List.set_cons_zero, List.set_cons_succ, setAll, Option.some.injEq, Val.int.injEq, Val.bl.injEq, Val.tup.injEq, Val.ref.injEq, exists_eq_left', exists_eq_left, exists_eq_right, Bool.false_eq_true, if_true, if_false, List.isEmpty_nil, List.isEmpty_cons, true_and, and_true, ↓reduceIte, List.length_cons, List.length_nil, startL, List.map_cons, List.map_nil, Bool.not_true, Bool.not_false, Nat.reduceAdd, Nat.reduceSub, List.replicate, List.cons_append, List.nil_append, reduceCtorEq, false_and, exists_false, List.cons.injEq, Bool.false_xor, Bool.true_xor, wipeL, Int.reduceNeg, Int.cast_ofNat_Int, decide_true, decide_false, Int.reduceEq, decide_eq_true_eq, r_nd, r_sl0, r_sl1, r_sl2, r_sl3, r_sl4, r_sl5, r_sl6, r_sl7, r_sl8, r_sl9, r_sl10, r_sl11, r_sl12, r_sl13, r_sl14, r_sl15, r_sl16, r_sl17, r_sl18, r_sl19, r_sl20, r_sl21, r_sl22, r_sl23, r_sl24, decide_eq_false_iff_not, not_true_eq_false, not_false_eq_true, Int.not_lt, Int.not_le])
def wts (ts : List Tie) : List Rat := ts.map (·.w)
theorem Web.Ok.sum {W : Web} (h : W.Ok) {ts : List Tie} (hs : ∀ t ∈ ts, t ∈ W.ts) (hl : ts.length ≤ 170) : SzQ 4000 4000 (qs (wts ts)) := by
  refine (qs_sz (k := 170) (fun r hr => ?_) (by unfold wts; simpa using hl)).mono (by decide) (by decide)
  unfold wts at hr
  obtain ⟨t, ht, rfl⟩ := List.mem_map.mp hr
  exact (h.wt t (hs t ht)).sz
end M

set_option maxHeartbeats 1000000
namespace M
open PySem PySem.Spec L2
local macro_rules | `(tactic| simp_wf) => `(tactic| simp only [wCs, w_asg, w_par, w_aug, w_ex, w_ret, w_retN, w_ite, w_brk, w_cnt, w_pass, w_rais, e_v, e_int, e_bl, e_non, e_str, e_g, e_bin, e_neg, e_cmp, e_chain, e_and, e_or, e_not, e_ife, e_tup, e_lst, e_ix, e_sl, e_rev, e_fld, e_call, e_new, e_meth, e_blt, e_mth, e_isi, e_isiT, e_dK0, e_dT0, e_repr, e_ktup, e_lrng1, e_lrng2, e_lrev, e_trev, e_dix, e_dg1, e_dg2, e_dsd, e_dpop, e_din, wEs, wAndV, wOrV, wB, wAnd, wOr, wBs, wP, r_nm, r_tgT, r_tgQ, r_tgW, r_tgt, r_tgr, r_tgp, r_tgd, r_tgi, r_tgs, r_tgs0, wBin, wCmp,
  r_add_ii, r_add_ib, r_add_ss, r_add_tt, r_add_rr, r_sub_ii, r_mul_ii, r_mul_ri, r_mul_ti, r_div_ii, r_mod_ii, r_pow_ii, r_shl_ii, r_shr_ii, r_and_ii, r_xor_ii, r_int, r_is_n, r_is_b, r_tru_b, r_tru_i, r_tru_n, r_tru_t, r_tru_r, r_ix_t, r_ix_r, r_sl_t, r_sl_r, r_len_t, r_len_s, r_abs, r_min2, r_max2, r_int1, r_int1b, r_str1, r_list1, r_tuple1, r_tuple1t, r_tuple1p, r_len_p, r_sorted1t, r_ix_p, r_valD_p, r_ty_p, r_tindex, r_tyM_tindex, r_reverse, r_tyM_reverse, r_remove, r_tyM_remove, r_append, r_pop0, r_pop1, r_insert, r_extend, r_count, r_index, r_sum1, r_sorted1, r_tyM_pop1, r_tyM_insert, r_tyM_extend, r_tyM_count, r_tyM_index, r_fld, r_tgf, r_tyM_append, r_tyM_pop0, r_valD_t, r_valD_r, r_ty_n, r_ty_b, r_ty_i, r_ty_s, r_ty_t, r_is_non_int, r_is_non_bool, r_is_non_str, r_is_non_tuple, r_is_non_list, r_is_non_dict, r_is_bl_int, r_is_bl_bool, r_is_bl_str, r_is_bl_tuple, r_is_bl_list, r_is_bl_dict, r_is_int_int, r_is_int_bool, r_is_int_str, r_is_int_tuple, r_is_int_list, r_is_int_dict, r_is_str_int, r_is_str_bool, r_is_str_str, r_is_str_tuple, r_is_str_list, r_is_str_dict, r_is_ptup_int, r_is_ptup_bool, r_is_ptup_str, r_is_ptup_tuple, r_is_ptup_list, r_is_ptup_dict, r_is_tup_int, r_is_tup_bool, r_is_tup_str, r_is_tup_tuple, r_is_tup_list, r_is_tup_dict, isNon, r_W0, r_W1, r_T0, r_T1, r_T2, r_Q0, r_Q1, r_at0, r_at1, r_at2, r_at3, r_at4, r_at5, r_eq_ii, r_eq_bb,
  List.getElem?_cons_zero, List.getElem?_cons_succ, List.set_cons_zero, List.set_cons_succ, setAll, Option.some.injEq, Val.int.injEq, Val.bl.injEq, Val.tup.injEq, Val.ref.injEq, exists_eq_left', exists_eq_left, exists_eq_right, Bool.false_eq_true, if_true, if_false, List.isEmpty_nil, List.isEmpty_cons, true_and, and_true, ↓reduceIte, List.length_cons, List.length_nil, startL, List.map_cons, List.map_nil, Bool.not_true, Bool.not_false, Nat.reduceAdd, Nat.reduceSub, List.replicate, List.cons_append, List.nil_append, reduceCtorEq, false_and, exists_false, List.cons.injEq, Bool.false_xor, Bool.true_xor, wipeL, Int.reduceNeg, Int.cast_ofNat_Int, decide_true, decide_false, Int.reduceEq, decide_eq_true_eq, r_nd, r_sl0, r_sl1, r_sl2, r_sl3, r_sl4, r_sl5, r_sl6, r_sl7, r_sl8, r_sl9, r_sl10, r_sl11, r_sl12, r_sl13, r_sl14, r_sl15, r_sl16, r_sl17, r_sl18, r_sl19, r_sl20, r_sl21, r_sl22, r_sl23, r_sl24, decide_eq_false_iff_not, not_true_eq_false, not_false_eq_true, Int.not_lt, Int.not_le])
def crossB (bits : List Int) (t : Tie) : Bool := !decide (bits.getD t.a 0 = bits.getD t.b 0)
theorem getD_of {α : Type} {xs : List α} {i : Nat} {d : α} (h : i < xs.length) : xs[i]? = some (xs.getD i d) := by
  rw [List.getD_eq_getElem?_getD, List.getElem?_eq_getElem h]; rfl
theorem at_bits {bits : List Int} {i : Nat} (h : i < bits.length) : atI (vI bits) (i : Int) = some (.int (bits.getD i 0)) := at_map (getD_of h)
def cutS (bits : List Int) (ts : List Tie) : Rat := qs (wts (ts.filter (crossB bits)))
end M

set_option maxHeartbeats 1000000
namespace M
open PySem PySem.Spec L2
local macro_rules | `(tactic| simp_wf) => `(tactic| simp only [wCs, w_asg, w_par, w_aug, w_ex, w_ret, w_retN, w_ite, w_brk, w_cnt, w_pass, w_rais, e_v, e_int, e_bl, e_non, e_str, e_g, e_bin, e_neg, e_cmp, e_chain, e_and, e_or, e_not, e_ife, e_tup, e_lst, e_ix, e_sl, e_rev, e_fld, e_call, e_new, e_meth, e_blt, e_mth, e_isi, e_isiT, e_dK0, e_dT0, e_repr, e_ktup, e_lrng1, e_lrng2, e_lrev, e_trev, e_dix, e_dg1, e_dg2, e_dsd, e_dpop, e_din, wEs, wAndV, wOrV, wB, wAnd, wOr, wBs, wP, r_nm, r_tgT, r_tgQ, r_tgW, r_tgt, r_tgr, r_tgp, r_tgd, r_tgi, r_tgs, r_tgs0, wBin, wCmp,
  r_add_ii, r_add_ib, r_add_ss, r_add_tt, r_add_rr, r_sub_ii, r_mul_ii, r_mul_ri, r_mul_ti, r_div_ii, r_mod_ii, r_pow_ii, r_shl_ii, r_shr_ii, r_and_ii, r_xor_ii, r_int, r_is_n, r_is_b, r_tru_b, r_tru_i, r_tru_n, r_tru_t, r_tru_r, r_ix_t, r_ix_r, r_sl_t, r_sl_r, r_len_t, r_len_s, r_abs, r_min2, r_max2, r_int1, r_int1b, r_str1, r_list1, r_tuple1, r_tuple1t, r_tuple1p, r_len_p, r_sorted1t, r_ix_p, r_valD_p, r_ty_p, r_tindex, r_tyM_tindex, r_reverse, r_tyM_reverse, r_remove, r_tyM_remove, r_append, r_pop0, r_pop1, r_insert, r_extend, r_count, r_index, r_sum1, r_sorted1, r_tyM_pop1, r_tyM_insert, r_tyM_extend, r_tyM_count, r_tyM_index, r_fld, r_tgf, r_tyM_append, r_tyM_pop0, r_valD_t, r_valD_r, r_ty_n, r_ty_b, r_ty_i, r_ty_s, r_ty_t, r_is_non_int, r_is_non_bool, r_is_non_str, r_is_non_tuple, r_is_non_list, r_is_non_dict, r_is_bl_int, r_is_bl_bool, r_is_bl_str, r_is_bl_tuple, r_is_bl_list, r_is_bl_dict, r_is_int_int, r_is_int_bool, r_is_int_str, r_is_int_tuple, r_is_int_list, r_is_int_dict, r_is_str_int, r_is_str_bool, r_is_str_str, r_is_str_tuple, r_is_str_list, r_is_str_dict, r_is_ptup_int, r_is_ptup_bool, r_is_ptup_str, r_is_ptup_tuple, r_is_ptup_list, r_is_ptup_dict, r_is_tup_int, r_is_tup_bool, r_is_tup_str, r_is_tup_tuple, r_is_tup_list, r_is_tup_dict, isNon, r_W0, r_W1, r_T0, r_T1, r_T2, r_Q0, r_Q1, r_at0, r_at1, r_at2, r_at3, r_at4, r_at5, r_eq_ii, r_eq_bb,
  List.getElem?_cons_zero, List.getElem?_cons_succ, List.set_cons_zero, List.set_cons_succ, setAll, Option.some.injEq, Val.int.injEq, Val.bl.injEq, Val.tup.injEq, Val.ref.injEq, exists_eq_left', exists_eq_left, exists_eq_right, Bool.false_eq_true, if_true, if_false, List.isEmpty_nil, List.isEmpty_cons, true_and, and_true, ↓reduceIte, List.length_cons, List.length_nil, startL, List.map_cons, List.map_nil, Bool.not_true, Bool.not_false, Nat.reduceAdd, Nat.reduceSub, List.replicate, List.cons_append, List.nil_append, reduceCtorEq, false_and, exists_false, List.cons.injEq, Bool.false_xor, Bool.true_xor, wipeL, Int.reduceNeg, Int.cast_ofNat_Int, decide_true, decide_false, Int.reduceEq, decide_eq_true_eq, r_nd, r_sl0, r_sl1, r_sl2, r_sl3, r_sl4, r_sl5, r_sl6, r_sl7, r_sl8, r_sl9, r_sl10, r_sl11, r_sl12, r_sl13, r_sl14, r_sl15, r_sl16, r_sl17, r_sl18, r_sl19, r_sl20, r_sl21, r_sl22, r_sl23, r_sl24, decide_eq_false_iff_not, not_true_eq_false, not_false_eq_true, Int.not_lt, Int.not_le])
/-- rising pairs -/
def ltP (t u : Tie) : Prop := t.a < u.a ∨ (t.a = u.a ∧ t.b < u.b)
def Srt (ts : List Tie) : Prop := ts.Pairwise ltP
theorem Srt.snoc {ts : List Tie} {t : Tie} (h : Srt ts) (l : ∀ u ∈ ts, ltP u t) : Srt (ts ++ [t]) := by
  unfold Srt
  rw [List.pairwise_append]
  exact ⟨h, List.pairwise_singleton _ _, fun a ha b hb => by simp only [List.mem_singleton] at hb; subst hb; exact l a ha⟩
/-- sums of a list of fractions -/
def SumOk (rs : List Rat) : Prop := (∀ r ∈ rs, SzQ 4000 4000 r) ∧ ∀ j, SzQ 4000 4000 (qs (rs.take j))
theorem SzQ.dd {r s : Rat} (h : SzQ 4000 4000 r) (h' : SzQ 4000 4000 s) : Sz 9000 ((r.den : Int) * s.den) := (h.dsz.mul h'.dsz).mono (by decide)
theorem SumOk.of {rs : List Rat} {k : Nat} (h : ∀ r ∈ rs, SzQ 30 10 r) (hl : rs.length ≤ k) (hk : k ≤ 350) : SumOk rs := by
  refine ⟨fun r hr => (h r hr).mono (by decide) (by decide), fun j => ?_⟩
  refine (qs_sz (k := k) (fun r hr => h r (List.mem_of_mem_take hr)) (by rw [List.length_take]; omega)).mono (by omega) (by omega)
end M

set_option maxHeartbeats 1000000
namespace M
open PySem PySem.Spec L2
local macro_rules | `(tactic| simp_wf) => `(tactic| simp only [wCs, w_asg, w_par, w_aug, w_ex, w_ret, w_retN, w_ite, w_brk, w_cnt, w_pass, w_rais, e_v, e_int, e_bl, e_non, e_str, e_g, e_bin, e_neg, e_cmp, e_chain, e_and, e_or, e_not, e_ife, e_tup, e_lst, e_ix, e_sl, e_rev, e_fld, e_call, e_new, e_meth, e_blt, e_mth, e_isi, e_isiT, e_dK0, e_dT0, e_repr, e_ktup, e_lrng1, e_lrng2, e_lrev, e_trev, e_dix, e_dg1, e_dg2, e_dsd, e_dpop, e_din, wEs, wAndV, wOrV, wB, wAnd, wOr, wBs, wP, r_nm, r_tgT, r_tgQ, r_tgW, r_tgt, r_tgr, r_tgp, r_tgd, r_tgi, r_tgs, r_tgs0, wBin, wCmp,
  r_add_ii, r_add_ib, r_add_ss, r_add_tt, r_add_rr, r_sub_ii, r_mul_ii, r_mul_ri, r_mul_ti, r_div_ii, r_mod_ii, r_pow_ii, r_shl_ii, r_shr_ii, r_and_ii, r_xor_ii, r_int, r_is_n, r_is_b, r_tru_b, r_tru_i, r_tru_n, r_tru_t, r_tru_r, r_ix_t, r_ix_r, r_sl_t, r_sl_r, r_len_t, r_len_s, r_abs, r_min2, r_max2, r_int1, r_int1b, r_str1, r_list1, r_tuple1, r_tuple1t, r_tuple1p, r_len_p, r_sorted1t, r_ix_p, r_valD_p, r_ty_p, r_tindex, r_tyM_tindex, r_reverse, r_tyM_reverse, r_remove, r_tyM_remove, r_append, r_pop0, r_pop1, r_insert, r_extend, r_count, r_index, r_sum1, r_sorted1, r_tyM_pop1, r_tyM_insert, r_tyM_extend, r_tyM_count, r_tyM_index, r_fld, r_tgf, r_tyM_append, r_tyM_pop0, r_valD_t, r_valD_r, r_ty_n, r_ty_b, r_ty_i, r_ty_s, r_ty_t, r_is_non_int, r_is_non_bool, r_is_non_str, r_is_non_tuple, r_is_non_list, r_is_non_dict, r_is_bl_int, r_is_bl_bool, r_is_bl_str, r_is_bl_tuple, r_is_bl_list, r_is_bl_dict, r_is_int_int, r_is_int_bool, r_is_int_str, r_is_int_tuple, r_is_int_list, r_is_int_dict, r_is_str_int, r_is_str_bool, r_is_str_str, r_is_str_tuple, r_is_str_list, r_is_str_dict, r_is_ptup_int, r_is_ptup_bool, r_is_ptup_str, r_is_ptup_tuple, r_is_ptup_list, r_is_ptup_dict, r_is_tup_int, r_is_tup_bool, r_is_tup_str, r_is_tup_tuple, r_is_tup_list, r_is_tup_dict, isNon, r_W0, r_W1, r_T0, r_T1, r_T2, r_Q0, r_Q1, r_at0, r_at1, r_at2, r_at3, r_at4, r_at5, r_eq_ii, r_eq_bb,
  List.getElem?_cons_zero, List.getElem?_cons_succ, List.set_cons_zero, List.set_cons_succ, setAll, Option.some.injEq, Val.int.injEq, Val.bl.injEq, Val.tup.injEq, Val.ref.injEq, exists_eq_left', exists_eq_left, exists_eq_right, Bool.false_eq_true, if_true, if_false, List.isEmpty_nil, List.isEmpty_cons, true_and, and_true, ↓reduceIte, List.length_cons, List.length_nil, startL, List.map_cons, List.map_nil, Bool.not_true, Bool.not_false, Nat.reduceAdd, Nat.reduceSub, List.replicate, List.cons_append, List.nil_append, reduceCtorEq, false_and, exists_false, List.cons.injEq, Bool.false_xor, Bool.true_xor, wipeL, Int.reduceNeg, Int.cast_ofNat_Int, decide_true, decide_false, Int.reduceEq, decide_eq_true_eq, r_nd, r_sl0, r_sl1, r_sl2, r_sl3, r_sl4, r_sl5, r_sl6, r_sl7, r_sl8, r_sl9, r_sl10, r_sl11, r_sl12, r_sl13, r_sl14, r_sl15, r_sl16, r_sl17, r_sl18, r_sl19, r_sl20, r_sl21, r_sl22, r_sl23, r_sl24, decide_eq_false_iff_not, not_true_eq_false, not_false_eq_true, Int.not_lt, Int.not_le])
def isIn (ps : List Int) (i : Int) : Bool := ps.any fun z => decide (z = i)
/-- points: a tuple or a list -/
def PtsV (S : Sto) (v : Val) (ps : List Int) : Prop := v = .tup (vI ps) ∨ ∃ a, v = .ref a ∧ S a = some (.lst (vI ps))
theorem PtsV.upd {S : Sto} {v : Val} {ps : List Int} {q : Addr} {o : MO} (h : PtsV S v ps) (hq : S q = none) : PtsV (S.upd q o) v ps := by
  rcases h with h | ⟨a, h, h2⟩
  · exact .inl h
  · exact .inr ⟨a, h, Sto.old h2 hq⟩
theorem PtsV.le {S T : Sto} {v : Val} {ps : List Int} (h : PtsV S v ps) (l : S.le T) : PtsV T v ps := by
  rcases h with h | ⟨a, h, h2⟩
  · exact .inl h
  · exact .inr ⟨a, h, l _ _ h2⟩
theorem any_int (ps : List Int) (i : Int) : ((ps.map PyData.int).any fun z => PyData.eqv z (.int i)) = isIn ps i := by
  unfold isIn
  rw [List.any_map]
  refine congrArg (List.any ps) (funext fun z => ?_)
  show PyData.eqv (.int z) (.int i) = decide (z = i)
  have := eqv_iff (.int z) (.int i) rfl rfl
  simp only [toD, Val.int.injEq] at this
  by_cases e : z = i
  · rw [decide_eq_true e]; exact this.mpr e
  · rw [decide_eq_false e]
    cases q : PyData.eqv (.int z) (.int i)
    · rfl
    · exact absurd (this.mp q) e
section
variable {G : Gam} {X : XPost} {ρ : Loc} {S : Sto} {a b : E} {t : T} {own : List (Str × Nat)} {ifs : List B} {e : E} {Q : Post} {α : Type}
/-- a turn that keeps g x if p x -/
def TurnF (G : Gam) (own : List (Str × Nat)) (t : T) (ifs : List B) (e : E) (ρ : Loc) (S : Sto) (v : Val) (p : Bool) (w : Val) : Prop := ∀ R : Option Val → Sto → Prop, (p = true → R (some w) S) → (p = false → R none S) →
  wTg G noX t v (wipeL ρ (own.map (·.2))) S fun ρ' S3 => wBs G noX ifs ρ' S3 fun k S4 => if k = true then wE G noX e ρ' S4 fun v S5 => R (some v) S5 else R none S4
theorem fm_snoc {xs : List α} {p : α → Bool} {g : α → Val} {j : Nat} {x : α} (h : xs[j]? = some x) : (((xs.take (j + 1)).filter p).map g) = ((xs.take j).filter p).map g ++ if p x = true then [g x] else [] := by
  rw [take_snoc h, List.filter_append, List.map_append]
  cases hp : p x <;> simp [List.filter_cons, hp]
theorem turn_fm {xs : List α} {p : α → Bool} {g : α → Val} {j : Nat} {x : α} {v : Val} {acc : List Val} {T : Sto} (hx : xs[j]? = some x) (ht : TurnF G own t ifs e ρ S v (p x) (g x)) (hT : T = S ∧ acc = ((xs.take j).filter p).map g) :
    CTurnAt G (own.map (·.2)) t ifs e ρ v j acc T (fun j acc T => T = S ∧ acc = ((xs.take j).filter p).map g) := by
  obtain ⟨rfl, rfl⟩ := hT
  intro R r0 r1
  refine ht R (fun h => r1 _ _ ⟨rfl, ?_⟩) (fun h => r0 _ ⟨rfl, ?_⟩)
  · rw [fm_snoc hx, h, if_pos rfl]
  · rw [fm_snoc hx, h]; simp
theorem fml_len {xs : List α} {p : α → Bool} {g : α → Val} {j : Nat} : (((xs.take j).filter p).map g).length ≤ j := by
  rw [List.length_map]
  exact Nat.le_trans (List.length_filter_le _ _) (by rw [List.length_take]; omega)
theorem lc_list_fm {xs : List α} {f : α → Val} {l : Addr} (p : α → Bool) (g : α → Val) (ha : ∀ Q : Post, Q (.ref l) S → wE G X a ρ S Q) (hr : rdL S l (xs.map f)) (hn : xs.length ≤ 2 ^ 20)
    (hst : ∀ x ∈ xs, TurnF G own t ifs e ρ S (f x) (p x) (g x)) (hq : ∀ q, S q = none → Q (.ref q) (S.upd q (.lst ((xs.filter p).map g)))) : wE G X (.lc own t (.val a) ifs e) ρ S Q := by
  refine lc_list_ix (S1 := S) (q := l) (fun j acc T => T = S ∧ acc = ((xs.take j).filter p).map g) ha hr (fun j acc T z => by rw [z.1]; exact hr) hn (fun j acc T z => by rw [z.2]; exact fml_len) ⟨rfl, rfl⟩ ?_ fun j x acc T hx z => turn_fm hx (hst x (mem_of_get hx)) z
  rintro acc T ⟨rfl, rfl⟩ q hq'
  rw [List.take_length]; exact hq q hq'
theorem range_at {n j : Nat} (h : j < n) : (List.range n)[j]? = some j := List.getElem?_range h
theorem lc_rng1_fm {n : Nat} (p : Nat → Bool) (g : Nat → Val) (ha : ∀ Q : Post, Q (.int n) S → wE G X a ρ S Q) (hn : n ≤ 2 ^ 20)
    (hst : ∀ j, j < n → TurnF G own t ifs e ρ S (.int j) (p j) (g j)) (hq : ∀ q, S q = none → Q (.ref q) (S.upd q (.lst (((List.range n).filter p).map g)))) : wE G X (.lc own t (.rng1 a) ifs e) ρ S Q := by
  refine lc_rng1_ix (n := n) (S1 := S) (fun j acc T => T = S ∧ acc = (((List.range n).take j).filter p).map g) ha hn (fun j acc T z => by rw [z.2]; exact fml_len) ⟨rfl, rfl⟩ ?_ fun j acc T hj z => turn_fm (range_at hj) (hst j hj) z
  rintro acc T ⟨rfl, rfl⟩ q hq'
  rw [List.take_of_length_le (by simp)]; exact hq q hq'
end
theorem loop_rng1_K {G : Gam} {D : En} {ρ : Loc} {S : Sto} {a : E} {t : T} {p : List C}
    (h : ∀ K : Post, (∀ (n : Nat) (S1 : Sto) (J : Nat → Loc → Sto → Prop), n ≤ 2 ^ 60 → J 0 ρ S1 → (∀ ρ S, J n ρ S → D.nx ρ S) → TurnIx G t p D n (fun j => .int j) J → K (.int n) S1) → wE G (fun c S => D.xc c ρ S) a ρ S K) : wC G (.loop t (.rng1 a) p) D ρ S := by
  simp only [wC, wI]
  refine h _ fun n S1 J hn h0 hend hst => ⟨n, rfl, by unfold small62; omega, ?_⟩
  have hl : (rngV 0 n).length = n := rngV_len
  have key := loop_rng1_ix (G := G) (a := .int n) (D := D) (t := t) (p := p) (ρ := ρ) (S := S1) (S1 := S1) J (fun Q q => by simp only [wE]; exact q) hn h0 hend hst
  simp only [wC, wI, wE] at key
  obtain ⟨j, ej, _, hk⟩ := key
  cases ej
  exact hk
/-- k in a list of ints -/
theorem in_ints {S : Sto} {p : Addr} {ps : List Int} {n : Bool} {i : Int} {Q : Post} (h : rdL S p (vI ps)) (hq : Q (.bl (n ^^ isIn ps i)) S) : cIn n (.int i) (.ref p) S Q := by
  refine ⟨_, _, _, h, .int i, Dv_ints ps, rfl, shaped_ints ps, ?_⟩
  rw [any_int]; exact hq
theorem isIn_iff {ps : List Int} {i : Int} : isIn ps i = true ↔ i ∈ ps := by unfold isIn; simp
/-- what the list p shows, as long as nothing else is changed -/
theorem Sto.upd_at {S : Sto} {p q : Addr} {o u : MO} (h : S p = some o) (e : p ≠ q) : (S.upd q u) p = some o := by rw [Sto.upd_ne e]; exact h
theorem cut_vI {ns : List Int} {lo hi : Option Int} : M.cut (vI ns) lo hi = vI ((ns.drop (HT.sIx ns.length 0 lo)).take (HT.sIx ns.length ns.length hi - HT.sIx ns.length 0 lo)) := by
  unfold M.cut vI
  rw [List.length_map, List.map_take, List.map_drop]
theorem cut_any (ns : List Int) (lo hi : Option Int) : ∃ ms, M.cut (vI ns) lo hi = vI ms ∧ ms.length ≤ ns.length := ⟨_, cut_vI, by rw [List.length_take, List.length_drop]; omega⟩
/-- from S0 on, e gives a list of at most m ints and leaves all that stands -/
def GL (G : Gam) (X : XPost) (ρ : Loc) (S0 : Sto) (m : Nat) (e : E) : Prop := ∀ (S : Sto) (Q : Post), S0.le S → (∀ (T : Sto) (p : Addr) (ns : List Int), S.le T → T p = some (.lst (vI ns)) → ns.length ≤ m → Q (.ref p) T) → wE G X e ρ S Q
/-- the same for some int -/
def GI (G : Gam) (X : XPost) (ρ : Loc) (S0 : Sto) (e : E) : Prop := ∀ (S : Sto) (Q : Post), S0.le S → (∀ i : Int, Q (.int i) S) → wE G X e ρ S Q
section
variable {G : Gam} {X : XPost} {ρ : Loc} {S0 : Sto} {m k : Nat} {a b : E}
theorem GL.v {i : Nat} {p : Addr} {ns : List Int} (h : ρ[i]? = some (some (.ref p))) (hp : S0 p = some (.lst (vI ns))) (hn : ns.length ≤ m) : GL G X ρ S0 m (.v i) := fun S Q l q => by
  rw [e_v]
  exact ⟨_, h, q S p ns .refl (l p _ hp) hn⟩
theorem GL.mono (h : GL G X ρ S0 m a) (hk : m ≤ k) : GL G X ρ S0 k a := fun S Q l q => h S Q l fun T p ns lT hT hn => q T p ns lT hT (Nat.le_trans hn hk)
theorem GL.sl {lo hi : P} (h : GL G X ρ S0 m a) (hl : ∀ (S : Sto) (R : Option Int → Sto → Prop), (∀ o, R o S) → wP G X lo ρ S R) (hh : ∀ (S : Sto) (R : Option Int → Sto → Prop), (∀ o, R o S) → wP G X hi ρ S R) : GL G X ρ S0 m (.sl a lo hi) := fun S Q l q => by
  rw [e_sl]
  refine h S _ l fun T p ns lT hT hn => ?_
  refine hl T _ fun o1 => hh T _ fun o2 => ?_
  rw [r_sl_r]
  refine ⟨_, .lst hT, fun u hu => ?_⟩
  obtain ⟨ms, e, hm⟩ := cut_any ns o1 o2
  rw [e]
  exact q _ u ms (Sto.le.new lT hu) Sto.upd_same (Nat.le_trans hm hn)
theorem GL.rev (h : GL G X ρ S0 m a) : GL G X ρ S0 m (.rev a) := fun S Q l q => by
  rw [e_rev]
  refine h S _ l fun T p ns lT hT hn => ⟨_, _, rfl, .lst hT, fun u hu => q _ u ns.reverse (Sto.le.new lT hu) ?_ (by simpa using hn)⟩
  rw [Sto.upd_same]; unfold vI; rw [List.map_reverse]
theorem GL.add (h : GL G X ρ S0 m a) (h' : GL G X ρ S0 k b) (hmk : m + k ≤ 1000) : GL G X ρ S0 (m + k) (.bin .Add a b) := fun S Q l q => by
  rw [e_bin]
  refine h S _ l fun T p ns lT hT hn => ?_
  refine h' T _ (l.trans lT) fun T' p' ns' lT' hT' hn' => ?_
  simp only [wBin]
  rw [r_add_rr]
  refine ⟨_, _, lT' p _ hT, hT', ?_, fun u hu => q _ u (ns ++ ns') (Sto.le.new (lT.trans lT') hu) ?_ (by rw [List.length_append]; omega)⟩
  · rw [vI_len, vI_len]
    exact Nat.le_trans (show _ ≤ 1000 by omega) (by decide)
  · rw [Sto.upd_same]; unfold vI; rw [List.map_append]
theorem GL.one (h : GI G X ρ S0 a) : GL G X ρ S0 1 (.lst [a]) := fun S Q l q => by
  rw [e_lst]
  simp only [wEs]
  refine h S _ l fun i => ⟨(show 1 ≤ sizeLine by decide), fun u hu => q _ u [i] (Sto.le.new .refl hu) Sto.upd_same (Nat.le_refl _)⟩
theorem GL.srt (h : GL G X ρ S0 m a) : GL G X ρ S0 m (.blt .sorted1 [a]) := fun S Q l q => by
  rw [e_blt]
  simp only [wEs]
  refine h S _ l fun T p ns lT hT hn => ?_
  rw [r_sorted1]
  exact ⟨ns, .lst hT, fun ns' pm _ u hu => q _ u ns' (Sto.le.new lT hu) Sto.upd_same (by rw [pm.length_eq]; exact hn)⟩
/-- several at once -/
theorem GL.all : ∀ {es : List E}, (∀ e ∈ es, GL G X ρ S0 m e) → ∀ (S : Sto) (Q : List Val → Sto → Prop), S0.le S → (∀ (T : Sto) (vs : List Val), S.le T → vs.length = es.length → (∀ v ∈ vs, ∃ p ns, v = .ref p ∧ T p = some (.lst (vI ns)) ∧ ns.length ≤ m) → Q vs T) → wEs G X es ρ S Q
  | [], _, S, Q, l, q => q S [] .refl rfl fun _ h => by cases h
  | e :: es, h, S, Q, l, q => by
    simp only [wEs]
    refine h e List.mem_cons_self S _ l fun T p ns lT hT hn => ?_
    refine GL.all (fun e' he => h e' (List.mem_cons_of_mem _ he)) T _ (l.trans lT) fun T' vs lT' hl hv => q T' _ (lT.trans lT') (by simp [hl]) fun v hv' => ?_
    rcases List.mem_cons.mp hv' with rfl | hv'
    · exact ⟨p, ns, rfl, lT' p _ hT, hn⟩
    · exact hv v hv'
end
end M

set_option maxHeartbeats 1000000
namespace M
open PySem PySem.Spec L2
local macro_rules | `(tactic| simp_wf) => `(tactic| simp only [wCs, w_asg, w_par, w_aug, w_ex, w_ret, w_retN, w_ite, w_brk, w_cnt, w_pass, w_rais, e_v, e_int, e_bl, e_non, e_str, e_g, e_bin, e_neg, e_cmp, e_chain, e_and, e_or, e_not, e_ife, e_tup, e_lst, e_ix, e_sl, e_rev, e_fld, e_call, e_new, e_meth, e_blt, e_mth, e_isi, e_isiT, e_dK0, e_dT0, e_repr, e_ktup, e_lrng1, e_lrng2, e_lrev, e_trev, e_dix, e_dg1, e_dg2, e_dsd, e_dpop, e_din, wEs, wAndV, wOrV, wB, wAnd, wOr, wBs, wP, r_nm, r_tgT, r_tgQ, r_tgW, r_tgt, r_tgr, r_tgp, r_tgd, r_tgi, r_tgs, r_tgs0, wBin, wCmp,
  r_add_ii, r_add_ib, r_add_ss, r_add_tt, r_add_rr, r_sub_ii, r_mul_ii, r_mul_ri, r_mul_ti, r_div_ii, r_mod_ii, r_pow_ii, r_shl_ii, r_shr_ii, r_and_ii, r_xor_ii, r_int, r_is_n, r_is_b, r_tru_b, r_tru_i, r_tru_n, r_tru_t, r_tru_r, r_ix_t, r_ix_r, r_sl_t, r_sl_r, r_len_t, r_len_s, r_abs, r_min2, r_max2, r_int1, r_int1b, r_str1, r_list1, r_tuple1, r_tuple1t, r_tuple1p, r_len_p, r_sorted1t, r_ix_p, r_valD_p, r_ty_p, r_tindex, r_tyM_tindex, r_reverse, r_tyM_reverse, r_remove, r_tyM_remove, r_append, r_pop0, r_pop1, r_insert, r_extend, r_count, r_index, r_sum1, r_sorted1, r_tyM_pop1, r_tyM_insert, r_tyM_extend, r_tyM_count, r_tyM_index, r_fld, r_tgf, r_tyM_append, r_tyM_pop0, r_valD_t, r_valD_r, r_ty_n, r_ty_b, r_ty_i, r_ty_s, r_ty_t, r_is_non_int, r_is_non_bool, r_is_non_str, r_is_non_tuple, r_is_non_list, r_is_non_dict, r_is_bl_int, r_is_bl_bool, r_is_bl_str, r_is_bl_tuple, r_is_bl_list, r_is_bl_dict, r_is_int_int, r_is_int_bool, r_is_int_str, r_is_int_tuple, r_is_int_list, r_is_int_dict, r_is_str_int, r_is_str_bool, r_is_str_str, r_is_str_tuple, r_is_str_list, r_is_str_dict, r_is_ptup_int, r_is_ptup_bool, r_is_ptup_str, r_is_ptup_tuple, r_is_ptup_list, r_is_ptup_dict, r_is_tup_int, r_is_tup_bool, r_is_tup_str, r_is_tup_tuple, r_is_tup_list, r_is_tup_dict, isNon, r_W0, r_W1, r_T0, r_T1, r_T2, r_Q0, r_Q1, r_at0, r_at1, r_at2, r_at3, r_at4, r_at5, r_eq_ii, r_eq_bb,
  List.getElem?_cons_zero, List.getElem?_cons_succ, List.set_cons_zero, List.set_cons_succ, setAll, Option.some.injEq, Val.int.injEq, Val.bl.injEq, Val.tup.injEq, Val.ref.injEq, exists_eq_left', exists_eq_left, exists_eq_right, Bool.false_eq_true, if_true, if_false, List.isEmpty_nil, List.isEmpty_cons, true_and, and_true, ↓reduceIte, List.length_cons, List.length_nil, startL, List.map_cons, List.map_nil, Bool.not_true, Bool.not_false, Nat.reduceAdd, Nat.reduceSub, List.replicate, List.cons_append, List.nil_append, reduceCtorEq, false_and, exists_false, List.cons.injEq, Bool.false_xor, Bool.true_xor, wipeL, Int.reduceNeg, Int.cast_ofNat_Int, decide_true, decide_false, Int.reduceEq, decide_eq_true_eq, r_nd, r_sl0, r_sl1, r_sl2, r_sl3, r_sl4, r_sl5, r_sl6, r_sl7, r_sl8, r_sl9, r_sl10, r_sl11, r_sl12, r_sl13, r_sl14, r_sl15, r_sl16, r_sl17, r_sl18, r_sl19, r_sl20, r_sl21, r_sl22, r_sl23, r_sl24, decide_eq_false_iff_not, not_true_eq_false, not_false_eq_true, Int.not_lt, Int.not_le])
/-- a table of counts -/
structure Cnt (ns : List Int) (kvs : List (Key × Val)) : Prop where
  key : ∀ p ∈ kvs, ∃ i, p.1 = .inl i ∧ i ∈ ns
  val : ∀ i : Int, vlK kvs (.inl i) = if ns.count i = 0 then none else some (.int (ns.count i : Nat))
  len : kvs.length ≤ ns.length
theorem vlK_map {κ : Type} [DecidableEq κ] (kvs : List (κ × Val)) (k j : κ) (y : Val) : vlK (kvs.map fun kv => if kv.1 = k then (kv.1, y) else kv) j = (vlK kvs j).map fun x => if j = k then y else x := by
  induction kvs with
  | nil => rfl
  | cons p r ih =>
    unfold vlK at ih ⊢
    rw [List.map_cons, List.find?_cons, List.find?_cons]
    by_cases e : p.1 = k
    · rw [if_pos e]
      by_cases f : p.1 = j
      · simp [f, ← e]
      · simp only [f, decide_false]; exact ih
    · rw [if_neg e]
      by_cases f : p.1 = j
      · have : ¬ j = k := fun z => e (f.trans z)
        simp [f, this]
      · simp only [f, decide_false]; exact ih
theorem vlK_snoc {κ : Type} [DecidableEq κ] (kvs : List (κ × Val)) (k j : κ) (y : Val) (h : vlK kvs k = none) : vlK (kvs ++ [(k, y)]) j = if j = k then some y else vlK kvs j := by
  induction kvs with
  | nil =>
    unfold vlK
    by_cases e : j = k
    · subst e; simp
    · have : ¬ k = j := fun z => e z.symm
      simp [this, e]
  | cons p r ih =>
    unfold vlK at ih h ⊢
    rw [List.cons_append, List.find?_cons]
    rw [List.find?_cons] at h ⊢
    by_cases e : p.1 = k
    · simp [e] at h
    · simp only [e, decide_false] at h
      by_cases f : p.1 = j
      · have : ¬ j = k := fun z => e (f.trans z)
        simp [f, this]
      · simp only [f, decide_false]; exact ih h
theorem vlK_any {κ : Type} [DecidableEq κ] (kvs : List (κ × Val)) (k : κ) : (kvs.any fun kv => decide (kv.1 = k)) = (vlK kvs k).isSome := by
  induction kvs with
  | nil => rfl
  | cons p r ih =>
    unfold vlK at ih ⊢
    rw [List.any_cons, List.find?_cons]
    by_cases e : p.1 = k
    · simp [e]
    · simp only [e, decide_false, Bool.false_or]; exact ih
theorem vlK_put {κ : Type} [DecidableEq κ] (kvs : List (κ × Val)) (k j : κ) (y : Val) : vlK (ptK kvs k y) j = if j = k then some y else vlK kvs j := by
  unfold ptK
  rw [vlK_any]
  split
  · rename_i a
    rw [vlK_map]
    by_cases e : j = k
    · subst e
      obtain ⟨x, hx⟩ := Option.isSome_iff_exists.mp a
      simp [hx]
    · rw [if_neg e]
      cases vlK kvs j <;> simp [e]
  · rename_i a
    exact vlK_snoc kvs k j y (by simpa using a)
theorem ptK_len {κ : Type} [DecidableEq κ] (kvs : List (κ × Val)) (k : κ) (y : Val) : (ptK kvs k y).length ≤ kvs.length + 1 := by
  unfold ptK
  split
  · rw [List.length_map]; omega
  · simp
theorem ptK_mem {κ : Type} [DecidableEq κ] {kvs : List (κ × Val)} {k : κ} {y : Val} {p : κ × Val} (h : p ∈ ptK kvs k y) : p.1 = k ∨ ∃ q ∈ kvs, q.1 = p.1 := by
  unfold ptK at h
  split at h
  · obtain ⟨q, hq, rfl⟩ := List.mem_map.mp h
    split
    · rename_i e; exact .inl e
    · exact .inr ⟨q, hq, rfl⟩
  · rcases List.mem_append.mp h with h | h
    · exact .inr ⟨p, h, rfl⟩
    · rw [List.mem_singleton.mp h]; exact .inl rfl
theorem Cnt.nil : Cnt [] [] := ⟨(fun _ h => by cases h), fun i => rfl, Nat.le_refl _⟩
theorem Cnt.snoc {ns : List Int} {kvs : List (Key × Val)} {i : Int} (h : Cnt ns kvs) : Cnt (ns ++ [i]) (ptK kvs (.inl i) (.int (ns.count i + 1 : Nat))) := by
  refine ⟨fun p hp => ?_, fun j => ?_, ?_⟩
  · rcases ptK_mem hp with e | ⟨q, hq, e⟩
    · exact ⟨i, e, by simp⟩
    · obtain ⟨k, e2, hk⟩ := h.key q hq
      exact ⟨k, by rw [← e, e2], by simp [hk]⟩
  · rw [vlK_put]
    by_cases e : j = i
    · subst e
      rw [if_pos rfl, if_neg (by simp)]
      simp
    · rw [if_neg (by intro z; cases z; exact e rfl), h.val j]
      have : (ns ++ [i]).count j = ns.count j := by
        rw [List.count_append, List.count_singleton]
        have : (i == j) = false := by simp; exact fun z => e z.symm
        simp [this]
      rw [this]
  · refine Nat.le_trans (ptK_len _ _ _) ?_
    have := h.len
    simp; omega
theorem Cnt.get {ns : List Int} {kvs : List (Key × Val)} (h : Cnt ns kvs) (i : Int) : ((vlK kvs (.inl i)).getD (.int 0)) = .int (ns.count i : Nat) := by
  rw [h.val i]
  split
  · rename_i e; rw [e]; rfl
  · rfl
end M

set_option maxHeartbeats 1000000
namespace M
open PySem PySem.Spec L2
local macro_rules | `(tactic| simp_wf) => `(tactic| simp only [wCs, w_asg, w_par, w_aug, w_ex, w_ret, w_retN, w_ite, w_brk, w_cnt, w_pass, w_rais, e_v, e_int, e_bl, e_non, e_str, e_g, e_bin, e_neg, e_cmp, e_chain, e_and, e_or, e_not, e_ife, e_tup, e_lst, e_ix, e_sl, e_rev, e_fld, e_call, e_new, e_meth, e_blt, e_mth, e_isi, e_isiT, e_dK0, e_dT0, e_repr, e_ktup, e_lrng1, e_lrng2, e_lrev, e_trev, e_dix, e_dg1, e_dg2, e_dsd, e_dpop, e_din, wEs, wAndV, wOrV, wB, wAnd, wOr, wBs, wP, r_nm, r_tgT, r_tgQ, r_tgW, r_tgt, r_tgr, r_tgp, r_tgd, r_tgi, r_tgs, r_tgs0, wBin, wCmp,
  r_add_ii, r_add_ib, r_add_ss, r_add_tt, r_add_rr, r_sub_ii, r_mul_ii, r_mul_ri, r_mul_ti, r_div_ii, r_mod_ii, r_pow_ii, r_shl_ii, r_shr_ii, r_and_ii, r_xor_ii, r_int, r_is_n, r_is_b, r_tru_b, r_tru_i, r_tru_n, r_tru_t, r_tru_r, r_ix_t, r_ix_r, r_sl_t, r_sl_r, r_len_t, r_len_s, r_abs, r_min2, r_max2, r_int1, r_int1b, r_str1, r_list1, r_tuple1, r_tuple1t, r_tuple1p, r_len_p, r_sorted1t, r_ix_p, r_valD_p, r_ty_p, r_tindex, r_tyM_tindex, r_reverse, r_tyM_reverse, r_remove, r_tyM_remove, r_append, r_pop0, r_pop1, r_insert, r_extend, r_count, r_index, r_sum1, r_sorted1, r_tyM_pop1, r_tyM_insert, r_tyM_extend, r_tyM_count, r_tyM_index, r_fld, r_tgf, r_tyM_append, r_tyM_pop0, r_valD_t, r_valD_r, r_ty_n, r_ty_b, r_ty_i, r_ty_s, r_ty_t, r_is_non_int, r_is_non_bool, r_is_non_str, r_is_non_tuple, r_is_non_list, r_is_non_dict, r_is_bl_int, r_is_bl_bool, r_is_bl_str, r_is_bl_tuple, r_is_bl_list, r_is_bl_dict, r_is_int_int, r_is_int_bool, r_is_int_str, r_is_int_tuple, r_is_int_list, r_is_int_dict, r_is_str_int, r_is_str_bool, r_is_str_str, r_is_str_tuple, r_is_str_list, r_is_str_dict, r_is_ptup_int, r_is_ptup_bool, r_is_ptup_str, r_is_ptup_tuple, r_is_ptup_list, r_is_ptup_dict, r_is_tup_int, r_is_tup_bool, r_is_tup_str, r_is_tup_tuple, r_is_tup_list, r_is_tup_dict, isNon, r_W0, r_W1, r_T0, r_T1, r_T2, r_Q0, r_Q1, r_at0, r_at1, r_at2, r_at3, r_at4, r_at5, r_eq_ii, r_eq_bb,
  List.getElem?_cons_zero, List.getElem?_cons_succ, List.set_cons_zero, List.set_cons_succ, setAll, Option.some.injEq, Val.int.injEq, Val.bl.injEq, Val.tup.injEq, Val.ref.injEq, exists_eq_left', exists_eq_left, exists_eq_right, Bool.false_eq_true, if_true, if_false, List.isEmpty_nil, List.isEmpty_cons, true_and, and_true, ↓reduceIte, List.length_cons, List.length_nil, startL, List.map_cons, List.map_nil, Bool.not_true, Bool.not_false, Nat.reduceAdd, Nat.reduceSub, List.replicate, List.cons_append, List.nil_append, reduceCtorEq, false_and, exists_false, List.cons.injEq, Bool.false_xor, Bool.true_xor, wipeL, Int.reduceNeg, Int.cast_ofNat_Int, decide_true, decide_false, Int.reduceEq, decide_eq_true_eq, r_nd, r_sl0, r_sl1, r_sl2, r_sl3, r_sl4, r_sl5, r_sl6, r_sl7, r_sl8, r_sl9, r_sl10, r_sl11, r_sl12, r_sl13, r_sl14, r_sl15, r_sl16, r_sl17, r_sl18, r_sl19, r_sl20, r_sl21, r_sl22, r_sl23, r_sl24, decide_eq_false_iff_not, not_true_eq_false, not_false_eq_true, Int.not_lt, Int.not_le])
def spTruth : Spec
  | [.bl a, .bl b], S, Q, _ => Q (.bl (decide (a = b))) S
  | _, _, _, _ => False
def N_Ltruth : List Str := ["_law_found", "_law_due"]
def P_Ltruth : List Str := ["_law_found", "_law_due"]
def B_Ltruth : List C := [
  .ret (.and [.isi (.v 0) "bool", .cmp .Eq (.v 0) (.v 1)])]
theorem body_Ltruth {G : Gam} : Body G N_Ltruth P_Ltruth B_Ltruth spTruth := by
  intro vs S Q X h
  unfold spTruth at h
  split at h
  · refine ⟨rfl, ?_⟩
    simp only [N_Ltruth, B_Ltruth]
    simp_wf
    exact ⟨S, .refl, h⟩
  · exact h.elim
end M

set_option maxHeartbeats 1000000
namespace M
open PySem PySem.Spec L2
local macro_rules | `(tactic| simp_wf) => `(tactic| simp only [wCs, w_asg, w_par, w_aug, w_ex, w_ret, w_retN, w_ite, w_brk, w_cnt, w_pass, w_rais, e_v, e_int, e_bl, e_non, e_str, e_g, e_bin, e_neg, e_cmp, e_chain, e_and, e_or, e_not, e_ife, e_tup, e_lst, e_ix, e_sl, e_rev, e_fld, e_call, e_new, e_meth, e_blt, e_mth, e_isi, e_isiT, e_dK0, e_dT0, e_repr, e_ktup, e_lrng1, e_lrng2, e_lrev, e_trev, e_dix, e_dg1, e_dg2, e_dsd, e_dpop, e_din, wEs, wAndV, wOrV, wB, wAnd, wOr, wBs, wP, r_nm, r_tgT, r_tgQ, r_tgW, r_tgt, r_tgr, r_tgp, r_tgd, r_tgi, r_tgs, r_tgs0, wBin, wCmp,
  r_add_ii, r_add_ib, r_add_ss, r_add_tt, r_add_rr, r_sub_ii, r_mul_ii, r_mul_ri, r_mul_ti, r_div_ii, r_mod_ii, r_pow_ii, r_shl_ii, r_shr_ii, r_and_ii, r_xor_ii, r_int, r_is_n, r_is_b, r_tru_b, r_tru_i, r_tru_n, r_tru_t, r_tru_r, r_ix_t, r_ix_r, r_sl_t, r_sl_r, r_len_t, r_len_s, r_abs, r_min2, r_max2, r_int1, r_int1b, r_str1, r_list1, r_tuple1, r_tuple1t, r_tuple1p, r_len_p, r_sorted1t, r_ix_p, r_valD_p, r_ty_p, r_tindex, r_tyM_tindex, r_reverse, r_tyM_reverse, r_remove, r_tyM_remove, r_append, r_pop0, r_pop1, r_insert, r_extend, r_count, r_index, r_sum1, r_sorted1, r_tyM_pop1, r_tyM_insert, r_tyM_extend, r_tyM_count, r_tyM_index, r_fld, r_tgf, r_tyM_append, r_tyM_pop0, r_valD_t, r_valD_r, r_ty_n, r_ty_b, r_ty_i, r_ty_s, r_ty_t, r_is_non_int, r_is_non_bool, r_is_non_str, r_is_non_tuple, r_is_non_list, r_is_non_dict, r_is_bl_int, r_is_bl_bool, r_is_bl_str, r_is_bl_tuple, r_is_bl_list, r_is_bl_dict, r_is_int_int, r_is_int_bool, r_is_int_str, r_is_int_tuple, r_is_int_list, r_is_int_dict, r_is_str_int, r_is_str_bool, r_is_str_str, r_is_str_tuple, r_is_str_list, r_is_str_dict, r_is_ptup_int, r_is_ptup_bool, r_is_ptup_str, r_is_ptup_tuple, r_is_ptup_list, r_is_ptup_dict, r_is_tup_int, r_is_tup_bool, r_is_tup_str, r_is_tup_tuple, r_is_tup_list, r_is_tup_dict, isNon, r_W0, r_W1, r_T0, r_T1, r_T2, r_Q0, r_Q1, r_at0, r_at1, r_at2, r_at3, r_at4, r_at5, r_eq_ii, r_eq_bb,
  List.getElem?_cons_zero, List.getElem?_cons_succ, List.set_cons_zero, List.set_cons_succ, setAll, Option.some.injEq, Val.int.injEq, Val.bl.injEq, Val.tup.injEq, Val.ref.injEq, exists_eq_left', exists_eq_left, exists_eq_right, Bool.false_eq_true, if_true, if_false, List.isEmpty_nil, List.isEmpty_cons, true_and, and_true, ↓reduceIte, List.length_cons, List.length_nil, startL, List.map_cons, List.map_nil, Bool.not_true, Bool.not_false, Nat.reduceAdd, Nat.reduceSub, List.replicate, List.cons_append, List.nil_append, reduceCtorEq, false_and, exists_false, List.cons.injEq, Bool.false_xor, Bool.true_xor, wipeL, Int.reduceNeg, Int.cast_ofNat_Int, decide_true, decide_false, Int.reduceEq, decide_eq_true_eq, r_nd, r_sl0, r_sl1, r_sl2, r_sl3, r_sl4, r_sl5, r_sl6, r_sl7, r_sl8, r_sl9, r_sl10, r_sl11, r_sl12, r_sl13, r_sl14, r_sl15, r_sl16, r_sl17, r_sl18, r_sl19, r_sl20, r_sl21, r_sl22, r_sl23, r_sl24, decide_eq_false_iff_not, not_true_eq_false, not_false_eq_true, Int.not_lt, Int.not_le])
end M

set_option maxHeartbeats 1000000
namespace M
open PySem PySem.Spec L2
local macro_rules | `(tactic| simp_wf) => `(tactic| simp only [wCs, w_asg, w_par, w_aug, w_ex, w_ret, w_retN, w_ite, w_brk, w_cnt, w_pass, w_rais, e_v, e_int, e_bl, e_non, e_str, e_g, e_bin, e_neg, e_cmp, e_chain, e_and, e_or, e_not, e_ife, e_tup, e_lst, e_ix, e_sl, e_rev, e_fld, e_call, e_new, e_meth, e_blt, e_mth, e_isi, e_isiT, e_dK0, e_dT0, e_repr, e_ktup, e_lrng1, e_lrng2, e_lrev, e_trev, e_dix, e_dg1, e_dg2, e_dsd, e_dpop, e_din, wEs, wAndV, wOrV, wB, wAnd, wOr, wBs, wP, r_nm, r_tgT, r_tgQ, r_tgW, r_tgt, r_tgr, r_tgp, r_tgd, r_tgi, r_tgs, r_tgs0, wBin, wCmp,
  r_add_ii, r_add_ib, r_add_ss, r_add_tt, r_add_rr, r_sub_ii, r_mul_ii, r_mul_ri, r_mul_ti, r_div_ii, r_mod_ii, r_pow_ii, r_shl_ii, r_shr_ii, r_and_ii, r_xor_ii, r_int, r_is_n, r_is_b, r_tru_b, r_tru_i, r_tru_n, r_tru_t, r_tru_r, r_ix_t, r_ix_r, r_sl_t, r_sl_r, r_len_t, r_len_s, r_abs, r_min2, r_max2, r_int1, r_int1b, r_str1, r_list1, r_tuple1, r_tuple1t, r_tuple1p, r_len_p, r_sorted1t, r_ix_p, r_valD_p, r_ty_p, r_tindex, r_tyM_tindex, r_reverse, r_tyM_reverse, r_remove, r_tyM_remove, r_append, r_pop0, r_pop1, r_insert, r_extend, r_count, r_index, r_sum1, r_sorted1, r_tyM_pop1, r_tyM_insert, r_tyM_extend, r_tyM_count, r_tyM_index, r_fld, r_tgf, r_tyM_append, r_tyM_pop0, r_valD_t, r_valD_r, r_ty_n, r_ty_b, r_ty_i, r_ty_s, r_ty_t, r_is_non_int, r_is_non_bool, r_is_non_str, r_is_non_tuple, r_is_non_list, r_is_non_dict, r_is_bl_int, r_is_bl_bool, r_is_bl_str, r_is_bl_tuple, r_is_bl_list, r_is_bl_dict, r_is_int_int, r_is_int_bool, r_is_int_str, r_is_int_tuple, r_is_int_list, r_is_int_dict, r_is_str_int, r_is_str_bool, r_is_str_str, r_is_str_tuple, r_is_str_list, r_is_str_dict, r_is_ptup_int, r_is_ptup_bool, r_is_ptup_str, r_is_ptup_tuple, r_is_ptup_list, r_is_ptup_dict, r_is_tup_int, r_is_tup_bool, r_is_tup_str, r_is_tup_tuple, r_is_tup_list, r_is_tup_dict, isNon, r_W0, r_W1, r_T0, r_T1, r_T2, r_Q0, r_Q1, r_at0, r_at1, r_at2, r_at3, r_at4, r_at5, r_eq_ii, r_eq_bb,
  List.getElem?_cons_zero, List.getElem?_cons_succ, List.set_cons_zero, List.set_cons_succ, setAll, Option.some.injEq, Val.int.injEq, Val.bl.injEq, Val.tup.injEq, Val.ref.injEq, exists_eq_left', exists_eq_left, exists_eq_right, Bool.false_eq_true, if_true, if_false, List.isEmpty_nil, List.isEmpty_cons, true_and, and_true, ↓reduceIte, List.length_cons, List.length_nil, startL, List.map_cons, List.map_nil, Bool.not_true, Bool.not_false, Nat.reduceAdd, Nat.reduceSub, List.replicate, List.cons_append, List.nil_append, reduceCtorEq, false_and, exists_false, List.cons.injEq, Bool.false_xor, Bool.true_xor, wipeL, Int.reduceNeg, Int.cast_ofNat_Int, decide_true, decide_false, Int.reduceEq, decide_eq_true_eq, r_nd, r_sl0, r_sl1, r_sl2, r_sl3, r_sl4, r_sl5, r_sl6, r_sl7, r_sl8, r_sl9, r_sl10, r_sl11, r_sl12, r_sl13, r_sl14, r_sl15, r_sl16, r_sl17, r_sl18, r_sl19, r_sl20, r_sl21, r_sl22, r_sl23, r_sl24, decide_eq_false_iff_not, not_true_eq_false, not_false_eq_true, Int.not_lt, Int.not_le])
/-- numbers drawn -/
def Bd (ns : List Int) : Prop := ∀ n ∈ ns, 0 ≤ n ∧ n < 2 ^ 32
theorem Bd.nil : Bd [] := fun _ h => by cases h
theorem Bd.snoc {ns : List Int} {i : Int} (h : Bd ns) (h0 : 0 ≤ i) (h1 : i < 2 ^ 32) : Bd (ns ++ [i]) := fun n hn => by
  rcases List.mem_append.mp hn with q | q
  · exact h n q
  · simp only [List.mem_singleton] at q; subst q; exact ⟨h0, h1⟩
def spStreamE : Spec
  | [.int _, .int m], S, Q, _ => 0 ≤ m ∧ m ≤ 1000000 ∧ ∀ p ns, S p = none → Bd ns → ns.length = m.toNat → Q (.ref p) (S.upd p (.lst (vI ns)))
  | _, _, _, _ => False
def N_LstreamE : List Str := ["_law_cell", "_law_many", "_law_found", "_law_rest", "_law_k", "_law_number", "_law_other"]
def P_LstreamE : List Str := ["_law_cell", "_law_many"]
def B_LstreamE : List C := [
  .asg (.nm 2) (.lst []),
  .asg (.nm 3) (.v 0),
  .loop (.nm 4) (.rng1 (.v 1)) [.ex (.mth .append (.v 2) [.bin .Mod (.v 3) (.bin .Pow (.int 10) (.int 5))]), .asg (.nm 3) (.bin .FloorDiv (.v 3) (.bin .Pow (.int 10) (.int 5)))],
  .ite (.cmp .GtE (.v 0) (.bin .Pow (.int 10) (.int 18))) [.ret (.v 2)] [],
  .asg (.nm 2) (.lst []),
  .asg (.nm 5) (.bin .Add (.bin .Mod (.v 0) (.int 2147483647)) (.int 48271)),
  .asg (.nm 6) (.bin .Add (.bin .Mod (.bin .FloorDiv (.v 0) (.int 2147483647)) (.int 2147483629)) (.int 16807)),
  .loop (.nm 4) (.rng1 (.v 1)) [.asg (.nm 5) (.bin .Mod (.bin .Add (.bin .Add (.bin .Mult (.v 5) (.int 48271)) (.bin .Mult (.v 4) (.v 4))) (.int 11)) (.int 2147483647)), .asg (.nm 6) (.bin .Mod (.bin .Add (.bin .Mult (.v 6) (.int 69621)) (.v 5)) (.int 2147483629)), .ex (.mth .append (.v 2) [.bin .FloorDiv (.v 6) (.int 7)])],
  .ret (.v 2)]
theorem e5 : (10:Int) ^ Int.toNat 5 = 100000 := by decide
theorem body_LstreamE {G : Gam} : Body G N_LstreamE P_LstreamE B_LstreamE spStreamE := by
  intro vs S Q X h
  unfold spStreamE at h
  split at h
  · rename_i c m
    obtain ⟨m0, m1, h⟩ := h
    refine ⟨rfl, ?_⟩
    obtain ⟨n, rfl⟩ := Int.eq_ofNat_of_zero_le m0
    have hbig : ∀ {k : Nat}, k ≤ n → k < sizeLine := fun hk => Nat.lt_of_le_of_lt (show _ ≤ 1000000 by omega) (by decide)
    simp only [B_LstreamE, N_LstreamE]
    refine wCs_step fun nx hn => ?_
    simp_wf
    intro p hp
    subst hn
    refine wCs_step fun nx hn => ?_
    simp_wf
    subst hn
    refine wCs_step fun nx hn => ?_
    refine loop_rng1_ix (n := n) (S1 := S.upd p (.lst [])) (fun j ρ T => ∃ (l : Int) (xs : List Int) (k : Option Val), ρ = [some (.int c), some (.int n), some (.ref p), some (.int l), k, none, none] ∧ T = S.upd p (.lst (vI xs)) ∧ xs.length = j ∧ Bd xs) (fun Q q => by simp_wf; exact q) (by omega) ⟨_, [], none, rfl, rfl, rfl, .nil⟩ ?_ ?_
    · rintro ρ T ⟨l, xs, k, rfl, rfl, hl, hb⟩
      subst hn
      refine wCs_step fun nx hn => ?_
      simp_wf
      refine ⟨by decide, ?_⟩
      split
      · exact ⟨_, .refl, h _ _ hp hb (by simpa using hl)⟩
      · subst hn
        refine wCs_step fun nx hn => ?_
        simp_wf
        intro q hq
        have lS : S.le (S.upd p (.lst (vI xs))) := Sto.le.new .refl hp
        have hqS := lS.non hq
        generalize S.upd p (.lst (vI xs)) = U at *
        subst hn
        refine wCs_step fun nx hn => ?_
        simp_wf
        refine ⟨by decide, ?_⟩
        subst hn
        refine wCs_step fun nx hn => ?_
        simp_wf
        refine ⟨divOk_s (by decide) (by decide), by decide, ?_⟩
        subst hn
        refine wCs_step fun nx hn => ?_
        rw [imod_pos (by decide), imod_pos (by decide)]
        generalize idiv c 2147483647 = c2
        refine loop_rng1_ix (n := n) (S1 := U.upd q (.lst [])) (fun j ρ T => ∃ (a b : Int) (ys : List Int) (k : Option Val), ρ = [some (.int c), some (.int n), some (.ref q), some (.int l), k, some (.int a), some (.int b)] ∧ T = U.upd q (.lst (vI ys)) ∧ ys.length = j ∧ Bd ys ∧ 0 ≤ a ∧ a < 2 ^ 32 ∧ 0 ≤ b ∧ b < 2 ^ 32) (fun Q q => by simp_wf; exact q) (by omega) ⟨_, _, [], k, rfl, rfl, rfl, .nil, ?_, ?_, ?_, ?_⟩ ?_ ?_
        · have := Int.emod_nonneg c (show (2147483647:Int) ≠ 0 by decide); omega
        · have := Int.emod_lt_of_pos c (show (0:Int) < 2147483647 by decide); omega
        · have := Int.emod_nonneg c2 (show (2147483629:Int) ≠ 0 by decide); omega
        · have := Int.emod_lt_of_pos c2 (show (0:Int) < 2147483629 by decide); omega
        · rintro ρ T ⟨a, b, ys, k, rfl, rfl, hl, hb, _⟩
          subst hn
          simp_wf
          refine ⟨S.upd q (.lst (vI ys)), lS.upd, h _ _ hqS hb (by simpa using hl)⟩
        · rintro j ρ T hj ⟨a, b, ys, k, rfl, rfl, hl, hb, a0, a1, b0, b1⟩ D' hnx hct hrt hbk hxc
          simp_wf
          have sa : Sz 32 a := szSmall (by omega)
          have sb : Sz 32 b := szSmall (by omega)
          have sk : Sz 20 (j : Int) := szSmall (by omega)
          rw [imod_pos (show (0:Int) < 2147483647 by decide), imod_pos (show (0:Int) < 2147483629 by decide)]
          have i1 := Int.emod_nonneg (a * 48271 + (j : Int) * j + 11) (show (2147483647:Int) ≠ 0 by decide)
          have i2 := Int.emod_lt_of_pos (a * 48271 + (j : Int) * j + 11) (show (0:Int) < 2147483647 by decide)
          generalize (a * 48271 + (j : Int) * j + 11) % 2147483647 = a' at *
          have j1 := Int.emod_nonneg (b * 69621 + a') (show (2147483629:Int) ≠ 0 by decide)
          have j2 := Int.emod_lt_of_pos (b * 69621 + a') (show (0:Int) < 2147483629 by decide)
          generalize (b * 69621 + a') % 2147483629 = b' at *
          refine ⟨sa.mulOk (szSmall (n := 20) (by decide)) (by decide), sk.mulOk sk (by decide), by decide, sb.mulOk (szSmall (n := 20) (by decide)) (by decide), by decide, ⟨_, rd_upd⟩, divOk_s (by decide) (by decide), _, Sto.upd_same, by rw [vI_len]; exact hbig (by omega), hnx _ _ ⟨a', b', ys ++ [idiv b' 7], _, rfl, ?_, by simp [hl], hb.snoc ?_ ?_, i1, by omega, j1, by omega⟩⟩
          · rw [Sto.upd_upd, vI_app]
          · rw [idiv_pos (by decide)]; omega
          · rw [idiv_pos (by decide)]; omega
    · rintro j ρ T hj ⟨l, xs, k, rfl, rfl, hl, hb⟩ D' hnx hct hrt hbk hxc
      simp_wf
      rw [e5, imod_pos (show (0:Int) < 100000 by decide)]
      have i1 := Int.emod_nonneg l (show (100000:Int) ≠ 0 by decide)
      have i2 := Int.emod_lt_of_pos l (show (0:Int) < 100000 by decide)
      refine ⟨⟨_, rd_upd⟩, by decide, by decide, _, Sto.upd_same, by rw [vI_len]; exact hbig (by omega), by decide, divOk_s (by decide) (by decide), hnx _ _ ⟨_, xs ++ [l % 100000], _, rfl, ?_, by simp [hl], hb.snoc i1 (by omega)⟩⟩
      rw [Sto.upd_upd, vI_app]
  · exact h.elim
/-- the next number, 0 at the end -/
def spNx : Spec
  | [.ref p], S, Q, _ => (∃ ns, Bd ns ∧ S p = some (.lst (vI ns))) ∧ ∀ r ns, 0 ≤ r → r < 2 ^ 32 → Bd ns → Q (.int r) (S.upd p (.lst (vI ns)))
  | _, _, _, _ => False
def N_Lnx : List Str := ["_law_xs"]
def P_Lnx : List Str := ["_law_xs"]
def B_Lnx : List C := [
  .ite (.cmp .Eq (.v 0) (.lst [])) [.ret (.int 0)] [],
  .ret (.mth .pop1 (.v 0) [.int 0])]
theorem body_Lnx {G : Gam} : Body G N_Lnx P_Lnx B_Lnx spNx := by
  intro vs S Q X h
  unfold spNx at h
  split at h
  · rename_i p
    obtain ⟨⟨ns, hb, hp⟩, h⟩ := h
    refine ⟨rfl, ?_⟩
    simp only [B_Lnx, N_Lnx]
    refine wCs_step fun nx hn => ?_
    simp_wf
    refine fun q hq => cEq_nil (ns := ns) (.lst (Sto.old hp hq)) rd_upd ?_
    simp_wf
    have l : S.le (S.upd q (.lst [])) := Sto.le.new .refl hq
    split
    · refine ⟨S, l, ?_⟩
      have := h 0 ns (by omega) (by decide) hb
      rw [Sto.upd_eta hp] at this; exact this
    · rename_i hne
      subst hn
      simp_wf
      cases ns with
      | nil => simp at hne
      | cons n ns =>
        obtain ⟨h0, h1⟩ := hb n (by simp)
        refine ⟨⟨_, .lst (Sto.old hp hq)⟩, _, .int n, Sto.old hp hq, by decide, by decide, by simp [vI], S.upd p (.lst (vI ns)), ?_, h _ _ h0 h1 fun m hm => hb m (by simp [hm])⟩
        exact Sto.le.upd l
  · exact h.elim
end M

set_option maxHeartbeats 1000000
namespace M
open PySem PySem.Spec L2
local macro_rules | `(tactic| simp_wf) => `(tactic| simp only [wCs, w_asg, w_par, w_aug, w_ex, w_ret, w_retN, w_ite, w_brk, w_cnt, w_pass, w_rais, e_v, e_int, e_bl, e_non, e_str, e_g, e_bin, e_neg, e_cmp, e_chain, e_and, e_or, e_not, e_ife, e_tup, e_lst, e_ix, e_sl, e_rev, e_fld, e_call, e_new, e_meth, e_blt, e_mth, e_isi, e_isiT, e_dK0, e_dT0, e_repr, e_ktup, e_lrng1, e_lrng2, e_lrev, e_trev, e_dix, e_dg1, e_dg2, e_dsd, e_dpop, e_din, wEs, wAndV, wOrV, wB, wAnd, wOr, wBs, wP, r_nm, r_tgT, r_tgQ, r_tgW, r_tgt, r_tgr, r_tgp, r_tgd, r_tgi, r_tgs, r_tgs0, wBin, wCmp,
  r_add_ii, r_add_ib, r_add_ss, r_add_tt, r_add_rr, r_sub_ii, r_mul_ii, r_mul_ri, r_mul_ti, r_div_ii, r_mod_ii, r_pow_ii, r_shl_ii, r_shr_ii, r_and_ii, r_xor_ii, r_int, r_is_n, r_is_b, r_tru_b, r_tru_i, r_tru_n, r_tru_t, r_tru_r, r_ix_t, r_ix_r, r_sl_t, r_sl_r, r_len_t, r_len_s, r_abs, r_min2, r_max2, r_int1, r_int1b, r_str1, r_list1, r_tuple1, r_tuple1t, r_tuple1p, r_len_p, r_sorted1t, r_ix_p, r_valD_p, r_ty_p, r_tindex, r_tyM_tindex, r_reverse, r_tyM_reverse, r_remove, r_tyM_remove, r_append, r_pop0, r_pop1, r_insert, r_extend, r_count, r_index, r_sum1, r_sorted1, r_tyM_pop1, r_tyM_insert, r_tyM_extend, r_tyM_count, r_tyM_index, r_fld, r_tgf, r_tyM_append, r_tyM_pop0, r_valD_t, r_valD_r, r_ty_n, r_ty_b, r_ty_i, r_ty_s, r_ty_t, r_is_non_int, r_is_non_bool, r_is_non_str, r_is_non_tuple, r_is_non_list, r_is_non_dict, r_is_bl_int, r_is_bl_bool, r_is_bl_str, r_is_bl_tuple, r_is_bl_list, r_is_bl_dict, r_is_int_int, r_is_int_bool, r_is_int_str, r_is_int_tuple, r_is_int_list, r_is_int_dict, r_is_str_int, r_is_str_bool, r_is_str_str, r_is_str_tuple, r_is_str_list, r_is_str_dict, r_is_ptup_int, r_is_ptup_bool, r_is_ptup_str, r_is_ptup_tuple, r_is_ptup_list, r_is_ptup_dict, r_is_tup_int, r_is_tup_bool, r_is_tup_str, r_is_tup_tuple, r_is_tup_list, r_is_tup_dict, isNon, r_W0, r_W1, r_T0, r_T1, r_T2, r_Q0, r_Q1, r_at0, r_at1, r_at2, r_at3, r_at4, r_at5, r_eq_ii, r_eq_bb,
  List.getElem?_cons_zero, List.getElem?_cons_succ, List.set_cons_zero, List.set_cons_succ, setAll, Option.some.injEq, Val.int.injEq, Val.bl.injEq, Val.tup.injEq, Val.ref.injEq, exists_eq_left', exists_eq_left, exists_eq_right, Bool.false_eq_true, if_true, if_false, List.isEmpty_nil, List.isEmpty_cons, true_and, and_true, ↓reduceIte, List.length_cons, List.length_nil, startL, List.map_cons, List.map_nil, Bool.not_true, Bool.not_false, Nat.reduceAdd, Nat.reduceSub, List.replicate, List.cons_append, List.nil_append, reduceCtorEq, false_and, exists_false, List.cons.injEq, Bool.false_xor, Bool.true_xor, wipeL, Int.reduceNeg, Int.cast_ofNat_Int, decide_true, decide_false, Int.reduceEq, decide_eq_true_eq, r_nd, r_sl0, r_sl1, r_sl2, r_sl3, r_sl4, r_sl5, r_sl6, r_sl7, r_sl8, r_sl9, r_sl10, r_sl11, r_sl12, r_sl13, r_sl14, r_sl15, r_sl16, r_sl17, r_sl18, r_sl19, r_sl20, r_sl21, r_sl22, r_sl23, r_sl24, decide_eq_false_iff_not, not_true_eq_false, not_false_eq_true, Int.not_lt, Int.not_le])
def Bits (n : Nat) (b : List Int) : Prop := b.length = n ∧ b.head? = some 0 ∧ ∀ x ∈ b, x = 0 ∨ x = 1
def spSidesE : Spec
  | [.int m], S, Q, _ => 1 ≤ m ∧ m ≤ 10 ∧ ∀ p (L : List (List Int)), S p = none → (∀ b ∈ L, Bits m.toNat b) → L.length ≤ 1000 → Q (.ref p) (S.upd p (.lst (L.map fun b => .tup (vI b))))
  | _, _, _, _ => False
def N_LsidesE : List Str := ["_law_many", "_law_found", "_law_k", "_law_row"]
def P_LsidesE : List Str := ["_law_many"]
def B_LsidesE : List C := [
  .asg (.nm 1) (.lst [.lst [.int 0]]),
  .loop (.nm 2) (.rng2 (.int 1) (.v 0)) [.asg (.nm 1) (.bin .Add (.lc [("_law_row", 3)] (.nm 3) (.val (.v 1)) [] (.bin .Add (.v 3) (.lst [.int 0]))) (.lc [("_law_row", 3)] (.nm 3) (.val (.v 1)) [] (.bin .Add (.v 3) (.lst [.int 1]))))],
  .ret (.lc [("_law_row", 3)] (.nm 3) (.val (.v 1)) [] (.blt .tuple1 [.v 3]))]
/-- rows of sides -/
def Rows (k : Nat) (as : List Addr) (T : Sto) : Prop := ∀ a ∈ as, ∃ b, Bits k b ∧ T a = some (.lst (vI b))
theorem Rows.le {k : Nat} {as : List Addr} {T U : Sto} (h : Rows k as T) (l : T.le U) : Rows k as U := fun a ha => let ⟨b, h1, h2⟩ := h a ha; ⟨b, h1, l _ _ h2⟩
theorem Bits.snoc {k : Nat} {b : List Int} {x : Int} (h : Bits k b) (hx : x = 0 ∨ x = 1) : Bits (k + 1) (b ++ [x]) := by
  refine ⟨by simp [h.1], ?_, fun y hy => ?_⟩
  · cases b with
    | nil => have := h.2.1; simp at this
    | cons c b => simpa using h.2.1
  · rcases List.mem_append.mp hy with q | q
    · exact h.2.2 y q
    · simp only [List.mem_singleton] at q; subst q; exact hx
theorem rows_more {G : Gam} {X : XPost} {o0 o2 : Option Val} {f : Addr} {k : Nat} {as : List Addr} {T : Sto} {Q : Post} {x : Int} (hx : x = 0 ∨ x = 1) (hf : T f = some (.lst (as.map .ref))) (hr : Rows k as T) (hl : as.length ≤ 1000) (hk : k ≤ 60)
    (h : ∀ p cs U, T p = none → T.le U → U p = none → cs.length = as.length → Rows (k + 1) cs (U.upd p (.lst (cs.map .ref))) → Q (.ref p) (U.upd p (.lst (cs.map .ref)))) :
    wE G X (.lc [("_law_row", 3)] (.nm 3) (.val (.v 1)) [] (.bin .Add (.v 3) (.lst [.int x]))) [o0, some (.ref f), o2, none] T Q := by
  refine lc_list_ix (xs := as) (f := .ref) (q := f) (S1 := T) (fun j acc U => ∃ cs : List Addr, acc = cs.map .ref ∧ cs.length = j ∧ T.le U ∧ Rows (k + 1) cs U) (fun Q q => by simp_wf; exact q) (.lst hf) (fun j acc U ⟨cs, _, _, l, _⟩ => .lst (l _ _ hf)) (by omega) (fun j acc U ⟨cs, e, h, _⟩ => by rw [e, List.length_map]; omega) ⟨[], rfl, rfl, .refl, fun a ha => by cases ha⟩ ?_ ?_
  · rintro acc U ⟨cs, rfl, hcl, l, hc⟩ p hp
    exact h p cs U (l.non hp) l hp hcl (hc.le (Sto.le.new .refl hp))
  · rintro j a acc U ha ⟨cs, rfl, hcl, l, hc⟩ R r0 r1
    obtain ⟨b, hb, hab⟩ := hr a (mem_of_get ha)
    have hb1 := hb.1
    simp_wf
    intro q hq
    refine ⟨_, [.int x], Sto.old (l _ _ hab) hq, Sto.upd_same, ?_, fun p hp => ?_⟩
    · rw [vI_len]
      exact Nat.le_trans (show b.length + 1 ≤ 100 by omega) (by decide)
    · generalize hU : U.upd q (.lst [.int x]) = V at *
      have lV : U.le V := by rw [← hU]; exact Sto.le.new .refl hq
      refine r1 _ _ ⟨cs ++ [p], by simp, by simp [hcl], (l.trans lV).trans (Sto.le.new .refl hp), ?_⟩
      intro c hc'
      rcases List.mem_append.mp hc' with z | z
      · obtain ⟨b', h1, h2⟩ := hc c z
        exact ⟨b', h1, Sto.old (lV _ _ h2) hp⟩
      · simp only [List.mem_singleton] at z; subst z
        exact ⟨b ++ [x], hb.snoc hx, by rw [Sto.upd_same, vI_app]⟩
theorem body_LsidesE {G : Gam} : Body G N_LsidesE P_LsidesE B_LsidesE spSidesE := by
  intro vs S Q X h
  unfold spSidesE at h
  split at h
  · rename_i m
    obtain ⟨m1, m2, h⟩ := h
    refine ⟨rfl, ?_⟩
    obtain ⟨n, rfl⟩ := Int.eq_ofNat_of_zero_le (show 0 ≤ m by omega)
    simp only [Int.toNat_natCast] at h
    simp only [B_LsidesE, N_LsidesE]
    refine wCs_step fun nx hn => ?_
    simp_wf
    intro p hp q hq
    generalize hT : S.upd p (.lst [.int 0]) = T at *
    have lT : S.le T := by rw [← hT]; exact Sto.le.new .refl hp
    have hTp : T p = some (.lst [.int 0]) := by rw [← hT]; exact Sto.upd_same
    subst hn
    refine wCs_step fun nx hn => ?_
    refine loop_rng2_ix (lo := 1) (hi := n) (S1 := T.upd q (.lst [.ref p])) (S2 := T.upd q (.lst [.ref p])) (fun j ρ U => ∃ (f : Addr) (as : List Addr) (o2 : Option Val), ρ = [some (.int n), some (.ref f), o2, none] ∧ S.le U ∧ U f = some (.lst (as.map .ref)) ∧ Rows (j + 1) as U ∧ as.length = 2 ^ j) (fun Q q => by simp_wf; exact q) (fun Q q => by simp_wf; exact q) (by unfold small62; omega) (by unfold small62; omega) ⟨q, [p], none, rfl, lT.trans (Sto.le.new .refl hq), Sto.upd_same, ?_, rfl⟩ ?_ ?_
    · intro a ha
      simp only [List.mem_singleton] at ha; subst ha
      exact ⟨[0], ⟨rfl, rfl, by simp⟩, Sto.old hTp hq⟩
    · rintro ρ U ⟨f, as, o2, rfl, l, hf, hr, hl⟩
      have hj : ((n : Int) - 1).toNat + 1 = n := by omega
      rw [hj] at hr
      have h9 : as.length ≤ 2 ^ 9 := by rw [hl]; exact Nat.pow_le_pow_right (by decide) (by omega)
      subst hn
      simp_wf
      refine lc_list_ix (xs := as) (f := .ref) (q := f) (S1 := U) (fun j acc V => ∃ L : List (List Int), acc = L.map (fun b => .tup (vI b)) ∧ L.length = j ∧ V = U ∧ ∀ b ∈ L, Bits n b) (fun Q q => by simp_wf; exact q) (.lst hf) (fun j acc V ⟨_, _, _, e, _⟩ => by rw [e]; exact .lst hf) (by omega) (fun j acc V ⟨L, e, h, _⟩ => by rw [e, List.length_map]; omega) ⟨[], rfl, rfl, rfl, fun _ h => by cases h⟩ ?_ ?_
      · rintro acc V ⟨L, rfl, hL, rfl, hb⟩ r hr'
        exact ⟨S.upd r (.lst (L.map fun b => .tup (vI b))), l.upd, h r L (l.non hr') hb (by omega)⟩
      · rintro j a acc V ha ⟨L, rfl, hL, rfl, hb⟩ R r0 r1
        obtain ⟨b, hb', hab⟩ := hr a (mem_of_get ha)
        simp_wf
        refine ⟨_, .lst hab, r1 _ _ ⟨L ++ [b], by simp, by simp [hL], rfl, fun c hc => ?_⟩⟩
        rcases List.mem_append.mp hc with z | z
        · exact hb c z
        · simp only [List.mem_singleton] at z; subst z; exact hb'
    · rintro j ρ U hj ⟨f, as, o2, rfl, l, hf, hr, hl⟩ D' hnx hct hrt hbk hxc
      have h9 : as.length ≤ 2 ^ 9 := by rw [hl]; exact Nat.pow_le_pow_right (by decide) (by omega)
      simp_wf
      refine rows_more (.inl rfl) hf hr (by omega) (by omega) fun p1 cs U1 h1 l1 h1' hc1 hr1 => ?_
      generalize hV : U1.upd p1 (.lst (cs.map .ref)) = V at *
      have lV : U.le V := by rw [← hV]; exact l1.trans (Sto.le.new .refl h1')
      have hp1 : V p1 = some (.lst (cs.map .ref)) := by rw [← hV]; exact Sto.upd_same
      refine rows_more (.inr rfl) (lV _ _ hf) (hr.le lV) (by omega) (by omega) fun p2 ds U2 h2 l2 h2' hc2 hr2 => ?_
      generalize hZ : U2.upd p2 (.lst (ds.map .ref)) = Z at *
      have lZ : V.le Z := by rw [← hZ]; exact l2.trans (Sto.le.new .refl h2')
      have hp2 : Z p2 = some (.lst (ds.map .ref)) := by rw [← hZ]; exact Sto.upd_same
      simp_wf
      refine ⟨_, _, lZ _ _ hp1, hp2, ?_, fun r hr' => ?_⟩
      · rw [List.length_map, List.length_map]
        exact Nat.le_trans (show cs.length + ds.length ≤ 2000 by omega) (by decide)
      · refine hnx _ _ ⟨r, cs ++ ds, _, rfl, ((l.trans lV).trans lZ).trans (Sto.le.new .refl hr'), by rw [Sto.upd_same, List.map_append], ?_, ?_⟩
        · intro a ha
          rcases List.mem_append.mp ha with z | z
          · exact ((hr1.le lZ).le (Sto.le.new .refl hr')) a z
          · exact (hr2.le (Sto.le.new .refl hr')) a z
        · rw [List.length_append, hc1, hc2, hl, Nat.pow_succ]; omega
  · exact h.elim
end M

set_option maxHeartbeats 1000000
namespace M
open PySem PySem.Spec L2
local macro_rules | `(tactic| simp_wf) => `(tactic| simp only [wCs, w_asg, w_par, w_aug, w_ex, w_ret, w_retN, w_ite, w_brk, w_cnt, w_pass, w_rais, e_v, e_int, e_bl, e_non, e_str, e_g, e_bin, e_neg, e_cmp, e_chain, e_and, e_or, e_not, e_ife, e_tup, e_lst, e_ix, e_sl, e_rev, e_fld, e_call, e_new, e_meth, e_blt, e_mth, e_isi, e_isiT, e_dK0, e_dT0, e_repr, e_ktup, e_lrng1, e_lrng2, e_lrev, e_trev, e_dix, e_dg1, e_dg2, e_dsd, e_dpop, e_din, wEs, wAndV, wOrV, wB, wAnd, wOr, wBs, wP, r_nm, r_tgT, r_tgQ, r_tgW, r_tgt, r_tgr, r_tgp, r_tgd, r_tgi, r_tgs, r_tgs0, wBin, wCmp,
  r_add_ii, r_add_ib, r_add_ss, r_add_tt, r_add_rr, r_sub_ii, r_mul_ii, r_mul_ri, r_mul_ti, r_div_ii, r_mod_ii, r_pow_ii, r_shl_ii, r_shr_ii, r_and_ii, r_xor_ii, r_int, r_is_n, r_is_b, r_tru_b, r_tru_i, r_tru_n, r_tru_t, r_tru_r, r_ix_t, r_ix_r, r_sl_t, r_sl_r, r_len_t, r_len_s, r_abs, r_min2, r_max2, r_int1, r_int1b, r_str1, r_list1, r_tuple1, r_tuple1t, r_tuple1p, r_len_p, r_sorted1t, r_ix_p, r_valD_p, r_ty_p, r_tindex, r_tyM_tindex, r_reverse, r_tyM_reverse, r_remove, r_tyM_remove, r_append, r_pop0, r_pop1, r_insert, r_extend, r_count, r_index, r_sum1, r_sorted1, r_tyM_pop1, r_tyM_insert, r_tyM_extend, r_tyM_count, r_tyM_index, r_fld, r_tgf, r_tyM_append, r_tyM_pop0, r_valD_t, r_valD_r, r_ty_n, r_ty_b, r_ty_i, r_ty_s, r_ty_t, r_is_non_int, r_is_non_bool, r_is_non_str, r_is_non_tuple, r_is_non_list, r_is_non_dict, r_is_bl_int, r_is_bl_bool, r_is_bl_str, r_is_bl_tuple, r_is_bl_list, r_is_bl_dict, r_is_int_int, r_is_int_bool, r_is_int_str, r_is_int_tuple, r_is_int_list, r_is_int_dict, r_is_str_int, r_is_str_bool, r_is_str_str, r_is_str_tuple, r_is_str_list, r_is_str_dict, r_is_ptup_int, r_is_ptup_bool, r_is_ptup_str, r_is_ptup_tuple, r_is_ptup_list, r_is_ptup_dict, r_is_tup_int, r_is_tup_bool, r_is_tup_str, r_is_tup_tuple, r_is_tup_list, r_is_tup_dict, isNon, r_W0, r_W1, r_T0, r_T1, r_T2, r_Q0, r_Q1, r_at0, r_at1, r_at2, r_at3, r_at4, r_at5, r_eq_ii, r_eq_bb,
  List.getElem?_cons_zero, List.getElem?_cons_succ, List.set_cons_zero, List.set_cons_succ, setAll, Option.some.injEq, Val.int.injEq, Val.bl.injEq, Val.tup.injEq, Val.ref.injEq, exists_eq_left', exists_eq_left, exists_eq_right, Bool.false_eq_true, if_true, if_false, List.isEmpty_nil, List.isEmpty_cons, true_and, and_true, ↓reduceIte, List.length_cons, List.length_nil, startL, List.map_cons, List.map_nil, Bool.not_true, Bool.not_false, Nat.reduceAdd, Nat.reduceSub, List.replicate, List.cons_append, List.nil_append, reduceCtorEq, false_and, exists_false, List.cons.injEq, Bool.false_xor, Bool.true_xor, wipeL, Int.reduceNeg, Int.cast_ofNat_Int, decide_true, decide_false, Int.reduceEq, decide_eq_true_eq, r_nd, r_sl0, r_sl1, r_sl2, r_sl3, r_sl4, r_sl5, r_sl6, r_sl7, r_sl8, r_sl9, r_sl10, r_sl11, r_sl12, r_sl13, r_sl14, r_sl15, r_sl16, r_sl17, r_sl18, r_sl19, r_sl20, r_sl21, r_sl22, r_sl23, r_sl24, decide_eq_false_iff_not, not_true_eq_false, not_false_eq_true, Int.not_lt, Int.not_le])
/-- all but p stands -/
def Fr (p : Addr) (S T : Sto) : Prop := ∀ a o, a ≠ p → S a = some o → T a = some o
theorem Fr.refl {p : Addr} {S : Sto} : Fr p S S := fun _ _ _ h => h
theorem Fr.trans {p : Addr} {S T U : Sto} (h : Fr p S T) (h' : Fr p T U) : Fr p S U := fun a o n e => h' a o n (h a o n e)
theorem Fr.le {p : Addr} {S T : Sto} (h : S.le T) : Fr p S T := fun a o _ e => h a o e
theorem Fr.new {p q : Addr} {S T : Sto} {o : MO} (h : Fr p S T) (hq : T q = none) : Fr p S (T.upd q o) := fun a u n e => by
  have := h a u n e
  rw [Sto.upd_ne (fun z => by subst z; rw [hq] at this; cases this)]; exact this
theorem Fr.own {p q : Addr} {S T : Sto} {o : MO} (h : Fr p S T) (hq : S q = none) : Fr p S (T.upd q o) := fun a u n e => by
  rw [Sto.upd_ne (fun z => by subst z; rw [hq] at e; cases e)]; exact h a u n e
theorem Fr.deck {p : Addr} {S T : Sto} {o : MO} (h : Fr p S T) : Fr p S (T.upd p o) := fun a u n e => by
  rw [Sto.upd_ne n]; exact h a u n e
theorem Fr.fin {p : Addr} {S T : Sto} {o : MO} (h : Fr p S T) (hp : T p = some o) : (S.upd p o).le T := fun a u e => by
  by_cases n : a = p
  · subst n; rw [Sto.upd_same] at e; cases e; exact hp
  · rw [Sto.upd_ne n] at e; exact h a u n e
theorem Fr.non {p q : Addr} {S T : Sto} (h : Fr p S T) (hn : q ≠ p) (hq : T q = none) : S q = none := by
  cases e : S q with
  | none => rfl
  | some o => rw [h q o hn e] at hq; cases hq
theorem ne_nn {S : Sto} {p q : Addr} {o : MO} (h : S p = some o) (hq : S q = none) : q ≠ p := fun z => by subst z; rw [h] at hq; cases hq
/-- numbers to draw stand at p -/
def Dk (S : Sto) (p : Addr) : Prop := ∃ ns, Bd ns ∧ S p = some (.lst (vI ns))
theorem Dk.new {S : Sto} {p q : Addr} {o : MO} (h : Dk S p) (hq : S q = none) : Dk (S.upd q o) p := let ⟨ns, b, e⟩ := h; ⟨ns, b, Sto.old e hq⟩
theorem Dk.oth {S : Sto} {p q : Addr} {o : MO} (h : Dk S p) (hq : p ≠ q) : Dk (S.upd q o) p := let ⟨ns, b, e⟩ := h; ⟨ns, b, Sto.upd_at e hq⟩
theorem Dk.get {S : Sto} {p : Addr} (h : Dk S p) : ∃ o, S p = some o := let ⟨_, _, e⟩ := h; ⟨_, e⟩
end M

set_option maxHeartbeats 1000000
namespace M
open PySem PySem.Spec L2
local macro_rules | `(tactic| simp_wf) => `(tactic| simp only [wCs, w_asg, w_par, w_aug, w_ex, w_ret, w_retN, w_ite, w_brk, w_cnt, w_pass, w_rais, e_v, e_int, e_bl, e_non, e_str, e_g, e_bin, e_neg, e_cmp, e_chain, e_and, e_or, e_not, e_ife, e_tup, e_lst, e_ix, e_sl, e_rev, e_fld, e_call, e_new, e_meth, e_blt, e_mth, e_isi, e_isiT, e_dK0, e_dT0, e_repr, e_ktup, e_lrng1, e_lrng2, e_lrev, e_trev, e_dix, e_dg1, e_dg2, e_dsd, e_dpop, e_din, wEs, wAndV, wOrV, wB, wAnd, wOr, wBs, wP, r_nm, r_tgT, r_tgQ, r_tgW, r_tgt, r_tgr, r_tgp, r_tgd, r_tgi, r_tgs, r_tgs0, wBin, wCmp,
  r_add_ii, r_add_ib, r_add_ss, r_add_tt, r_add_rr, r_sub_ii, r_mul_ii, r_mul_ri, r_mul_ti, r_div_ii, r_mod_ii, r_pow_ii, r_shl_ii, r_shr_ii, r_and_ii, r_xor_ii, r_int, r_is_n, r_is_b, r_tru_b, r_tru_i, r_tru_n, r_tru_t, r_tru_r, r_ix_t, r_ix_r, r_sl_t, r_sl_r, r_len_t, r_len_s, r_abs, r_min2, r_max2, r_int1, r_int1b, r_str1, r_list1, r_tuple1, r_tuple1t, r_tuple1p, r_len_p, r_sorted1t, r_ix_p, r_valD_p, r_ty_p, r_tindex, r_tyM_tindex, r_reverse, r_tyM_reverse, r_remove, r_tyM_remove, r_append, r_pop0, r_pop1, r_insert, r_extend, r_count, r_index, r_sum1, r_sorted1, r_tyM_pop1, r_tyM_insert, r_tyM_extend, r_tyM_count, r_tyM_index, r_fld, r_tgf, r_tyM_append, r_tyM_pop0, r_valD_t, r_valD_r, r_ty_n, r_ty_b, r_ty_i, r_ty_s, r_ty_t, r_is_non_int, r_is_non_bool, r_is_non_str, r_is_non_tuple, r_is_non_list, r_is_non_dict, r_is_bl_int, r_is_bl_bool, r_is_bl_str, r_is_bl_tuple, r_is_bl_list, r_is_bl_dict, r_is_int_int, r_is_int_bool, r_is_int_str, r_is_int_tuple, r_is_int_list, r_is_int_dict, r_is_str_int, r_is_str_bool, r_is_str_str, r_is_str_tuple, r_is_str_list, r_is_str_dict, r_is_ptup_int, r_is_ptup_bool, r_is_ptup_str, r_is_ptup_tuple, r_is_ptup_list, r_is_ptup_dict, r_is_tup_int, r_is_tup_bool, r_is_tup_str, r_is_tup_tuple, r_is_tup_list, r_is_tup_dict, isNon, r_W0, r_W1, r_T0, r_T1, r_T2, r_Q0, r_Q1, r_at0, r_at1, r_at2, r_at3, r_at4, r_at5, r_eq_ii, r_eq_bb,
  List.getElem?_cons_zero, List.getElem?_cons_succ, List.set_cons_zero, List.set_cons_succ, setAll, Option.some.injEq, Val.int.injEq, Val.bl.injEq, Val.tup.injEq, Val.ref.injEq, exists_eq_left', exists_eq_left, exists_eq_right, Bool.false_eq_true, if_true, if_false, List.isEmpty_nil, List.isEmpty_cons, true_and, and_true, ↓reduceIte, List.length_cons, List.length_nil, startL, List.map_cons, List.map_nil, Bool.not_true, Bool.not_false, Nat.reduceAdd, Nat.reduceSub, List.replicate, List.cons_append, List.nil_append, reduceCtorEq, false_and, exists_false, List.cons.injEq, Bool.false_xor, Bool.true_xor, wipeL, Int.reduceNeg, Int.cast_ofNat_Int, decide_true, decide_false, Int.reduceEq, decide_eq_true_eq, r_nd, r_sl0, r_sl1, r_sl2, r_sl3, r_sl4, r_sl5, r_sl6, r_sl7, r_sl8, r_sl9, r_sl10, r_sl11, r_sl12, r_sl13, r_sl14, r_sl15, r_sl16, r_sl17, r_sl18, r_sl19, r_sl20, r_sl21, r_sl22, r_sl23, r_sl24, decide_eq_false_iff_not, not_true_eq_false, not_false_eq_true, Int.not_lt, Int.not_le])
section
variable {G : Gam} {X : XPost} {ρ : Loc} {T : Sto} {p : Addr} {i : Nat} {Q : Post} {b : E}
theorem nx_app {X : XPost} (d : Dk T p) (h : ∀ r T', 0 ≤ r → r < 2 ^ 32 → Dk T' p → Fr p T T' → Q (.int r) T') : app spNx [.ref p] T Q X :=
  .of ⟨d, fun r ns r0 r1 hb => h r _ r0 r1 ⟨_, hb, Sto.upd_same⟩ Fr.refl.deck⟩
/-- a draw below m -/
theorem mod_bd {m r : Int} (hm : 0 < m) : 0 ≤ r % m ∧ r % m < m := ⟨Int.emod_nonneg _ (by omega), Int.emod_lt_of_pos _ hm⟩
end
theorem Fr.at {p a : Addr} {S T : Sto} {o : MO} (h : Fr p S T) (e : S a = some o) (n : a ≠ p) : T a = some o := h a o n e
end M

/- The plain law of the walk through links (no program in sight). -/
namespace M
structure Lk where
  a : Nat
  b : Nat
  x : Nat
deriving Inhabited

def oe (l : Lk) (p : Nat) : Nat := if l.a = p then l.b else l.a
def lkAt (L : List Lk) (k : Nat) : Lk := L.getD k ⟨0, 0, 0⟩
def cx (L : List Lk) (k p : Nat) : Nat :=
  (if (lkAt L k).a = p then 1 else 0) + (if (lkAt L k).b = p then 1 else 0)
def xx (L : List Lk) (k : Nat) : Nat := (lkAt L k).x
def Sm (f : Nat → Nat) (r : List Nat) : Nat := (r.map f).sum

structure LOk (n : Nat) (L : List Lk) : Prop where
  a : ∀ k, k < L.length → (lkAt L k).a < n
  b : ∀ k, k < L.length → (lkAt L k).b < n
  x : ∀ k, k < L.length → (lkAt L k).x < 2

structure OddRing (L : List Lk) (r : List Nat) : Prop where
  lt : ∀ k, k ∈ r → k < L.length
  up : r.Pairwise (· < ·)
  ev : ∀ p, Sm (fun k => cx L k p) r % 2 = 0
  od : Sm (xx L) r % 2 = 1

structure WS where
  g : Nat → Option Nat
  b : Nat → Nat
  c : Nat → Option Nat
  r : Option (List Nat)

def isEnd (L : List Lk) (k p : Nat) : Prop := (lkAt L k).a = p ∨ (lkAt L k).b = p

theorem oe_end {L : List Lk} {k p : Nat} (h : isEnd L k p) : isEnd L k (oe (lkAt L k) p) := by
  unfold isEnd oe at *
  split
  · exact .inr rfl
  · exact .inl rfl

theorem oe_oe {L : List Lk} {k p : Nat} (h : isEnd L k p) : oe (lkAt L k) (oe (lkAt L k) p) = p := by
  unfold isEnd oe at *
  rcases h with h | h <;> (repeat' split) <;> simp_all

theorem cx_end {L : List Lk} {k p : Nat} (h : isEnd L k p) (q : Nat) :
    cx L k q = (if p = q then 1 else 0) + (if oe (lkAt L k) p = q then 1 else 0) := by
  unfold isEnd oe cx at *
  rcases h with h | h
  · simp [h]
  · by_cases h2 : (lkAt L k).a = p
    · simp [h2]
    · simp only [h2, if_false]; rw [h]; omega

/-- the invariant of the walk; `m`: all points below it are grouped, no beginning is above it -/
structure Tree (n m : Nat) (L : List Lk) (s : WS) (d : Nat → Nat) : Prop where
  non : ∀ p, s.g p = none → s.c p = none
  zb : ∀ p, s.g p = none → s.b p = 0
  out : ∀ p, n ≤ p → s.g p = none
  bit : ∀ p, s.b p < 2
  par : ∀ p k, s.c p = some k → k < L.length ∧ isEnd L k p ∧ s.g (oe (lkAt L k) p) = s.g p ∧
      s.b p = (s.b (oe (lkAt L k) p) + xx L k) % 2 ∧ d (oe (lkAt L k) p) < d p
  root : ∀ p, s.g p ≠ none → s.c p = none → s.b p = 0 ∧ p ≤ m ∧ ∀ q, s.g q = s.g p → p ≤ q
  low : ∀ q, q < m → q < n → s.g q ≠ none
  ring : ∀ r, s.r = some r → OddRing L r

inductive Way (L : List Lk) (s : WS) : Nat → List Nat → Nat → Prop
  | nil {p} : s.c p = none → Way L s p [] p
  | cons {p k w e} : s.c p = some k → Way L s (oe (lkAt L k) p) w e → Way L s p (k :: w) e

theorem way_ex {n m : Nat} {L : List Lk} {s : WS} {d : Nat → Nat} (h : Tree n m L s d) :
    ∀ N p, d p < N → s.g p ≠ none → ∃ w e, Way L s p w e ∧ s.g e = s.g p ∧ s.c e = none ∧
      (∀ q, Sm (fun k => cx L k q) w % 2 = ((if p = q then 1 else 0) + (if e = q then 1 else 0)) % 2) ∧
      Sm (xx L) w % 2 = s.b p ∧ w.Nodup ∧ ∀ k ∈ w, k < L.length ∧ ∃ q, s.c q = some k ∧ d q ≤ d p := by
  intro N
  induction N with
  | zero => intro p hp; omega
  | succ N ih =>
    intro p hp hg
    cases hc : s.c p with
    | none =>
      have hr := (h.root p hg hc).1
      refine ⟨[], p, .nil hc, rfl, hc, ?_, ?_, List.nodup_nil, by simp⟩
      · intro q; simp only [Sm, List.map_nil, List.sum_nil]; split <;> rfl
      · simp [Sm, hr]
    | some k =>
      have ⟨hk, he, hg2, hb, hd⟩ := h.par p k hc
      obtain ⟨w, e, hw, h1, h2, h3, h4, h5, h6⟩ := ih (oe (lkAt L k) p) (by omega) (by rw [hg2]; exact hg)
      refine ⟨k :: w, e, .cons hc hw, by rw [h1, hg2], h2, ?_, ?_, ?_, ?_⟩
      · intro q
        have := h3 q
        simp only [Sm, List.map_cons, List.sum_cons] at *
        rw [cx_end he q]
        generalize (if e = q then 1 else 0) = E at *
        generalize (if p = q then 1 else 0) = P at *
        generalize (if oe (lkAt L k) p = q then 1 else 0) = O at *
        omega
      · simp only [Sm, List.map_cons, List.sum_cons] at *
        rw [hb, ← h4]
        omega
      · refine List.nodup_cons.mpr ⟨?_, h5⟩
        intro hin
        obtain ⟨_, q, hq, hdq⟩ := h6 k hin
        have hq2 := h.par q k hq
        -- q is an end of k, deeper than its other end; so q = p
        have : q = p := by
          have e1 := hq2.2.1
          have d1 := hq2.2.2.2.2
          have e2 := cx_end he q
          have e3 := cx_end e1 p
          apply Classical.byContradiction
          intro hne
          have o1 := oe_oe he
          have o2 := oe_oe e1
          have : oe (lkAt L k) p = q := by
            unfold isEnd at he e1
            unfold oe
            rcases he with he | he <;> rcases e1 with e1 | e1
            · exact absurd (e1.symm.trans he) hne
            · rw [if_pos he]; exact e1
            · rw [if_neg (fun h => hne (e1.symm.trans h))]; exact e1
            · exact absurd (e1.symm.trans he) hne
          rw [this] at hd o1
          rw [o1] at d1
          omega
        subst this
        omega
      · intro k' hk'
        rcases List.mem_cons.mp hk' with rfl | hk'
        · exact ⟨hk, p, hc, Nat.le_refl _⟩
        · obtain ⟨h7, q, h8, h9⟩ := h6 k' hk'
          exact ⟨h7, q, h8, by omega⟩

theorem way_det {L : List Lk} {s : WS} {p w e} (h : Way L s p w e) : ∀ {w' e'}, Way L s p w' e' → w = w' ∧ e = e' := by
  induction h with
  | nil hc => intro w' e' h'; cases h' with
    | nil _ => exact ⟨rfl, rfl⟩
    | cons hc' _ => rw [hc] at hc'; cases hc'
  | cons hc hw ih => intro w' e' h'; cases h' with
    | nil hc' => rw [hc] at hc'; cases hc'
    | cons hc' hw' => rw [hc] at hc'; cases hc'; obtain ⟨h1, h2⟩ := ih hw'; exact ⟨by rw [h1], h2⟩

/-- what is in just one of two lists -/
def sd (xs ys : List Nat) : List Nat :=
  xs.filter (fun k => !ys.contains k) ++ ys.filter (fun k => !xs.contains k)

theorem Sm_append (f : Nat → Nat) (a b : List Nat) : Sm f (a ++ b) = Sm f a + Sm f b := by
  simp [Sm]

theorem Sm_perm (f : Nat → Nat) {a b : List Nat} (h : a.Perm b) : Sm f a = Sm f b := by
  induction h with
  | nil => rfl
  | cons x _ ih => simp only [Sm, List.map_cons, List.sum_cons] at *; omega
  | swap x y l => simp only [Sm, List.map_cons, List.sum_cons]; omega
  | trans _ _ h1 h2 => exact h1.trans h2

theorem Sm_split (f : Nat → Nat) (P : Nat → Bool) (a : List Nat) :
    Sm f a = Sm f (a.filter P) + Sm f (a.filter (fun k => !P k)) := by
  induction a with
  | nil => rfl
  | cons x xs ih =>
    simp only [List.filter_cons]
    cases hP : P x <;> simp only [Sm, List.map_cons, List.sum_cons, Bool.not_true, Bool.not_false, if_true,
      Bool.false_eq_true, if_false] at * <;> omega

theorem sd_sum (f : Nat → Nat) {a b : List Nat} (ha : a.Nodup) (hb : b.Nodup) :
    Sm f (sd a b) % 2 = (Sm f a + Sm f b) % 2 := by
  have h1 := Sm_split f (fun k => b.contains k) a
  have h2 := Sm_split f (fun k => a.contains k) b
  have h3 : (a.filter (fun k => b.contains k)).Perm (b.filter (fun k => a.contains k)) := by
    refine (List.perm_ext_iff_of_nodup (ha.sublist List.filter_sublist) (hb.sublist List.filter_sublist)).mpr ?_
    intro x; simp [List.mem_filter, and_comm]
  have h4 := Sm_perm f h3
  unfold sd
  rw [Sm_append]
  omega

theorem sd_nodup {a b : List Nat} (ha : a.Nodup) (hb : b.Nodup) : (sd a b).Nodup := by
  unfold sd
  refine List.nodup_append.mpr ⟨ha.sublist List.filter_sublist, hb.sublist List.filter_sublist, ?_⟩
  intro x hx y hy hxy
  subst hxy
  have h1 := (List.mem_filter.mp hx)
  have h2 := (List.mem_filter.mp hy)
  have h3 := h1.2
  simp [h2.1] at h3

theorem sd_mem {a b : List Nat} {k : Nat} (h : k ∈ sd a b) : k ∈ a ∨ k ∈ b := by
  unfold sd at h
  rcases List.mem_append.mp h with h | h
  · exact .inl (List.mem_filter.mp h).1
  · exact .inr (List.mem_filter.mp h).1

/-- the ring that a mismatching link closes -/
theorem ring_of {n m : Nat} {L : List Lk} {s : WS} {d : Nat → Nat} (h : Tree n m L s d) (hL : LOk n L)
    {k : Nat} (hk : k < L.length) (hga : s.g (lkAt L k).a ≠ none)
    (hgg : s.g (lkAt L k).a = s.g (lkAt L k).b) (hbb : s.b (lkAt L k).b ≠ (s.b (lkAt L k).a + xx L k) % 2)
    {w w' e e' : _} (hw : Way L s (lkAt L k).a w e) (hw' : Way L s (lkAt L k).b w' e')
    {r : List Nat} (hr : r.Perm (sd w w' ++ [k])) (hs : r.Pairwise (· ≤ ·)) : OddRing L r := by
  obtain ⟨w1, e1, g1, g2, g3, g4, g5, g6, g7⟩ := way_ex h (d (lkAt L k).a + 1) (lkAt L k).a (by omega) hga
  obtain ⟨w2, e2, f1, f2, f3, f4, f5, f6, f7⟩ := way_ex h (d (lkAt L k).b + 1) (lkAt L k).b (by omega) (by rw [← hgg]; exact hga)
  obtain ⟨rfl, rfl⟩ := way_det hw g1
  obtain ⟨rfl, rfl⟩ := way_det hw' f1
  have hee : e = e' := by
    have r1 := (h.root e (by rw [g2]; exact hga) g3).2.2 e' (by rw [f2, g2, hgg])
    have r2 := (h.root e' (by rw [f2, ← hgg]; exact hga) f3).2.2 e (by rw [f2, g2, hgg])
    omega
  subst hee
  have hkn : ∀ q, s.c q ≠ some k := by
    intro q hq
    have ⟨_, p1, p2, p3, _⟩ := h.par q k hq
    have q1 := h.bit (lkAt L k).a
    have q2 := h.bit (lkAt L k).b
    have q3 : xx L k < 2 := hL.x k hk
    unfold isEnd at p1
    unfold oe at p2 p3
    by_cases h7 : (lkAt L k).a = q
    · rw [if_pos h7] at p3
      rw [h7] at hbb q1
      omega
    · rw [if_neg h7] at p3
      rcases p1 with p1 | p1
      · exact h7 p1
      · rw [p1] at hbb q2; exact hbb p3
  have hnd : (sd w w' ++ [k]).Nodup := by
    refine List.nodup_append.mpr ⟨sd_nodup g6 f6, by simp, ?_⟩
    intro x hx y hy hxy
    simp only [List.mem_singleton] at hy
    subst hxy
    rw [hy] at hx
    rcases sd_mem hx with hx | hx
    · obtain ⟨_, q, hq, _⟩ := g7 k hx; exact hkn q hq
    · obtain ⟨_, q, hq, _⟩ := f7 k hx; exact hkn q hq
  refine ⟨?_, ?_, ?_, ?_⟩
  · intro x hx
    have := hr.mem_iff.mp hx
    rcases List.mem_append.mp this with hx | hx
    · rcases sd_mem hx with hx | hx
      · exact (g7 x hx).1
      · exact (f7 x hx).1
    · simp only [List.mem_singleton] at hx; rw [hx]; exact hk
  · have hn : r.Nodup := hr.nodup_iff.mpr hnd
    exact List.Pairwise.imp₂ (fun a b h1 h2 => Nat.lt_of_le_of_ne h1 h2) hs hn
  · intro p
    have i1 := g4 p
    have i2 := f4 p
    have i3 := sd_sum (fun k => cx L k p) g6 f6
    rw [Sm_perm _ hr, Sm_append]
    have i4 : Sm (fun k => cx L k p) [k] = cx L k p := by simp [Sm]
    have i5 := cx_end (L := L) (k := k) (p := (lkAt L k).a) (.inl rfl) p
    rw [show oe (lkAt L k) (lkAt L k).a = (lkAt L k).b by simp [oe]] at i5
    rw [i4, i5]
    generalize (if (lkAt L k).a = p then 1 else 0) = A at *
    generalize (if (lkAt L k).b = p then 1 else 0) = B at *
    generalize (if e = p then 1 else 0) = E at *
    omega
  · have i3 := sd_sum (xx L) g6 f6
    rw [Sm_perm _ hr, Sm_append]
    have i4 : Sm (xx L) [k] = xx L k := by simp [Sm]
    have q1 := h.bit (lkAt L k).a
    have q2 := h.bit (lkAt L k).b
    have q3 : xx L k < 2 := hL.x k hk
    rw [i4]
    omega
end M

/- The steps of the walk, plainly: go, begin, parted. -/
namespace M

def upd1 {α} (f : Nat → α) (p : Nat) (v : α) : Nat → α := fun q => if q = p then v else f q
@[simp] theorem upd1_same {α} (f : Nat → α) (p : Nat) (v : α) : upd1 f p v p = v := by simp [upd1]
theorem upd1_ne {α} (f : Nat → α) {p q : Nat} (v : α) (h : q ≠ p) : upd1 f p v q = f q := by simp [upd1, h]

/-- the links at a point -/
def AT (L : List Lk) (i p : Nat) : List Nat := (List.range i).flatMap (fun k => List.replicate (cx L k p) k)

theorem mem_AT {L : List Lk} {i p k : Nat} : k ∈ AT L i p ↔ k < i ∧ isEnd L k p := by
  unfold AT isEnd
  rw [List.mem_flatMap]
  constructor
  · rintro ⟨j, hj, hk⟩
    obtain ⟨h1, rfl⟩ := List.mem_replicate.mp hk
    refine ⟨List.mem_range.mp hj, ?_⟩
    unfold cx at h1
    by_cases h2 : (lkAt L k).a = p
    · exact .inl h2
    · by_cases h3 : (lkAt L k).b = p
      · exact .inr h3
      · simp [h2, h3] at h1
  · rintro ⟨h1, h2⟩
    refine ⟨k, List.mem_range.mpr h1, List.mem_replicate.mpr ⟨?_, rfl⟩⟩
    unfold cx
    rcases h2 with h2 | h2 <;> simp [h2]

/-- one step along link k from p -/
inductive GoR (L : List Lk) (p k : Nat) : WS × List Nat → WS × List Nat → Prop
  | new {s W} : s.g (oe (lkAt L k) p) = none →
      GoR L p k (s, W) ({ s with g := upd1 s.g (oe (lkAt L k) p) (s.g p), b := upd1 s.b (oe (lkAt L k) p) ((s.b p + xx L k) % 2), c := upd1 s.c (oe (lkAt L k) p) (some k) }, W ++ [oe (lkAt L k) p])
  | old {s W} : s.g (oe (lkAt L k) p) ≠ none → (s.b (oe (lkAt L k) p) = (s.b p + xx L k) % 2 ∨ s.r ≠ none) →
      GoR L p k (s, W) (s, W)
  | bad {s W r} : s.g (oe (lkAt L k) p) ≠ none → s.b (oe (lkAt L k) p) ≠ (s.b p + xx L k) % 2 → s.r = none →
      OddRing L r → GoR L p k (s, W) ({ s with r := some r }, W)

/-- link k is settled at p -/
def Proc (L : List Lk) (s : WS) (p k : Nat) : Prop :=
  s.g (oe (lkAt L k) p) = s.g p ∧ (s.r = none → s.b (oe (lkAt L k) p) = (s.b p + xx L k) % 2)

/-- what is grouped stays -/
structure Ext (s t : WS) : Prop where
  g : ∀ q, s.g q ≠ none → t.g q = s.g q ∧ t.b q = s.b q
  r : t.r = none → s.r = none

theorem Ext.rfl' (s : WS) : Ext s s := ⟨fun _ _ => ⟨rfl, rfl⟩, id⟩
theorem Ext.trans {s t u : WS} (h : Ext s t) (h2 : Ext t u) : Ext s u := by
  refine ⟨fun q hq => ?_, fun h3 => h.r (h2.r h3)⟩
  have a := h.g q hq
  have b := h2.g q (by rw [a.1]; exact hq)
  exact ⟨b.1.trans a.1, b.2.trans a.2⟩

theorem Proc.mono {L : List Lk} {s t : WS} {p k : Nat} (h : Proc L s p k) (hp : s.g p ≠ none) (he : Ext s t) :
    Proc L t p k := by
  have a := he.g p hp
  have b := he.g (oe (lkAt L k) p) (by rw [h.1]; exact hp)
  refine ⟨by rw [a.1, b.1, h.1], fun hr => ?_⟩
  rw [a.2, b.2]; exact h.2 (he.r hr)

/-- the invariant of begin's walk, at point m with group G, from state s0 -/
structure BI (n m G : Nat) (L : List Lk) (s0 s : WS) (W : List Nat) : Prop where
  tree : ∃ d, Tree n m L s d
  ext : Ext s0 s
  val : ∀ q, s.g q ≠ none → s0.g q ≠ none ∨ s.g q = some G
  wt : ∀ q, q ∈ W → s.g q = some G ∧ s0.g q = none ∧ q < n
  bg : ∀ q, q < n → s0.g q = none → m ≤ q

theorem isEnd_oe_lt {n : Nat} {L : List Lk} (hL : LOk n L) {k p : Nat} (hk : k < L.length) : oe (lkAt L k) p < n := by
  unfold oe; split
  · exact hL.b k hk
  · exact hL.a k hk

def ungr (n : Nat) (s : WS) : Nat := ((List.range n).filter (fun q => (s.g q).isNone)).length

theorem filter_upd_len {n t : Nat} (P Q : Nat → Bool) (ht : t < n) (hPt : P t = true) (hQt : Q t = false)
    (h : ∀ q, q ≠ t → Q q = P q) : ((List.range n).filter Q).length + 1 = ((List.range n).filter P).length := by
  induction n with
  | zero => omega
  | succ n ih =>
    rw [List.range_succ, List.filter_append, List.filter_append, List.length_append, List.length_append]
    by_cases h1 : t = n
    · subst h1
      have : (List.range t).filter Q = (List.range t).filter P := by
        apply List.filter_congr
        intro x hx
        exact h x (by have := List.mem_range.mp hx; omega)
      rw [this]
      simp [List.filter_cons, hPt, hQt]
    · have := ih (by omega)
      have h2 := h n (by omega)
      simp only [List.filter_cons, h2, List.filter_nil]
      split <;> simp <;> omega

theorem go_tree {n m : Nat} {L : List Lk} (hL : LOk n L) {s t : WS} {W W' : List Nat} {p k : Nat} {d : Nat → Nat}
    (h : Tree n m L s d) (hk : k < L.length) (he : isEnd L k p) (hp : s.g p ≠ none)
    (hm : ∀ q, s.c q = none → s.g q = s.g p → q = m)
    (hg : GoR L p k (s, W) (t, W')) : ∃ d', Tree n m L t d' := by
  cases hg with
  | old _ _ => exact ⟨d, h⟩
  | bad h1 h2 h3 h4 =>
    refine ⟨d, ⟨h.non, h.zb, h.out, h.bit, h.par, h.root, h.low, ?_⟩⟩
    intro r hr; cases hr; exact h4
  | new h1 =>
    refine ⟨upd1 d (oe (lkAt L k) p) (d p + 1), ?_⟩
    have hpt : p ≠ oe (lkAt L k) p := by intro h2; rw [← h2] at h1; exact hp h1
    have htn := isEnd_oe_lt hL (p := p) hk
    generalize hT : oe (lkAt L k) p = T at *
    have hTm : m ≤ T := by
      apply Nat.le_of_not_lt; intro h2; exact h.low T h2 htn h1
    have hpa : ∀ q k', s.c q = some k' → oe (lkAt L k') q ≠ T := by
      intro q k' hq h2
      have h3 := h.par q k' hq
      rw [h2, h1] at h3
      have := h.non q h3.2.2.1.symm
      rw [this] at hq; cases hq
    have hcT := h.non T h1
    refine ⟨?_, ?_, ?_, ?_, ?_, ?_, ?_, h.ring⟩
    · intro q hq
      by_cases h2 : q = T
      · subst h2; simp at hq; exact absurd hq hp
      · simp only [upd1_ne _ _ h2] at *; exact h.non q hq
    · intro q hq
      by_cases h2 : q = T
      · subst h2; simp at hq; exact absurd hq hp
      · simp only [upd1_ne _ _ h2] at *; exact h.zb q hq
    · intro q hq
      have h2 : q ≠ T := by omega
      simp only [upd1_ne _ _ h2]; exact h.out q hq
    · intro q
      by_cases h2 : q = T
      · subst h2; simp; omega
      · simp only [upd1_ne _ _ h2]; exact h.bit q
    · intro q k' hq
      by_cases h2 : q = T
      · subst h2
        simp only [upd1_same, Option.some.injEq] at hq
        subst hq
        have ho : oe (lkAt L k) q = p := by rw [← hT]; exact oe_oe he
        rw [ho]
        have hE := oe_end he
        rw [hT] at hE
        simp only [upd1_same, upd1_ne _ _ hpt]
        exact ⟨hk, hE, trivial, trivial, by omega⟩
      · simp only [upd1_ne _ _ h2] at hq ⊢
        have h3 := hpa q k' hq
        simp only [upd1_ne _ _ h3]
        exact h.par q k' hq
    · intro q hq hc
      by_cases h2 : q = T
      · subst h2; simp at hc
      · simp only [upd1_ne _ _ h2] at *
        obtain ⟨r1, r2, r3⟩ := h.root q hq hc
        refine ⟨r1, r2, ?_⟩
        intro q' hq'
        by_cases h4 : q' = T
        · omega
        · simp only [upd1_ne _ _ h4] at hq'; exact r3 q' hq'
    · intro q hq hn
      by_cases h2 : q = T
      · subst h2; simp; exact hp
      · simp only [upd1_ne _ _ h2]; exact h.low q hq hn

theorem go_ext {L : List Lk} {s t : WS} {W W' : List Nat} {p k : Nat}
    (hg : GoR L p k (s, W) (t, W')) : Ext s t := by
  cases hg with
  | old _ _ => exact .rfl' _
  | bad h1 h2 h3 h4 => exact ⟨fun _ _ => ⟨rfl, rfl⟩, fun h => by cases h⟩
  | new h1 =>
    refine ⟨fun q hq => ?_, id⟩
    have : q ≠ oe (lkAt L k) p := by intro h2; rw [h2] at hq; exact hq h1
    simp only [upd1_ne _ _ this, and_self]

/-- what a step makes of the walk's invariant; the link is settled then -/
theorem go_bi {n m G : Nat} {L : List Lk} (hL : LOk n L) {s0 s t : WS} {W W' : List Nat} {p k : Nat}
    (h : BI n m G L s0 s W) (hk : k < L.length) (he : isEnd L k p) (hp : s.g p = some G) (hp0 : s0.g p = none)
    (h0 : ∀ q, s0.g q ≠ none → s0.g q ≠ some G ∧ ∀ k, k < L.length → isEnd L k q → s0.g (oe (lkAt L k) q) ≠ none)
    (hg : GoR L p k (s, W) (t, W')) :
    BI n m G L s0 t W' ∧ Proc L t p k ∧ W'.length + ungr n t = W.length + ungr n s ∧ (∀ q, q ∈ W → q ∈ W') ∧
      (∀ q, t.g q ≠ none → s.g q ≠ none ∨ q ∈ W') := by
  have hpn : s.g p ≠ none := by rw [hp]; simp
  have hT0 : s0.g (oe (lkAt L k) p) = none := by
    apply Classical.byContradiction
    intro h2
    have := (h0 _ h2).2 k hk (oe_end he)
    rw [oe_oe he] at this
    exact this hp0
  have hrm : ∀ q, s.c q = none → s.g q = s.g p → q = m := by
    intro q hc hq
    obtain ⟨d, hd⟩ := h.tree
    have hqn : s.g q ≠ none := by rw [hq]; exact hpn
    have r := hd.root q hqn hc
    have : s0.g q = none := by
      apply Classical.byContradiction
      intro h2
      have h3 := (h.ext.g q h2).1
      rw [hq, hp] at h3
      exact (h0 q h2).1 h3.symm
    have hqn2 : q < n := by
      apply Nat.lt_of_not_le; intro h3; exact hqn (hd.out q h3)
    have := h.bg q hqn2 this
    omega
  have hext := go_ext hg
  obtain ⟨d, hd⟩ := h.tree
  have htree := go_tree hL hd hk he hpn hrm hg
  have hTn := isEnd_oe_lt hL (p := p) hk
  cases hg with
  | old h1 h2 =>
    refine ⟨h, ⟨?_, ?_⟩, rfl, fun _ h => h, fun _ h => .inl h⟩
    · rw [hp]; rcases h.val _ h1 with h3 | h3
      · exact absurd hT0 h3
      · exact h3
    · intro hr; rcases h2 with h2 | h2
      · exact h2
      · exact absurd hr h2
  | bad h1 h2 h3 h4 =>
    refine ⟨⟨htree, h.ext.trans hext, h.val, h.wt, h.bg⟩, ⟨?_, ?_⟩, rfl, fun _ h => h, fun _ h => .inl h⟩
    · simp only; rw [hp]; rcases h.val _ h1 with h3 | h3
      · exact absurd hT0 h3
      · exact h3
    · intro hr; cases hr
  | new h1 =>
    have hpt : p ≠ oe (lkAt L k) p := by intro h2; rw [← h2] at h1; exact hpn h1
    generalize hT : oe (lkAt L k) p = T at *
    refine ⟨⟨htree, h.ext.trans hext, ?_, ?_, h.bg⟩, ⟨?_, ?_⟩, ?_, ?_, ?_⟩
    · intro q hq
      by_cases h2 : q = T
      · subst h2; simp [hp]
      · simp only [upd1_ne _ _ h2] at *; exact h.val q hq
    · intro q hq
      by_cases h2 : q = T
      · subst h2; simp [hp, hT0, hTn]
      · simp only [upd1_ne _ _ h2] at *
        rcases List.mem_append.mp hq with hq | hq
        · exact h.wt q hq
        · simp at hq; exact absurd hq h2
    · rw [hT]; simp only [upd1_same, upd1_ne _ _ hpt]
    · intro _; rw [hT]; simp only [upd1_same, upd1_ne _ _ hpt]
    · simp only [List.length_append, List.length_cons, List.length_nil]
      have := filter_upd_len (n := n) (t := T) (fun q => (s.g q).isNone)
        (fun q => (upd1 s.g T (s.g p) q).isNone) hTn (by simp [h1]) (by simp [hp])
        (fun q hq => by simp only [upd1_ne _ _ hq])
      unfold ungr
      simp only
      omega
    · intro q hq; exact List.mem_append_left _ hq
    · intro q hq
      by_cases h2 : q = T
      · right; subst h2; simp
      · simp only [upd1_ne _ _ h2] at hq; exact .inl hq

/-- all is settled at what is grouped -/
def Cl (L : List Lk) (s : WS) : Prop := ∀ q, s.g q ≠ none → ∀ k, k < L.length → isEnd L k q → Proc L s q k

/-- the loop's invariant: what is new and not waiting is settled -/
def WCl (L : List Lk) (s0 s : WS) (W : List Nat) : Prop :=
  ∀ q, s.g q ≠ none → s0.g q = none → q ∈ W ∨ ∀ k, k < L.length → isEnd L k q → Proc L s q k

/-- the state of parted's loop, ahead of point m, with so many groups -/
structure OI (n m G : Nat) (L : List Lk) (s : WS) : Prop where
  tree : ∃ d, Tree n m L s d
  cl : Cl L s
  val : ∀ q v, s.g q = some v → v < G
  num : ∀ q v w, s.g q = some v → w < v → ∃ q', q' < q ∧ s.g q' = some w
  lowv : ∀ w, w < G → ∃ q, q < m ∧ s.g q = some w
  full : ∀ q, q < m → q < n → s.g q ≠ none

/-- begin's first step -/
def bstart (s : WS) (m G : Nat) : WS := { s with g := upd1 s.g m (some G) }

theorem bstart_bi {n m G : Nat} {L : List Lk} {s : WS} (h : OI n m G L s) (hm : m < n) (hg : s.g m = none) : BI n m G L s (bstart s m G) [m] ∧ WCl L s (bstart s m G) [m] := by
  obtain ⟨d, hd⟩ := h.tree
  have hcm := hd.non m hg
  have hb := hd.zb m hg
  have hpa : ∀ q k', s.c q = some k' → oe (lkAt L k') q ≠ m := by
    intro q k' hq h2
    have h3 := hd.par q k' hq
    rw [h2, hg] at h3
    have := hd.non q h3.2.2.1.symm
    rw [this] at hq; cases hq
  have hGv : ∀ q, s.g q ≠ some G := by
    intro q hq; have := h.val q G hq; omega
  refine ⟨⟨⟨d, ⟨?_, ?_, ?_, hd.bit, ?_, ?_, ?_, hd.ring⟩⟩, ⟨?_, id⟩, ?_, ?_, ?_⟩, ?_⟩
  · intro q hq; unfold bstart at *
    by_cases h2 : q = m
    · subst h2; exact hcm
    · simp only [upd1_ne _ _ h2] at hq; exact hd.non q hq
  · intro q hq; unfold bstart at *
    by_cases h2 : q = m
    · subst h2; exact hb
    · simp only [upd1_ne _ _ h2] at hq; exact hd.zb q hq
  · intro q hq; unfold bstart
    have h2 : q ≠ m := by omega
    simp only [upd1_ne _ _ h2]; exact hd.out q hq
  · intro q k' hq; unfold bstart at *
    have h3 := hpa q k' hq
    have h2 : q ≠ m := by intro h4; subst h4; rw [hcm] at hq; cases hq
    simp only [upd1_ne _ _ h3, upd1_ne _ _ h2]; exact hd.par q k' hq
  · intro q hq hc; unfold bstart at *
    by_cases h2 : q = m
    · subst h2
      refine ⟨hb, Nat.le_refl _, ?_⟩
      intro q' hq'
      simp only [upd1_same] at hq'
      by_cases h4 : q' = q
      · omega
      · simp only [upd1_ne _ _ h4] at hq'; exact absurd hq' (hGv q')
    · simp only [upd1_ne _ _ h2] at *
      obtain ⟨r1, r2, r3⟩ := hd.root q hq hc
      refine ⟨r1, r2, ?_⟩
      intro q' hq'
      by_cases h4 : q' = m
      · omega
      · simp only [upd1_ne _ _ h4] at hq'; exact r3 q' hq'
  · intro q hq hn; unfold bstart
    have h2 : q ≠ m := by omega
    simp only [upd1_ne _ _ h2]; exact hd.low q hq hn
  · intro q hq; unfold bstart
    have h2 : q ≠ m := by intro h4; subst h4; exact hq hg
    simp only [upd1_ne _ _ h2, and_self]
  · intro q hq; unfold bstart at *
    by_cases h2 : q = m
    · subst h2; simp
    · simp only [upd1_ne _ _ h2] at *; exact .inl hq
  · intro q hq; simp only [List.mem_singleton] at hq; subst hq
    exact ⟨by simp [bstart], hg, hm⟩
  · intro q hq hq0
    apply Nat.le_of_not_lt; intro h3; exact h.full q h3 hq hq0
  · intro q hq hq0; left; unfold bstart at hq
    by_cases h2 : q = m
    · simp [h2]
    · simp only [upd1_ne _ _ h2] at hq; exact absurd hq0 hq

/-- what begin leaves -/
theorem begin_end {n m G : Nat} {L : List Lk} {s t : WS} (h : OI n m G L s) (hm : m < n)
    (hb : BI n m G L s t []) (hw : WCl L s t []) (hgm : t.g m = some G) : OI n (m + 1) (G + 1) L t := by
  obtain ⟨d, hd⟩ := hb.tree
  have hcase : ∀ q v, t.g q = some v → (s.g q = some v ∧ v < G) ∨ (s.g q = none ∧ v = G ∧ m ≤ q) := by
    intro q v hq
    have hqn : t.g q ≠ none := by rw [hq]; simp
    by_cases h2 : s.g q = none
    · right
      rcases hb.val q hqn with h3 | h3
      · exact absurd h2 h3
      · rw [hq] at h3; cases h3
        refine ⟨h2, rfl, hb.bg q ?_ h2⟩
        apply Nat.lt_of_not_le; intro h4; exact hqn (hd.out q h4)
    · left
      have h3 := (hb.ext.g q h2).1
      rw [hq] at h3
      exact ⟨h3.symm, h.val q v h3.symm⟩
  refine ⟨⟨d, ⟨hd.non, hd.zb, hd.out, hd.bit, hd.par, ?_, ?_, hd.ring⟩⟩, ?_, ?_, ?_, ?_, ?_⟩
  · intro p hp hc
    obtain ⟨a, b, c⟩ := hd.root p hp hc
    exact ⟨a, by omega, c⟩
  · intro q hq hn
    by_cases h2 : q = m
    · subst h2; rw [hgm]; simp
    · exact hd.low q (by omega) hn
  · intro q hq k hk he
    by_cases h2 : s.g q = none
    · rcases hw q hq h2 with h3 | h3
      · cases h3
      · exact h3 k hk he
    · exact (h.cl q h2 k hk he).mono h2 hb.ext
  · intro q v hq
    rcases hcase q v hq with h2 | h2 <;> omega
  · intro q v w hq hw2
    rcases hcase q v hq with ⟨h2, h3⟩ | ⟨h2, h3, h4⟩
    · obtain ⟨q', a, b⟩ := h.num q v w h2 hw2
      exact ⟨q', a, by rw [(hb.ext.g q' (by rw [b]; simp)).1, b]⟩
    · obtain ⟨q', a, b⟩ := h.lowv w (by omega)
      exact ⟨q', by omega, by rw [(hb.ext.g q' (by rw [b]; simp)).1, b]⟩
  · intro w hw2
    by_cases h2 : w = G
    · subst h2; exact ⟨m, by omega, hgm⟩
    · obtain ⟨q', a, b⟩ := h.lowv w (by omega)
      exact ⟨q', by omega, by rw [(hb.ext.g q' (by rw [b]; simp)).1, b]⟩
  · intro q hq hn
    by_cases h2 : q = m
    · subst h2; rw [hgm]; simp
    · exact hd.low q (by omega) hn

theorem skip_oi {n m G : Nat} {L : List Lk} {s : WS} (h : OI n m G L s) (hg : s.g m ≠ none) : OI n (m + 1) G L s := by
  obtain ⟨d, hd⟩ := h.tree
  refine ⟨⟨d, ⟨hd.non, hd.zb, hd.out, hd.bit, hd.par, ?_, ?_, hd.ring⟩⟩, h.cl, h.val, h.num, ?_, ?_⟩
  · intro p hp hc
    obtain ⟨a, b, c⟩ := hd.root p hp hc
    exact ⟨a, by omega, c⟩
  · intro q hq hn
    by_cases h2 : q = m
    · subst h2; exact hg
    · exact hd.low q (by omega) hn
  · intro w hw; obtain ⟨q, a, b⟩ := h.lowv w hw; exact ⟨q, by omega, b⟩
  · intro q hq hn
    by_cases h2 : q = m
    · subst h2; exact hg
    · exact h.full q (by omega) hn

def WS0 : WS := ⟨fun _ => none, fun _ => 0, fun _ => none, none⟩
theorem oi_zero (n : Nat) (L : List Lk) : OI n 0 0 L WS0 := by
  refine ⟨⟨fun _ => 0, ⟨fun _ _ => rfl, fun _ _ => rfl, fun _ _ => rfl, fun _ => by simp [WS0], ?_, ?_, ?_, ?_⟩⟩, ?_, ?_, ?_, ?_, ?_⟩
  · intro p k h; cases h
  · intro p h; exact absurd rfl h
  · intro q h; omega
  · intro r h; cases h
  · intro q h; exact absurd rfl h
  · intro q v h; cases h
  · intro q v w h; cases h
  · intro w h; omega
  · intro q h; omega

/-- joined by links -/
inductive Con (L : List Lk) : Nat → Nat → Prop
  | refl (p) : Con L p p
  | step {p q k} : Con L p q → k < L.length → isEnd L k q → Con L p (oe (lkAt L k) q)

theorem Con.trans {L : List Lk} {p q r : Nat} (h : Con L p q) (h2 : Con L q r) : Con L p r := by
  induction h2 with
  | refl => exact h
  | step _ hk he ih => exact .step ih hk he

theorem Con.symm {L : List Lk} {p q : Nat} (h : Con L p q) : Con L q p := by
  induction h with
  | refl => exact .refl _
  | step _ hk he ih =>
    have := Con.step (.refl _) hk (oe_end he)
    rw [oe_oe he] at this
    exact this.trans ih

theorem way_con {n m : Nat} {L : List Lk} {s : WS} {d : Nat → Nat} (h : Tree n m L s d) {p w e}
    (hw : Way L s p w e) : Con L p e := by
  induction hw with
  | nil _ => exact .refl _
  | cons hc _ ih =>
    have ⟨hk, he, _⟩ := h.par _ _ hc
    exact (Con.step (.refl _) hk he).trans ih

/-- what parted tells -/
structure Good (n : Nat) (L : List Lk) (g b : Nat → Nat) (r : Option (List Nat)) : Prop where
  bit : ∀ p, b p < 2
  grp : ∀ k, k < L.length → g (lkAt L k).a = g (lkAt L k).b
  apart : r = none → ∀ k, k < L.length → b (lkAt L k).b = (b (lkAt L k).a + xx L k) % 2
  ring : ∀ r', r = some r' → OddRing L r'
  con : ∀ p q, p < n → q < n → g p = g q → Con L p q
  num : ∀ p v, p < n → v < g p → ∃ q, q < p ∧ g q = v
  first : ∀ p, p < n → (∀ q, q < p → g q ≠ g p) → b p = 0

theorem oi_good {n G : Nat} {L : List Lk} (hL : LOk n L) {s : WS} (h : OI n n G L s) :
    Good n L (fun p => (s.g p).getD 0) s.b s.r ∧ ∀ p, p < n → s.g p = some ((s.g p).getD 0) := by
  obtain ⟨d, hd⟩ := h.tree
  have hall : ∀ p, p < n → s.g p = some ((s.g p).getD 0) := by
    intro p hp
    have := h.full p hp hp
    cases hg : s.g p with
    | none => exact absurd hg this
    | some v => rfl
  refine ⟨⟨hd.bit, ?_, ?_, hd.ring, ?_, ?_, ?_⟩, hall⟩
  · intro k hk
    have ha := hL.a k hk
    have := h.cl (lkAt L k).a (h.full _ ha ha) k hk (.inl rfl)
    rw [Proc, show oe (lkAt L k) (lkAt L k).a = (lkAt L k).b by simp [oe]] at this
    simp only [this.1]
  · intro hr k hk
    have ha := hL.a k hk
    have := h.cl (lkAt L k).a (h.full _ ha ha) k hk (.inl rfl)
    rw [Proc, show oe (lkAt L k) (lkAt L k).a = (lkAt L k).b by simp [oe]] at this
    exact this.2 hr
  · intro p q hp hq hpq
    have hgg : s.g p = s.g q := by rw [hall p hp, hall q hq, hpq]
    have hgp := h.full p hp hp
    have hgq := h.full q hq hq
    obtain ⟨w, e, h1, h2, h3, _⟩ := way_ex hd (d p + 1) p (by omega) hgp
    obtain ⟨w', e', f1, f2, f3, _⟩ := way_ex hd (d q + 1) q (by omega) hgq
    have hee : e = e' := by
      have r1 := (hd.root e (by rw [h2]; exact hgp) h3).2.2 e' (by rw [f2, h2, hgg])
      have r2 := (hd.root e' (by rw [f2]; exact hgq) f3).2.2 e (by rw [f2, h2, hgg])
      omega
    subst hee
    exact (way_con hd h1).trans (way_con hd f1).symm
  · intro p v hp hv
    obtain ⟨q, h1, h2⟩ := h.num p _ v (hall p hp) hv
    exact ⟨q, h1, show (s.g q).getD 0 = v by rw [h2]; rfl⟩
  · intro p hp hf
    have hgp := h.full p hp hp
    obtain ⟨w, e, h1, h2, h3, _⟩ := way_ex hd (d p + 1) p (by omega) hgp
    have r1 := hd.root e (by rw [h2]; exact hgp) h3
    have := r1.2.2 p h2.symm
    by_cases h4 : e = p
    · rw [← h4]; exact r1.1
    · exact absurd (show (s.g e).getD 0 = (s.g p).getD 0 by rw [h2]) (hf e (by omega))
end M


set_option maxHeartbeats 1000000
namespace M
open PySem PySem.Spec L2
local macro_rules | `(tactic| simp_wf) => `(tactic| simp only [wCs, w_asg, w_par, w_aug, w_ex, w_ret, w_retN, w_ite, w_brk, w_cnt, w_pass, w_rais, e_v, e_int, e_bl, e_non, e_str, e_g, e_bin, e_neg, e_cmp, e_chain, e_and, e_or, e_not, e_ife, e_tup, e_lst, e_ix, e_sl, e_rev, e_fld, e_call, e_new, e_meth, e_blt, e_mth, e_isi, e_isiT, e_dK0, e_dT0, e_repr, e_ktup, e_lrng1, e_lrng2, e_lrev, e_trev, e_dix, e_dg1, e_dg2, e_dsd, e_dpop, e_din, wEs, wAndV, wOrV, wB, wAnd, wOr, wBs, wP, r_nm, r_tgT, r_tgQ, r_tgW, r_tgt, r_tgr, r_tgp, r_tgd, r_tgi, r_tgs, r_tgs0, wBin, wCmp,
  r_add_ii, r_add_ib, r_add_ss, r_add_tt, r_add_rr, r_sub_ii, r_mul_ii, r_mul_ri, r_mul_ti, r_div_ii, r_mod_ii, r_pow_ii, r_shl_ii, r_shr_ii, r_and_ii, r_xor_ii, r_int, r_is_n, r_is_b, r_tru_b, r_tru_i, r_tru_n, r_tru_t, r_tru_r, r_ix_t, r_ix_r, r_sl_t, r_sl_r, r_len_t, r_len_s, r_abs, r_min2, r_max2, r_int1, r_int1b, r_str1, r_list1, r_tuple1, r_tuple1t, r_tuple1p, r_len_p, r_sorted1t, r_ix_p, r_valD_p, r_ty_p, r_tindex, r_tyM_tindex, r_reverse, r_tyM_reverse, r_remove, r_tyM_remove, r_append, r_pop0, r_pop1, r_insert, r_extend, r_count, r_index, r_sum1, r_sorted1, r_tyM_pop1, r_tyM_insert, r_tyM_extend, r_tyM_count, r_tyM_index, r_fld, r_tgf, r_tyM_append, r_tyM_pop0, r_valD_t, r_valD_r, r_ty_n, r_ty_b, r_ty_i, r_ty_s, r_ty_t, r_is_non_int, r_is_non_bool, r_is_non_str, r_is_non_tuple, r_is_non_list, r_is_non_dict, r_is_bl_int, r_is_bl_bool, r_is_bl_str, r_is_bl_tuple, r_is_bl_list, r_is_bl_dict, r_is_int_int, r_is_int_bool, r_is_int_str, r_is_int_tuple, r_is_int_list, r_is_int_dict, r_is_str_int, r_is_str_bool, r_is_str_str, r_is_str_tuple, r_is_str_list, r_is_str_dict, r_is_ptup_int, r_is_ptup_bool, r_is_ptup_str, r_is_ptup_tuple, r_is_ptup_list, r_is_ptup_dict, r_is_tup_int, r_is_tup_bool, r_is_tup_str, r_is_tup_tuple, r_is_tup_list, r_is_tup_dict, isNon, r_W0, r_W1, r_T0, r_T1, r_T2, r_Q0, r_Q1, r_at0, r_at1, r_at2, r_at3, r_at4, r_at5, r_eq_ii, r_eq_bb,
  List.getElem?_cons_zero, List.getElem?_cons_succ, List.set_cons_zero, List.set_cons_succ, setAll, Option.some.injEq, Val.int.injEq, Val.bl.injEq, Val.tup.injEq, Val.ref.injEq, exists_eq_left', exists_eq_left, exists_eq_right, Bool.false_eq_true, if_true, if_false, List.isEmpty_nil, List.isEmpty_cons, true_and, and_true, ↓reduceIte, List.length_cons, List.length_nil, startL, List.map_cons, List.map_nil, Bool.not_true, Bool.not_false, Nat.reduceAdd, Nat.reduceSub, List.replicate, List.cons_append, List.nil_append, reduceCtorEq, false_and, exists_false, List.cons.injEq, Bool.false_xor, Bool.true_xor, wipeL, Int.reduceNeg, Int.cast_ofNat_Int, decide_true, decide_false, Int.reduceEq, decide_eq_true_eq, r_nd, r_sl0, r_sl1, r_sl2, r_sl3, r_sl4, r_sl5, r_sl6, r_sl7, r_sl8, r_sl9, r_sl10, r_sl11, r_sl12, r_sl13, r_sl14, r_sl15, r_sl16, r_sl17, r_sl18, r_sl19, r_sl20, r_sl21, r_sl22, r_sl23, r_sl24, decide_eq_false_iff_not, not_true_eq_false, not_false_eq_true, Int.not_lt, Int.not_le])
def rF (n : Nat) (f : Nat → Val) : List Val := (List.range n).map f
theorem rF_len {n : Nat} {f : Nat → Val} : (rF n f).length = n := by unfold rF; rw [List.length_map, List.length_range]
theorem at_rF {n p : Nat} {f : Nat → Val} (h : p < n) : atI (rF n f) (p : Int) = some (f p) := at_map (range_at h)
theorem get_rF {n p : Nat} {f : Nat → Val} (h : p < n) : (rF n f)[p]? = some (f p) := by unfold rF; rw [List.getElem?_map, range_at h]; rfl
theorem rF_ext {n : Nat} {f g : Nat → Val} (h : ∀ p, p < n → f p = g p) : rF n f = rF n g := List.map_congr_left fun p hp => h p (List.mem_range.mp hp)
theorem set_rF {n p : Nat} {f : Nat → Val} {v : Val} : (rF n f).set p v = rF n (upd1 f p v) := by
  apply List.ext_getElem?
  intro i
  rw [List.getElem?_set]
  by_cases hi : i < n
  · rw [get_rF hi, rF_len, get_rF hi]
    by_cases hp : p = i
    · subst hp; rw [if_pos rfl, if_pos hi, upd1_same]
    · rw [if_neg hp, upd1_ne _ _ (fun z => hp z.symm)]
  · have e : ∀ f : Nat → Val, (rF n f)[i]? = none := fun f => by rw [List.getElem?_eq_none_iff, rF_len]; omega
    rw [e, e, rF_len]
    split
    · rw [if_neg (by omega)]
    · rfl
theorem ixN_rF {n p : Nat} {f : Nat → Val} (h : p < n) : ixN (rF n f).length (p : Int) = some p := by rw [rF_len]; exact ixN_nat h
def vo : Option Nat → Val
  | none => .non
  | some i => .int (i : Int)
def iN (l : List Nat) : List Int := l.map fun (k : Nat) => (k : Int)
def vr : Option (List Nat) → Val
  | none => .non
  | some r => .tup (vI (iN r))
theorem vo_upd {g : Nat → Option Nat} {p : Nat} {v : Option Nat} : upd1 (fun q => vo (g q)) p (vo v) = fun q => vo (upd1 g p v q) := by
  funext q; unfold upd1; split <;> rfl
theorem vn_upd {b : Nat → Nat} {p v : Nat} : upd1 (fun q => Val.int (b q : Int)) p (.int (v : Int)) = fun q => Val.int ((upd1 b p v q : Nat) : Int) := by
  funext q; unfold upd1; split <;> rfl
/-- the objects of a walk -/
structure WA where
  w : Addr
  f : Addr
  g : Addr
  b : Addr
  c : Addr
  ap : Addr
  lr : Addr
  la : Nat → Addr
  aa : Nat → Addr
structure WSt (A : WA) (n : Nat) (L : List Lk) (s : WS) (S : Sto) : Prop where
  w : S A.w = some (.ins "Walk" [("links", .ref A.lr), ("found", .ref A.f), ("came_by", .ref A.c), ("at_point", .ref A.ap)])
  f : S A.f = some (.ins "Parting" [("groups", .ref A.g), ("bits", .ref A.b), ("ring", vr s.r)])
  g : S A.g = some (.lst (rF n fun p => vo (s.g p)))
  b : S A.b = some (.lst (rF n fun p => .int (s.b p : Int)))
  c : S A.c = some (.lst (rF n fun p => vo (s.c p)))
  ap : S A.ap = some (.lst (rF n fun p => .ref (A.aa p)))
  aa : ∀ p, p < n → S (A.aa p) = some (.lst (vI (iN (AT L L.length p))))
  lr : S A.lr = some (.lst (rF L.length fun k => .ref (A.la k)))
  la : ∀ k, k < L.length → S (A.la k) = some (.ins "Link" [("one", .int ((lkAt L k).a : Int)), ("other", .int ((lkAt L k).b : Int)), ("apart", .int ((lkAt L k).x : Int))])
  n16 : n ≤ 60
  l16 : L.length ≤ 2000
  wf : A.w ≠ A.f
  gb : A.g ≠ A.b
  gc : A.g ≠ A.c
  bc : A.b ≠ A.c
  gap : A.ap ≠ A.g
  bap : A.ap ≠ A.b
  cap : A.ap ≠ A.c
  gl : A.lr ≠ A.g
  bl : A.lr ≠ A.b
  cl : A.lr ≠ A.c
  ga : ∀ p, p < n → A.aa p ≠ A.g
  ba : ∀ p, p < n → A.aa p ≠ A.b
  ca : ∀ p, p < n → A.aa p ≠ A.c
  lf : ∀ k, k < L.length → A.la k ≠ A.f
theorem ne_il {S : Sto} {p q : Addr} {C : Str} {fs : List (Str × Val)} {xs : List Val} (h : S p = some (.ins C fs)) (h' : S q = some (.lst xs)) : p ≠ q := fun z => by subst z; rw [h] at h'; cases h'
theorem WSt.le {A : WA} {n : Nat} {L : List Lk} {s : WS} {S T : Sto} (h : WSt A n L s S) (l : S.le T) : WSt A n L s T :=
  { h with w := l _ _ h.w, f := l _ _ h.f, g := l _ _ h.g, b := l _ _ h.b, c := l _ _ h.c, ap := l _ _ h.ap, aa := fun p hp => l _ _ (h.aa p hp), lr := l _ _ h.lr, la := fun k hk => l _ _ (h.la k hk) }
theorem le_new {S : Sto} {q : Addr} {o : MO} (h : S q = none) : S.le (S.upd q o) := fun a u e => by rw [Sto.upd_ne (fun z => by subst z; rw [h] at e; cases e)]; exact e
theorem WSt.own {A : WA} {n : Nat} {L : List Lk} {s : WS} {S : Sto} {q : Addr} {o : MO} (h : WSt A n L s S) (hq : S q = none) : WSt A n L s (S.upd q o) := h.le (le_new hq)
theorem WSt.setG {A : WA} {n : Nat} {L : List Lk} {s : WS} {S : Sto} (h : WSt A n L s S) {xs : List Val} {g : Nat → Option Nat} (e : xs = rF n fun p => vo (g p)) : WSt A n L { s with g := g } (S.upd A.g (.lst xs)) :=
  { h with w := Sto.upd_at h.w (ne_il h.w h.g), f := Sto.upd_at h.f (ne_il h.f h.g), g := by rw [Sto.upd_same, e], b := Sto.upd_at h.b h.gb.symm, c := Sto.upd_at h.c h.gc.symm, ap := Sto.upd_at h.ap h.gap, aa := fun p hp => Sto.upd_at (h.aa p hp) (h.ga p hp), lr := Sto.upd_at h.lr h.gl, la := fun k hk => Sto.upd_at (h.la k hk) (ne_il (h.la k hk) h.g) }
theorem WSt.setB {A : WA} {n : Nat} {L : List Lk} {s : WS} {S : Sto} (h : WSt A n L s S) {xs : List Val} {b : Nat → Nat} (e : xs = rF n fun p => .int (b p : Int)) : WSt A n L { s with b := b } (S.upd A.b (.lst xs)) :=
  { h with w := Sto.upd_at h.w (ne_il h.w h.b), f := Sto.upd_at h.f (ne_il h.f h.b), b := by rw [Sto.upd_same, e], g := Sto.upd_at h.g h.gb, c := Sto.upd_at h.c h.bc.symm, ap := Sto.upd_at h.ap h.bap, aa := fun p hp => Sto.upd_at (h.aa p hp) (h.ba p hp), lr := Sto.upd_at h.lr h.bl, la := fun k hk => Sto.upd_at (h.la k hk) (ne_il (h.la k hk) h.b) }
theorem WSt.setC {A : WA} {n : Nat} {L : List Lk} {s : WS} {S : Sto} (h : WSt A n L s S) {xs : List Val} {c : Nat → Option Nat} (e : xs = rF n fun p => vo (c p)) : WSt A n L { s with c := c } (S.upd A.c (.lst xs)) :=
  { h with w := Sto.upd_at h.w (ne_il h.w h.c), f := Sto.upd_at h.f (ne_il h.f h.c), c := by rw [Sto.upd_same, e], g := Sto.upd_at h.g h.gc, b := Sto.upd_at h.b h.bc, ap := Sto.upd_at h.ap h.cap, aa := fun p hp => Sto.upd_at (h.aa p hp) (h.ca p hp), lr := Sto.upd_at h.lr h.cl, la := fun k hk => Sto.upd_at (h.la k hk) (ne_il (h.la k hk) h.c) }
theorem WSt.setR {A : WA} {n : Nat} {L : List Lk} {s : WS} {S : Sto} (h : WSt A n L s S) {o : MO} {r : Option (List Nat)} (e : o = .ins "Parting" [("groups", .ref A.g), ("bits", .ref A.b), ("ring", vr r)]) : WSt A n L { s with r := r } (S.upd A.f o) :=
  { h with w := Sto.upd_at h.w h.wf, f := by rw [Sto.upd_same, e], g := Sto.upd_at h.g (ne_il h.f h.g).symm, b := Sto.upd_at h.b (ne_il h.f h.b).symm, c := Sto.upd_at h.c (ne_il h.f h.c).symm, ap := Sto.upd_at h.ap (ne_il h.f h.ap).symm, aa := fun p hp => Sto.upd_at (h.aa p hp) (ne_il h.f (h.aa p hp)).symm, lr := Sto.upd_at h.lr (ne_il h.f h.lr).symm, la := fun k hk => Sto.upd_at (h.la k hk) (h.lf k hk) }
/-- another list than the walk's own -/
structure Oth (A : WA) (n : Nat) (q : Addr) : Prop where
  g : q ≠ A.g
  b : q ≠ A.b
  c : q ≠ A.c
  ap : q ≠ A.ap
  lr : q ≠ A.lr
  aa : ∀ p, p < n → q ≠ A.aa p
theorem WSt.oth {A : WA} {n : Nat} {L : List Lk} {s : WS} {S : Sto} {q : Addr} (h : WSt A n L s S) (hq : S q = none) : Oth A n q :=
  ⟨ne_nn h.g hq, ne_nn h.b hq, ne_nn h.c hq, ne_nn h.ap hq, ne_nn h.lr hq, fun p hp => ne_nn (h.aa p hp) hq⟩
theorem WSt.setW {A : WA} {n : Nat} {L : List Lk} {s : WS} {S : Sto} {q : Addr} {xs ys : List Val} (h : WSt A n L s S) (hq : S q = some (.lst xs)) (o : Oth A n q) : WSt A n L s (S.upd q (.lst ys)) :=
  { h with w := Sto.upd_at h.w (ne_il h.w hq), f := Sto.upd_at h.f (ne_il h.f hq), g := Sto.upd_at h.g o.g.symm, b := Sto.upd_at h.b o.b.symm, c := Sto.upd_at h.c o.c.symm, ap := Sto.upd_at h.ap o.ap.symm, aa := fun p hp => Sto.upd_at (h.aa p hp) (o.aa p hp).symm, lr := Sto.upd_at h.lr o.lr.symm, la := fun k hk => Sto.upd_at (h.la k hk) (ne_il (h.la k hk) hq) }
/-- all but the walk's own objects stands -/
def Ws (A : WA) (q : Addr) (S T : Sto) : Prop := ∀ a o, a ≠ A.f → a ≠ A.g → a ≠ A.b → a ≠ A.c → a ≠ q → S a = some o → T a = some o
theorem Ws.refl {A : WA} {q : Addr} {S : Sto} : Ws A q S S := fun _ _ _ _ _ _ _ h => h
theorem Ws.trans {A : WA} {q : Addr} {S T U : Sto} (h : Ws A q S T) (h' : Ws A q T U) : Ws A q S U := fun a o x1 x2 x3 x4 x5 e => h' a o x1 x2 x3 x4 x5 (h a o x1 x2 x3 x4 x5 e)
theorem Ws.le {A : WA} {q : Addr} {S T U : Sto} (h : Ws A q S T) (h' : T.le U) : Ws A q S U := fun a o x1 x2 x3 x4 x5 e => h' a o (h a o x1 x2 x3 x4 x5 e)
theorem Ws.uF {A : WA} {q : Addr} {S T : Sto} {o : MO} (h : Ws A q S T) : Ws A q S (T.upd A.f o) := fun a u x1 x2 x3 x4 x5 e => Sto.upd_at (h a u x1 x2 x3 x4 x5 e) x1
theorem Ws.uG {A : WA} {q : Addr} {S T : Sto} {o : MO} (h : Ws A q S T) : Ws A q S (T.upd A.g o) := fun a u x1 x2 x3 x4 x5 e => Sto.upd_at (h a u x1 x2 x3 x4 x5 e) x2
theorem Ws.uB {A : WA} {q : Addr} {S T : Sto} {o : MO} (h : Ws A q S T) : Ws A q S (T.upd A.b o) := fun a u x1 x2 x3 x4 x5 e => Sto.upd_at (h a u x1 x2 x3 x4 x5 e) x3
theorem Ws.uC {A : WA} {q : Addr} {S T : Sto} {o : MO} (h : Ws A q S T) : Ws A q S (T.upd A.c o) := fun a u x1 x2 x3 x4 x5 e => Sto.upd_at (h a u x1 x2 x3 x4 x5 e) x4
theorem Ws.uW {A : WA} {q : Addr} {S T : Sto} {o : MO} (h : Ws A q S T) : Ws A q S (T.upd q o) := fun a u x1 x2 x3 x4 x5 e => Sto.upd_at (h a u x1 x2 x3 x4 x5 e) x5
/-- what the fields of the walk's classes ask -/
structure GFo (G : Gam) : Prop where
  l1 : G.fo "Link" "one" = true
  l2 : G.fo "Link" "other" = true
  l3 : G.fo "Link" "apart" = true
  w1 : G.fo "Walk" "links" = true
  w2 : G.fo "Walk" "found" = true
  w3 : G.fo "Walk" "came_by" = true
  w4 : G.fo "Walk" "at_point" = true
  p1 : G.fo "Parting" "groups" = true
  p2 : G.fo "Parting" "bits" = true
  p3 : G.fo "Parting" "ring" = true
theorem no_lk {m : Str} : ∀ {fs : List (Str × Val)}, fs.lookup m = none → ∀ (a : Str) (b : Val), (a, b) ∈ fs → ¬ m = a
  | [], _, _, _, h => by cases h
  | (x, y) :: fs, hl, a, b, h => by
    rw [List.lookup_cons] at hl
    split at hl
    · cases hl
    · rename_i e
      rcases List.mem_cons.mp h with h | h
      · cases h; intro z; rw [z] at e; simp at e
      · exact no_lk hl a b h
def spOther : Spec
  | [.ref w, .int k, .int p], S, Q, _ => ∃ A n L s, ∃ k' p' : Nat, w = A.w ∧ k = k' ∧ p = p' ∧ WSt A n L s S ∧ k' < L.length ∧ Q (.int (oe (lkAt L k') p' : Nat)) S
  | _, _, _, _ => False
def N_Walk_other_end : List Str := ["self", "number", "point", "link"]
def P_Walk_other_end : List Str := ["self", "number", "point"]
def B_Walk_other_end : List C := [
  .asg (.nm 3) (.ix (.fld (.v 0) "links") (.v 1)),
  .ite (.cmp .Eq (.fld (.v 3) "one") (.v 2)) [.ret (.fld (.v 3) "other")] [],
  .ret (.fld (.v 3) "one")]
theorem body_other_end {G : Gam} (F : GFo G) : Body G N_Walk_other_end P_Walk_other_end B_Walk_other_end spOther := by
  intro vs S Q X h
  unfold spOther at h
  split at h
  · rename_i w k p
    obtain ⟨A, n, L, s, k, p, rfl, rfl, rfl, h, hk, hq⟩ := h
    refine ⟨rfl, ?_⟩
    simp only [N_Walk_other_end, B_Walk_other_end]
    simp_wf
    refine ⟨_, _, _, h.w, F.w1, rfl, ?_⟩
    simp_wf
    refine ⟨_, _, .lst h.lr, at_rF hk, ?_⟩
    simp_wf
    refine ⟨_, _, _, h.la k hk, F.l1, rfl, ?_⟩
    simp_wf
    unfold oe at hq
    split
    · rename_i e
      rw [if_pos (by omega)] at hq
      exact ⟨_, _, _, h.la k hk, F.l2, rfl, S, .refl, hq⟩
    · rename_i e
      rw [if_neg (by omega)] at hq
      exact ⟨_, _, _, h.la k hk, F.l1, rfl, S, .refl, hq⟩
  · exact h.elim
theorem nd_len {n : Nat} {w : List Nat} (h : w.Nodup) (hl : ∀ k ∈ w, k < n) : w.length ≤ n := by
  have : w.length ≤ (List.range n).length := List.Nodup.length_le_of_subset h fun k hk => List.mem_range.mpr (hl k hk)
  rwa [List.length_range] at this
def spWay : Spec
  | [.ref w, .int p], S, Q, _ => ∃ A n L s, ∃ (p' : Nat) (ws : List Nat) (e : Nat), w = A.w ∧ p = p' ∧ WSt A n L s S ∧ Way L s p' ws e ∧ (∀ q, s.g q ≠ none → q < n) ∧ s.g p' ≠ none ∧ (∃ m d, Tree n m L s d) ∧ ∀ q, S q = none → Q (.ref q) (S.upd q (.lst (vI (iN ws))))
  | _, _, _, _ => False
def N_Walk_way_back : List Str := ["self", "point", "way"]
def P_Walk_way_back : List Str := ["self", "point"]
def B_Walk_way_back : List C := [
  .asg (.nm 2) (.lst []),
  .whil (.cmp .IsNot (.ix (.fld (.v 0) "came_by") (.v 1)) .non) [.ex (.mth .append (.v 2) [.ix (.fld (.v 0) "came_by") (.v 1)]), .asg (.nm 1) (.meth (.v 0) "other_end" [.ix (.v 2) (.neg (.int 1)), .v 1])],
  .ret (.v 2)]
theorem at_last {xs : List Val} {v : Val} : atI (xs ++ [v]) (-1) = some v := by
  unfold L2.atI L2.ixN
  rw [if_neg (by decide), if_pos (by simp; omega)]
  have e : (-1 + ((xs ++ [v]).length : Int)).toNat = xs.length := by rw [List.length_append]; simp only [List.length_cons, List.length_nil]; omega
  simp only [Option.bind_some, e]
  simp
theorem iN_app {l m : List Nat} : iN (l ++ m) = iN l ++ iN m := List.map_append
theorem body_way_back {G : Gam} (F : GFo G) (g : G.mt "Walk" "other_end" = some spOther) : Body G N_Walk_way_back P_Walk_way_back B_Walk_way_back spWay := by
  intro vs S Q X h
  unfold spWay at h
  split at h
  · rename_i w p
    obtain ⟨A, n, L, s, p, ws, e, rfl, rfl, h, hw, hgn, hgp, ⟨m, d, ht⟩, hq⟩ := h
    refine ⟨rfl, ?_⟩
    have hwl : ws.length ≤ L.length := by
      obtain ⟨w1, e1, g1, _, _, _, _, g6, g7⟩ := way_ex ht (d p + 1) p (by omega) hgp
      obtain ⟨rfl, rfl⟩ := way_det hw g1
      exact nd_len g6 fun k hk => (g7 k hk).1
    simp only [N_Walk_way_back, B_Walk_way_back]
    refine wCs_step fun nx hn => ?_
    simp_wf
    intro q hqn
    subst hn
    refine wCs_step fun nx hn => ?_
    refine whil_rule (m := ws.length) (fun m ρ T => ∃ (pre rest : List Nat) (pc : Nat), m = rest.length ∧ T = S.upd q (.lst (vI (iN pre))) ∧ ρ = [some (.ref A.w), some (.int (pc : Int)), some (.ref q)] ∧ Way L s pc rest e ∧ s.g pc ≠ none ∧ pre ++ rest = ws) ⟨[], ws, p, rfl, rfl, rfl, hw, hgp, rfl⟩ ?_
    rintro m' ρ T ⟨pre, rest, pc, rfl, rfl, rfl, hw', hg', happ⟩
    have hT := h.own (q := q) (o := .lst (vI (iN pre))) hqn
    have hpc := hgn pc hg'
    simp_wf
    refine ⟨_, _, _, hT.w, F.w3, rfl, ?_⟩
    simp_wf
    refine ⟨_, _, .lst hT.c, at_rF hpc, ?_⟩
    simp_wf
    cases hw' with
    | nil hc =>
      simp only [hc, vo, if_true]
      subst hn
      simp_wf
      rw [List.append_nil] at happ
      subst happ
      exact ⟨_, .refl, hq q hqn⟩
    | cons hc hw2 =>
      rename_i k rest
      have hpar := ht.par pc k hc
      simp only [hc, vo, Bool.false_eq_true, if_false]
      refine ⟨⟨_, .lst Sto.upd_same⟩, _, _, hT.w, F.w3, _, rfl, ?_⟩
      simp_wf
      refine ⟨_, _, .lst hT.c, at_rF hpc, ?_⟩
      simp only [hc, vo]
      refine ⟨_, Sto.upd_same, ?_, ?_⟩
      · rw [vI_len]
        have : pre.length ≤ 2000 := by
          have := congrArg List.length happ
          rw [List.length_append] at this
          have := h.l16
          omega
        unfold iN
        rw [List.length_map]
        exact Nat.lt_of_le_of_lt this (by decide)
      rw [Sto.upd_upd]
      have ea : vI (iN pre) ++ [Val.int (k : Int)] = vI (iN (pre ++ [k])) := by rw [iN_app]; unfold vI; rw [List.map_append]; rfl
      rw [ea]
      have hT2 := h.own (q := q) (o := .lst (vI (iN (pre ++ [k])))) hqn
      refine ⟨_, _, hT2.w, no_lk rfl, _, g, ?_⟩
      simp_wf
      refine ⟨_, .lst Sto.upd_same, _, by rw [← ea]; exact at_last, ?_⟩
      refine .of ⟨A, n, L, s, k, pc, rfl, rfl, rfl, hT2, hpar.1, ?_⟩
      refine ⟨_, ?_, pre ++ [k], rest, rfl, rfl, _, rfl, hw2, by rw [hpar.2.2.1]; exact hg', by rw [List.append_assoc]; exact happ⟩
      simp
  · exact h.elim
end M

set_option maxHeartbeats 1000000
namespace M
open PySem PySem.Spec L2
local macro_rules | `(tactic| simp_wf) => `(tactic| simp only [wCs, w_asg, w_par, w_aug, w_ex, w_ret, w_retN, w_ite, w_brk, w_cnt, w_pass, w_rais, e_v, e_int, e_bl, e_non, e_str, e_g, e_bin, e_neg, e_cmp, e_chain, e_and, e_or, e_not, e_ife, e_tup, e_lst, e_ix, e_sl, e_rev, e_fld, e_call, e_new, e_meth, e_blt, e_mth, e_isi, e_isiT, e_dK0, e_dT0, e_repr, e_ktup, e_lrng1, e_lrng2, e_lrev, e_trev, e_dix, e_dg1, e_dg2, e_dsd, e_dpop, e_din, wEs, wAndV, wOrV, wB, wAnd, wOr, wBs, wP, r_nm, r_tgT, r_tgQ, r_tgW, r_tgt, r_tgr, r_tgp, r_tgd, r_tgi, r_tgs, r_tgs0, wBin, wCmp,
  r_add_ii, r_add_ib, r_add_ss, r_add_tt, r_add_rr, r_sub_ii, r_mul_ii, r_mul_ri, r_mul_ti, r_div_ii, r_mod_ii, r_pow_ii, r_shl_ii, r_shr_ii, r_and_ii, r_xor_ii, r_int, r_is_n, r_is_b, r_tru_b, r_tru_i, r_tru_n, r_tru_t, r_tru_r, r_ix_t, r_ix_r, r_sl_t, r_sl_r, r_len_t, r_len_s, r_abs, r_min2, r_max2, r_int1, r_int1b, r_str1, r_list1, r_tuple1, r_tuple1t, r_tuple1p, r_len_p, r_sorted1t, r_ix_p, r_valD_p, r_ty_p, r_tindex, r_tyM_tindex, r_reverse, r_tyM_reverse, r_remove, r_tyM_remove, r_append, r_pop0, r_pop1, r_insert, r_extend, r_count, r_index, r_sum1, r_sorted1, r_tyM_pop1, r_tyM_insert, r_tyM_extend, r_tyM_count, r_tyM_index, r_fld, r_tgf, r_tyM_append, r_tyM_pop0, r_valD_t, r_valD_r, r_ty_n, r_ty_b, r_ty_i, r_ty_s, r_ty_t, r_is_non_int, r_is_non_bool, r_is_non_str, r_is_non_tuple, r_is_non_list, r_is_non_dict, r_is_bl_int, r_is_bl_bool, r_is_bl_str, r_is_bl_tuple, r_is_bl_list, r_is_bl_dict, r_is_int_int, r_is_int_bool, r_is_int_str, r_is_int_tuple, r_is_int_list, r_is_int_dict, r_is_str_int, r_is_str_bool, r_is_str_str, r_is_str_tuple, r_is_str_list, r_is_str_dict, r_is_ptup_int, r_is_ptup_bool, r_is_ptup_str, r_is_ptup_tuple, r_is_ptup_list, r_is_ptup_dict, r_is_tup_int, r_is_tup_bool, r_is_tup_str, r_is_tup_tuple, r_is_tup_list, r_is_tup_dict, isNon, r_W0, r_W1, r_T0, r_T1, r_T2, r_Q0, r_Q1, r_at0, r_at1, r_at2, r_at3, r_at4, r_at5, r_eq_ii, r_eq_bb,
  List.getElem?_cons_zero, List.getElem?_cons_succ, List.set_cons_zero, List.set_cons_succ, setAll, Option.some.injEq, Val.int.injEq, Val.bl.injEq, Val.tup.injEq, Val.ref.injEq, exists_eq_left', exists_eq_left, exists_eq_right, Bool.false_eq_true, if_true, if_false, List.isEmpty_nil, List.isEmpty_cons, true_and, and_true, ↓reduceIte, List.length_cons, List.length_nil, startL, List.map_cons, List.map_nil, Bool.not_true, Bool.not_false, Nat.reduceAdd, Nat.reduceSub, List.replicate, List.cons_append, List.nil_append, reduceCtorEq, false_and, exists_false, List.cons.injEq, Bool.false_xor, Bool.true_xor, wipeL, Int.reduceNeg, Int.cast_ofNat_Int, decide_true, decide_false, Int.reduceEq, decide_eq_true_eq, r_nd, r_sl0, r_sl1, r_sl2, r_sl3, r_sl4, r_sl5, r_sl6, r_sl7, r_sl8, r_sl9, r_sl10, r_sl11, r_sl12, r_sl13, r_sl14, r_sl15, r_sl16, r_sl17, r_sl18, r_sl19, r_sl20, r_sl21, r_sl22, r_sl23, r_sl24, decide_eq_false_iff_not, not_true_eq_false, not_false_eq_true, Int.not_lt, Int.not_le])
theorem iN_len {l : List Nat} : (iN l).length = l.length := by unfold iN; rw [List.length_map]
theorem isIn_iN {l : List Nat} {k : Nat} : isIn (iN l) (k : Int) = l.contains k := by
  rw [Bool.eq_iff_iff, isIn_iff]
  unfold iN
  simp only [List.mem_map, List.contains_iff_mem]
  exact ⟨fun ⟨a, h, e⟩ => by have : a = k := by omega
                             rw [← this]; exact h, fun h => ⟨k, h, rfl⟩⟩
theorem iN_of {l : List Int} {m : List Nat} (h : l.Perm (iN m)) : ∃ r, l = iN r ∧ r.Perm m := by
  have hp : ∀ x ∈ l, 0 ≤ x := fun x hx => by
    have := h.mem_iff.mp hx
    unfold iN at this
    obtain ⟨k, _, rfl⟩ := List.mem_map.mp this
    omega
  have e1 : iN (l.map Int.toNat) = l := by
    unfold iN
    rw [List.map_map]
    conv => rhs; rw [← List.map_id l]
    exact List.map_congr_left fun x hx => by have := hp x hx; simp only [Function.comp_apply, id]; omega
  refine ⟨l.map Int.toNat, e1.symm, ?_⟩
  have := h.map Int.toNat
  unfold iN at this
  rw [List.map_map] at this
  have e2 : List.map (Int.toNat ∘ fun (k : Nat) => (k : Int)) m = m := by
    conv => rhs; rw [← List.map_id m]
    exact List.map_congr_left fun x _ => by simp
  rwa [e2] at this
theorem pw_iN {r : List Nat} (h : (iN r).Pairwise (· ≤ ·)) : r.Pairwise (· ≤ ·) := by
  unfold iN at h
  rw [List.pairwise_map] at h
  exact h.imp fun h => by omega
/-- what odd_ring is asked behind a mismatch -/
structure Mis (A : WA) (n : Nat) (L : List Lk) (s : WS) (k : Nat) : Prop where
  tree : ∃ m d, Tree n m L s d
  ok : LOk n L
  kl : k < L.length
  ga : s.g (lkAt L k).a ≠ none
  gg : s.g (lkAt L k).a = s.g (lkAt L k).b
  bb : s.b (lkAt L k).b ≠ (s.b (lkAt L k).a + xx L k) % 2
def spRing : Spec
  | [.ref w, .int k], S, Q, _ => ∃ A n L s, ∃ k' : Nat, w = A.w ∧ k = k' ∧ WSt A n L s S ∧ Mis A n L s k' ∧ ∀ T r, S.le T → OddRing L r → Q (.tup (vI (iN r))) T
  | _, _, _, _ => False
def N_Walk_odd_ring : List Str := ["self", "number", "link", "one", "other", "apart", "way"]
def P_Walk_odd_ring : List Str := ["self", "number"]
def B_Walk_odd_ring : List C := [
  .asg (.nm 2) (.ix (.fld (.v 0) "links") (.v 1)),
  .asg (.nm 3) (.meth (.v 0) "way_back" [.fld (.v 2) "one"]),
  .asg (.nm 4) (.meth (.v 0) "way_back" [.fld (.v 2) "other"]),
  .asg (.nm 5) (.bin .Add (.lc [("way", 6)] (.nm 6) (.val (.v 3)) [.cmp .NotIn (.v 6) (.v 4)] (.v 6)) (.lc [("way", 6)] (.nm 6) (.val (.v 4)) [.cmp .NotIn (.v 6) (.v 3)] (.v 6))),
  .ret (.blt .tuple1 [.blt .sorted1 [.bin .Add (.v 5) (.lst [.v 1])]])]
theorem vI_iN {l : List Nat} : vI (iN l) = l.map fun (k : Nat) => Val.int (k : Int) := by unfold vI iN; rw [List.map_map]; rfl
theorem body_odd_ring {G : Gam} (F : GFo G) (g : G.mt "Walk" "way_back" = some spWay) : Body G N_Walk_odd_ring P_Walk_odd_ring B_Walk_odd_ring spRing := by
  intro vs S Q X h
  unfold spRing at h
  split at h
  · rename_i w k
    obtain ⟨A, n, L, s, k, rfl, rfl, h, mi, hq⟩ := h
    refine ⟨rfl, ?_⟩
    obtain ⟨m, d, ht⟩ := mi.tree
    have hgn : ∀ q, s.g q ≠ none → q < n := fun q hq => Nat.lt_of_not_le fun z => hq (ht.out q z)
    have gb : s.g (lkAt L k).b ≠ none := by rw [← mi.gg]; exact mi.ga
    obtain ⟨w1, e1, a1, _, _, _, _, a6, a7⟩ := way_ex ht (d (lkAt L k).a + 1) _ (by omega) mi.ga
    obtain ⟨w2, e2, b1, _, _, _, _, b6, b7⟩ := way_ex ht (d (lkAt L k).b + 1) _ (by omega) gb
    have l1 : w1.length ≤ 2000 := Nat.le_trans (nd_len a6 fun k hk => (a7 k hk).1) h.l16
    have l2 : w2.length ≤ 2000 := Nat.le_trans (nd_len b6 fun k hk => (b7 k hk).1) h.l16
    simp only [N_Walk_odd_ring, B_Walk_odd_ring]
    refine wCs_step fun nx hn => ?_
    simp_wf
    refine ⟨_, _, _, h.w, F.w1, rfl, ?_⟩
    simp_wf
    refine ⟨_, _, .lst h.lr, at_rF mi.kl, ?_⟩
    subst hn
    refine wCs_step fun nx hn => ?_
    simp_wf
    refine ⟨_, _, _, _, rfl, h.w, rfl, g, ?_⟩
    simp_wf
    refine ⟨_, _, h.la k mi.kl, F.l1, _, rfl, ?_⟩
    refine .of ⟨A, n, L, s, _, w1, e1, rfl, rfl, h, a1, hgn, mi.ga, ⟨m, d, ht⟩, fun p hp => ?_⟩
    have h1 := h.own (o := .lst (vI (iN w1))) hp
    subst hn
    refine wCs_step fun nx hn => ?_
    simp_wf
    refine ⟨_, _, _, _, rfl, h1.w, rfl, g, ?_⟩
    simp_wf
    refine ⟨_, _, h1.la k mi.kl, F.l2, _, rfl, ?_⟩
    refine .of ⟨A, n, L, s, _, w2, e2, rfl, rfl, h1, b1, hgn, gb, ⟨m, d, ht⟩, fun q hqn => ?_⟩
    have nqp := ne_nn Sto.upd_same hqn
    have hp2 : ((S.upd p (.lst (vI (iN w1)))).upd q (.lst (vI (iN w2)))) p = some (.lst (vI (iN w1))) := Sto.upd_at Sto.upd_same (Ne.symm nqp)
    have hq2 : ((S.upd p (.lst (vI (iN w1)))).upd q (.lst (vI (iN w2)))) q = some (.lst (vI (iN w2))) := Sto.upd_same
    have le0 : S.le ((S.upd p (.lst (vI (iN w1)))).upd q (.lst (vI (iN w2)))) := fun a o e => le_new hqn a o (le_new hp a o e)
    generalize (S.upd p (.lst (vI (iN w1)))).upd q (.lst (vI (iN w2))) = T at *
    subst hn
    refine wCs_step fun nx hn => ?_
    simp only [w_asg, e_bin]
    refine lc_list_fm (S := T) (l := p) (xs := w1) (f := fun (k : Nat) => .int (k : Int)) (fun k => !w2.contains k) (fun (k : Nat) => .int (k : Int)) (fun Q q => by simp_wf; exact q) (by rw [← vI_iN]; exact .lst hp2) (by omega) ?_ ?_
    · intro x _ R r1 r0
      simp_wf
      refine in_ints (.lst hq2) ?_
      rw [isIn_iN]
      simp_wf
      split
      · rename_i e; exact r1 (by simpa using e)
      · rename_i e; exact r0 (by simpa using e)
    intro u hu
    have hp3 := Sto.old (u := .lst ((w1.filter fun k => !w2.contains k).map fun (k : Nat) => Val.int (k : Int))) hp2 hu
    have hq3 := Sto.old (u := .lst ((w1.filter fun k => !w2.contains k).map fun (k : Nat) => Val.int (k : Int))) hq2 hu
    have le1 : S.le (T.upd u (.lst ((w1.filter fun k => !w2.contains k).map fun (k : Nat) => Val.int (k : Int)))) := fun a o e => le_new hu a o (le0 a o e)
    have hu3 : (T.upd u (.lst ((w1.filter fun k => !w2.contains k).map fun (k : Nat) => Val.int (k : Int)))) u = _ := Sto.upd_same
    generalize T.upd u (.lst ((w1.filter fun k => !w2.contains k).map fun (k : Nat) => Val.int (k : Int))) = T1 at *
    refine lc_list_fm (S := T1) (l := q) (xs := w2) (f := fun (k : Nat) => .int (k : Int)) (fun k => !w1.contains k) (fun (k : Nat) => .int (k : Int)) (fun Q q => by simp_wf; exact q) (by rw [← vI_iN]; exact .lst hq3) (by omega) ?_ ?_
    · intro x _ R r1 r0
      simp_wf
      refine in_ints (.lst hp3) ?_
      rw [isIn_iN]
      simp_wf
      split
      · rename_i e; exact r1 (by simpa using e)
      · rename_i e; exact r0 (by simpa using e)
    intro v hv
    have hu4 := Sto.old (u := .lst ((w2.filter fun k => !w1.contains k).map fun (k : Nat) => Val.int (k : Int))) hu3 hv
    have le2 : S.le (T1.upd v (.lst ((w2.filter fun k => !w1.contains k).map fun (k : Nat) => Val.int (k : Int)))) := fun a o e => le_new hv a o (le1 a o e)
    have hv4 : (T1.upd v (.lst ((w2.filter fun k => !w1.contains k).map fun (k : Nat) => Val.int (k : Int)))) v = _ := Sto.upd_same
    generalize T1.upd v (.lst ((w2.filter fun k => !w1.contains k).map fun (k : Nat) => Val.int (k : Int))) = T2 at *
    simp_wf
    have f1 := List.length_filter_le (fun k => !w2.contains k) w1
    have f2 := List.length_filter_le (fun k => !w1.contains k) w2
    refine ⟨_, _, hu4, hv4, ?_, fun y hy => ?_⟩
    · rw [List.length_map, List.length_map]
      exact Nat.le_trans (show _ ≤ 5000 by omega) (by decide)
    have ey : List.map (fun (k : Nat) => Val.int (k : Int)) (w1.filter fun k => !w2.contains k) ++ List.map (fun (k : Nat) => Val.int (k : Int)) (w2.filter fun k => !w1.contains k) = vI (iN (sd w1 w2)) := by
      rw [vI_iN, ← List.map_append]; rfl
    rw [ey]
    have hy5 : (T2.upd y (.lst (vI (iN (sd w1 w2))))) y = _ := Sto.upd_same
    have le3 : S.le (T2.upd y (.lst (vI (iN (sd w1 w2))))) := fun a o e => le_new hy a o (le2 a o e)
    generalize T2.upd y (.lst (vI (iN (sd w1 w2)))) = T3 at *
    subst hn
    simp_wf
    intro z hz
    refine ⟨_, _, Sto.old hy5 hz, Sto.upd_same, ?_, fun z2 hz2 => ?_⟩
    · rw [vI_len, iN_len]
      unfold sd
      rw [List.length_append]
      simp only [List.length_cons, List.length_nil]
      exact Nat.le_trans (show _ ≤ 5000 by omega) (by decide)
    refine ⟨iN (sd w1 w2 ++ [k]), ?_, fun ns' hp' hs' z3 hz3 => ?_⟩
    · have : vI (iN (sd w1 w2)) ++ [Val.int (k : Int)] = vI (iN (sd w1 w2 ++ [k])) := by rw [iN_app]; unfold vI; rw [List.map_append]; rfl
      rw [this]
      exact .lst Sto.upd_same
    obtain ⟨r, rfl, hr⟩ := iN_of hp'
    refine ⟨_, .lst Sto.upd_same, _, .refl, ?_⟩
    refine hq _ r (fun a o e => le_new hz3 a o (le_new hz2 a o (le_new hz a o (le3 a o e)))) ?_
    exact ring_of ht mi.ok mi.kl mi.ga mi.gg mi.bb a1 b1 hr (pw_iN hs')
  · exact h.elim
end M

set_option maxHeartbeats 1000000
namespace M
open PySem PySem.Spec L2
local macro_rules | `(tactic| simp_wf) => `(tactic| simp only [wCs, w_asg, w_par, w_aug, w_ex, w_ret, w_retN, w_ite, w_brk, w_cnt, w_pass, w_rais, e_v, e_int, e_bl, e_non, e_str, e_g, e_bin, e_neg, e_cmp, e_chain, e_and, e_or, e_not, e_ife, e_tup, e_lst, e_ix, e_sl, e_rev, e_fld, e_call, e_new, e_meth, e_blt, e_mth, e_isi, e_isiT, e_dK0, e_dT0, e_repr, e_ktup, e_lrng1, e_lrng2, e_lrev, e_trev, e_dix, e_dg1, e_dg2, e_dsd, e_dpop, e_din, wEs, wAndV, wOrV, wB, wAnd, wOr, wBs, wP, r_nm, r_tgT, r_tgQ, r_tgW, r_tgt, r_tgr, r_tgp, r_tgd, r_tgi, r_tgs, r_tgs0, wBin, wCmp,
  r_add_ii, r_add_ib, r_add_ss, r_add_tt, r_add_rr, r_sub_ii, r_mul_ii, r_mul_ri, r_mul_ti, r_div_ii, r_mod_ii, r_pow_ii, r_shl_ii, r_shr_ii, r_and_ii, r_xor_ii, r_int, r_is_n, r_is_b, r_tru_b, r_tru_i, r_tru_n, r_tru_t, r_tru_r, r_ix_t, r_ix_r, r_sl_t, r_sl_r, r_len_t, r_len_s, r_abs, r_min2, r_max2, r_int1, r_int1b, r_str1, r_list1, r_tuple1, r_tuple1t, r_tuple1p, r_len_p, r_sorted1t, r_ix_p, r_valD_p, r_ty_p, r_tindex, r_tyM_tindex, r_reverse, r_tyM_reverse, r_remove, r_tyM_remove, r_append, r_pop0, r_pop1, r_insert, r_extend, r_count, r_index, r_sum1, r_sorted1, r_tyM_pop1, r_tyM_insert, r_tyM_extend, r_tyM_count, r_tyM_index, r_fld, r_tgf, r_tyM_append, r_tyM_pop0, r_valD_t, r_valD_r, r_ty_n, r_ty_b, r_ty_i, r_ty_s, r_ty_t, r_is_non_int, r_is_non_bool, r_is_non_str, r_is_non_tuple, r_is_non_list, r_is_non_dict, r_is_bl_int, r_is_bl_bool, r_is_bl_str, r_is_bl_tuple, r_is_bl_list, r_is_bl_dict, r_is_int_int, r_is_int_bool, r_is_int_str, r_is_int_tuple, r_is_int_list, r_is_int_dict, r_is_str_int, r_is_str_bool, r_is_str_str, r_is_str_tuple, r_is_str_list, r_is_str_dict, r_is_ptup_int, r_is_ptup_bool, r_is_ptup_str, r_is_ptup_tuple, r_is_ptup_list, r_is_ptup_dict, r_is_tup_int, r_is_tup_bool, r_is_tup_str, r_is_tup_tuple, r_is_tup_list, r_is_tup_dict, isNon, r_W0, r_W1, r_T0, r_T1, r_T2, r_Q0, r_Q1, r_at0, r_at1, r_at2, r_at3, r_at4, r_at5, r_eq_ii, r_eq_bb,
  List.getElem?_cons_zero, List.getElem?_cons_succ, List.set_cons_zero, List.set_cons_succ, setAll, Option.some.injEq, Val.int.injEq, Val.bl.injEq, Val.tup.injEq, Val.ref.injEq, exists_eq_left', exists_eq_left, exists_eq_right, Bool.false_eq_true, if_true, if_false, List.isEmpty_nil, List.isEmpty_cons, true_and, and_true, ↓reduceIte, List.length_cons, List.length_nil, startL, List.map_cons, List.map_nil, Bool.not_true, Bool.not_false, Nat.reduceAdd, Nat.reduceSub, List.replicate, List.cons_append, List.nil_append, reduceCtorEq, false_and, exists_false, List.cons.injEq, Bool.false_xor, Bool.true_xor, wipeL, Int.reduceNeg, Int.cast_ofNat_Int, decide_true, decide_false, Int.reduceEq, decide_eq_true_eq, r_nd, r_sl0, r_sl1, r_sl2, r_sl3, r_sl4, r_sl5, r_sl6, r_sl7, r_sl8, r_sl9, r_sl10, r_sl11, r_sl12, r_sl13, r_sl14, r_sl15, r_sl16, r_sl17, r_sl18, r_sl19, r_sl20, r_sl21, r_sl22, r_sl23, r_sl24, decide_eq_false_iff_not, not_true_eq_false, not_false_eq_true, Int.not_lt, Int.not_le])
def spGo : Spec
  | [.ref w, .int p, .int k, .ref q], S, Q, _ => ∃ A n L s, ∃ (p' k' : Nat) (ws : List Nat), w = A.w ∧ p = p' ∧ k = k' ∧ WSt A n L s S ∧ S q = some (.lst (vI (iN ws))) ∧ Oth A n q ∧ ws.length ≤ 100 ∧ LOk n L ∧ k' < L.length ∧ isEnd L k' p' ∧ p' < n ∧ s.g p' ≠ none ∧ (∃ m d, Tree n m L s d) ∧ (s.g (oe (lkAt L k') p') ≠ none → s.g (oe (lkAt L k') p') = s.g p') ∧
      ∀ T s' ws', Ws A q S T → WSt A n L s' T → T q = some (.lst (vI (iN ws'))) → GoR L p' k' (s, ws) (s', ws') → Q .non T
  | _, _, _, _ => False
def N_Walk_go : List Str := ["self", "point", "number", "waiting", "there", "bit"]
def P_Walk_go : List Str := ["self", "point", "number", "waiting"]
def B_Walk_go : List C := [
  .asg (.nm 4) (.meth (.v 0) "other_end" [.v 2, .v 1]),
  .asg (.nm 5) (.bin .Mod (.bin .Add (.ix (.fld (.fld (.v 0) "found") "bits") (.v 1)) (.fld (.ix (.fld (.v 0) "links") (.v 2)) "apart")) (.int 2)),
  .ite (.cmp .Is (.ix (.fld (.fld (.v 0) "found") "groups") (.v 4)) .non) [.asg (.ix (.fld (.fld (.v 0) "found") "groups") (.v 4)) (.ix (.fld (.fld (.v 0) "found") "groups") (.v 1)), .asg (.ix (.fld (.fld (.v 0) "found") "bits") (.v 4)) (.v 5), .asg (.ix (.fld (.v 0) "came_by") (.v 4)) (.v 2), .ex (.mth .append (.v 3) [.v 4])] [.ite (.and [.cmp .NotEq (.ix (.fld (.fld (.v 0) "found") "bits") (.v 4)) (.v 5), .cmp .Is (.fld (.fld (.v 0) "found") "ring") .non]) [.asg (.fld (.fld (.v 0) "found") "ring") (.meth (.v 0) "odd_ring" [.v 2])] []]]
theorem mis_of {A : WA} {n : Nat} {L : List Lk} {s : WS} {p k : Nat} (hL : LOk n L) (hk : k < L.length) (he : isEnd L k p) (hp : s.g p ≠ none) (ht : ∃ m d, Tree n m L s d) (hgg : s.g (oe (lkAt L k) p) = s.g p) (hb : s.b (oe (lkAt L k) p) ≠ (s.b p + xx L k) % 2) : Mis A n L s k := by
  obtain ⟨m, d, ht⟩ := ht
  have b1 := ht.bit p
  have b2 := ht.bit (oe (lkAt L k) p)
  have x1 : xx L k < 2 := hL.x k hk
  unfold isEnd at he
  unfold oe at hgg hb b2
  by_cases h : (lkAt L k).a = p
  · rw [if_pos h] at hgg hb b2
    exact ⟨⟨m, d, ht⟩, hL, hk, by rw [h]; exact hp, by rw [h, hgg], by rw [h]; exact hb⟩
  · rw [if_neg h] at hgg hb b2
    have e : (lkAt L k).b = p := by rcases he with he | he; exact absurd he h; exact he
    exact ⟨⟨m, d, ht⟩, hL, hk, by rw [hgg]; exact hp, by rw [e, hgg], by rw [e]; omega⟩
theorem body_go {G : Gam} (F : GFo G) (g : G.mt "Walk" "other_end" = some spOther) (g2 : G.mt "Walk" "odd_ring" = some spRing) : Body G N_Walk_go P_Walk_go B_Walk_go spGo := by
  intro vs S Q X h
  unfold spGo at h
  split at h
  · rename_i w p k q
    obtain ⟨A, n, L, s, p, k, ws, rfl, rfl, rfl, h, hq, ho, hwl, hL, hk, he, hp, hgp, ht, hgg, hQ⟩ := h
    refine ⟨rfl, ?_⟩
    have htn : oe (lkAt L k) p < n := isEnd_oe_lt hL hk
    simp only [N_Walk_go, B_Walk_go]
    refine wCs_step fun nx hn => ?_
    simp_wf
    refine ⟨_, _, _, _, rfl, h.w, rfl, g, ?_⟩
    simp_wf
    refine .of ⟨A, n, L, s, k, p, rfl, rfl, rfl, h, hk, ?_⟩
    subst hn
    refine wCs_step fun nx hn => ?_
    simp_wf
    refine ⟨_, _, _, h.w, F.w2, rfl, ?_⟩
    simp_wf
    refine ⟨_, _, _, h.f, F.p2, rfl, ?_⟩
    simp_wf
    refine ⟨_, _, .lst h.b, at_rF hp, ?_⟩
    refine ⟨_, _, _, h.w, F.w1, rfl, ?_⟩
    simp_wf
    refine ⟨_, _, .lst h.lr, at_rF hk, ?_⟩
    simp_wf
    refine ⟨_, _, _, h.la k hk, F.l3, rfl, ?_⟩
    simp_wf
    refine ⟨by decide, ?_⟩
    rw [imod_pos (by decide)]
    have ebit : ((s.b p : Int) + ((lkAt L k).x : Int)) % 2 = (((s.b p + xx L k) % 2 : Nat) : Int) := by unfold xx; omega
    rw [ebit]
    subst hn
    refine wCs_step fun nx hn => ?_
    simp_wf
    refine ⟨_, _, _, h.w, F.w2, rfl, ?_⟩
    simp_wf
    refine ⟨_, _, _, h.f, F.p1, rfl, ?_⟩
    simp_wf
    refine ⟨_, _, .lst h.g, at_rF htn, ?_⟩
    cases hgt : s.g (oe (lkAt L k) p) with
    | none =>
      simp only [vo, if_true]
      refine ⟨_, _, _, h.w, F.w2, rfl, ?_⟩
      simp_wf
      refine ⟨_, _, _, h.f, F.p1, rfl, ?_⟩
      simp_wf
      refine ⟨_, _, .lst h.g, at_rF hp, ?_⟩
      refine ⟨_, _, _, h.w, F.w2, rfl, ?_⟩
      simp_wf
      refine ⟨_, _, _, h.f, F.p1, rfl, ?_⟩
      simp_wf
      refine ⟨_, _, _, _, rfl, rfl, h.g, ixN_rF htn, ?_⟩
      rw [set_rF]
      have h1 := h.setG (show (rF n (upd1 (fun p => vo (s.g p)) (oe (lkAt L k) p) (vo (s.g p)))) = rF n fun q => vo (upd1 s.g (oe (lkAt L k) p) (s.g p) q) by rw [vo_upd])
      have w1 : Ws A q S (S.upd A.g (.lst (rF n (upd1 (fun p => vo (s.g p)) (oe (lkAt L k) p) (vo (s.g p)))))) := Ws.refl.uG
      have q1 : (S.upd A.g (.lst (rF n (upd1 (fun p => vo (s.g p)) (oe (lkAt L k) p) (vo (s.g p)))))) q = some (.lst (vI (iN ws))) := Sto.upd_at hq ho.g
      generalize S.upd A.g (.lst (rF n (upd1 (fun p => vo (s.g p)) (oe (lkAt L k) p) (vo (s.g p))))) = T1 at *
      refine ⟨_, _, _, h1.w, F.w2, rfl, ?_⟩
      simp_wf
      refine ⟨_, _, _, h1.f, F.p2, rfl, ?_⟩
      simp_wf
      refine ⟨_, _, _, _, rfl, rfl, h1.b, ixN_rF htn, ?_⟩
      rw [set_rF]
      have h2 := h1.setB (xs := rF n (upd1 (fun p => Val.int (s.b p : Int)) (oe (lkAt L k) p) (.int (((s.b p + xx L k) % 2 : Nat) : Int)))) (b := upd1 s.b (oe (lkAt L k) p) ((s.b p + xx L k) % 2)) (by rw [vn_upd])
      have w2 := w1.uB (o := .lst (rF n (upd1 (fun p => Val.int (s.b p : Int)) (oe (lkAt L k) p) (.int (((s.b p + xx L k) % 2 : Nat) : Int)))))
      have q2 : (T1.upd A.b (.lst (rF n (upd1 (fun p => Val.int (s.b p : Int)) (oe (lkAt L k) p) (.int (((s.b p + xx L k) % 2 : Nat) : Int)))))) q = some (.lst (vI (iN ws))) := Sto.upd_at q1 ho.b
      generalize T1.upd A.b (.lst (rF n (upd1 (fun p => Val.int (s.b p : Int)) (oe (lkAt L k) p) (.int (((s.b p + xx L k) % 2 : Nat) : Int))))) = T2 at *
      refine ⟨_, _, _, h2.w, F.w3, rfl, ?_⟩
      simp_wf
      refine ⟨_, _, _, _, rfl, rfl, h2.c, ixN_rF htn, ?_⟩
      rw [set_rF]
      have h3 := h2.setC (xs := rF n (upd1 (fun p => vo (s.c p)) (oe (lkAt L k) p) (.int (k : Int)))) (c := upd1 s.c (oe (lkAt L k) p) (some k)) (by rw [← vo_upd]; rfl)
      have w3 := w2.uC (o := .lst (rF n (upd1 (fun p => vo (s.c p)) (oe (lkAt L k) p) (.int (k : Int)))))
      have q3 : (T2.upd A.c (.lst (rF n (upd1 (fun p => vo (s.c p)) (oe (lkAt L k) p) (.int (k : Int)))))) q = some (.lst (vI (iN ws))) := Sto.upd_at q2 ho.c
      generalize T2.upd A.c (.lst (rF n (upd1 (fun p => vo (s.c p)) (oe (lkAt L k) p) (.int (k : Int))))) = T3 at *
      refine ⟨⟨_, .lst q3⟩, _, q3, ?_, ?_⟩
      · rw [vI_len, iN_len]; exact Nat.lt_of_le_of_lt hwl (by decide)
      have ea : vI (iN ws) ++ [Val.int (oe (lkAt L k) p : Int)] = vI (iN (ws ++ [oe (lkAt L k) p])) := by rw [iN_app]; unfold vI; rw [List.map_append]; rfl
      rw [ea]
      subst hn
      exact ⟨_, .refl, hQ _ _ _ w3.uW (h3.setW q3 ho) Sto.upd_same (.new hgt)⟩
    | some v =>
      simp only [vo, Bool.false_eq_true, if_false]
      refine ⟨_, _, _, h.w, F.w2, rfl, ?_⟩
      simp_wf
      refine ⟨_, _, _, h.f, F.p2, rfl, ?_⟩
      simp_wf
      refine ⟨_, _, .lst h.b, at_rF htn, ?_⟩
      have hgt' : s.g (oe (lkAt L k) p) ≠ none := by rw [hgt]; simp
      simp_wf
      have old : ∀ _ : s.b (oe (lkAt L k) p) = (s.b p + xx L k) % 2 ∨ s.r ≠ none, nx [some (.ref A.w), some (.int p), some (.int k), some (.ref q), some (.int (oe (lkAt L k) p)), some (.int ((s.b p + xx L k) % 2 : Nat))] S := fun z => by
        subst hn
        exact ⟨_, .refl, hQ _ _ _ .refl h hq (.old hgt' z)⟩
      by_cases hb : s.b (oe (lkAt L k) p) = (s.b p + xx L k) % 2
      · rw [if_neg (by omega)]
        exact old (.inl hb)
      rw [if_pos (by omega)]
      refine ⟨_, _, _, h.w, F.w2, rfl, ?_⟩
      simp_wf
      refine ⟨_, _, _, h.f, F.p3, rfl, ?_⟩
      cases hr : s.r with
      | some r =>
        simp only [vr, Bool.false_eq_true, if_false]
        exact old (.inr (by rw [hr]; simp))
      | none =>
        simp only [vr, if_true]
        refine ⟨_, _, _, _, rfl, h.w, rfl, g2, ?_⟩
        refine .of ⟨A, n, L, s, k, rfl, rfl, h, mis_of hL hk he hgp ht (hgg hgt') hb, fun T r le hr' => ?_⟩
        have hT := h.le le
        refine ⟨_, _, _, hT.w, F.w2, rfl, ?_⟩
        refine ⟨_, _, _, rfl, hT.f, F.p3, (by show 3 < 1000; decide), ?_⟩
        have h1 := hT.setR (o := .ins "Parting" (putV "ring" (.tup (vI (iN r))) [("groups", .ref A.g), ("bits", .ref A.b), ("ring", vr s.r)])) (r := some r) rfl
        subst hn
        exact ⟨_, .refl, hQ _ _ _ ((Ws.refl.le le).uF) h1 (Sto.upd_at (le _ _ hq) (ne_il hT.f (le _ _ hq)).symm) (.bad hgt' hb hr hr')⟩
  · exact h.elim
end M

set_option maxHeartbeats 1000000
namespace M
open PySem PySem.Spec L2
local macro_rules | `(tactic| simp_wf) => `(tactic| simp only [wCs, w_asg, w_par, w_aug, w_ex, w_ret, w_retN, w_ite, w_brk, w_cnt, w_pass, w_rais, e_v, e_int, e_bl, e_non, e_str, e_g, e_bin, e_neg, e_cmp, e_chain, e_and, e_or, e_not, e_ife, e_tup, e_lst, e_ix, e_sl, e_rev, e_fld, e_call, e_new, e_meth, e_blt, e_mth, e_isi, e_isiT, e_dK0, e_dT0, e_repr, e_ktup, e_lrng1, e_lrng2, e_lrev, e_trev, e_dix, e_dg1, e_dg2, e_dsd, e_dpop, e_din, wEs, wAndV, wOrV, wB, wAnd, wOr, wBs, wP, r_nm, r_tgT, r_tgQ, r_tgW, r_tgt, r_tgr, r_tgp, r_tgd, r_tgi, r_tgs, r_tgs0, wBin, wCmp,
  r_add_ii, r_add_ib, r_add_ss, r_add_tt, r_add_rr, r_sub_ii, r_mul_ii, r_mul_ri, r_mul_ti, r_div_ii, r_mod_ii, r_pow_ii, r_shl_ii, r_shr_ii, r_and_ii, r_xor_ii, r_int, r_is_n, r_is_b, r_tru_b, r_tru_i, r_tru_n, r_tru_t, r_tru_r, r_ix_t, r_ix_r, r_sl_t, r_sl_r, r_len_t, r_len_s, r_abs, r_min2, r_max2, r_int1, r_int1b, r_str1, r_list1, r_tuple1, r_tuple1t, r_tuple1p, r_len_p, r_sorted1t, r_ix_p, r_valD_p, r_ty_p, r_tindex, r_tyM_tindex, r_reverse, r_tyM_reverse, r_remove, r_tyM_remove, r_append, r_pop0, r_pop1, r_insert, r_extend, r_count, r_index, r_sum1, r_sorted1, r_tyM_pop1, r_tyM_insert, r_tyM_extend, r_tyM_count, r_tyM_index, r_fld, r_tgf, r_tyM_append, r_tyM_pop0, r_valD_t, r_valD_r, r_ty_n, r_ty_b, r_ty_i, r_ty_s, r_ty_t, r_is_non_int, r_is_non_bool, r_is_non_str, r_is_non_tuple, r_is_non_list, r_is_non_dict, r_is_bl_int, r_is_bl_bool, r_is_bl_str, r_is_bl_tuple, r_is_bl_list, r_is_bl_dict, r_is_int_int, r_is_int_bool, r_is_int_str, r_is_int_tuple, r_is_int_list, r_is_int_dict, r_is_str_int, r_is_str_bool, r_is_str_str, r_is_str_tuple, r_is_str_list, r_is_str_dict, r_is_ptup_int, r_is_ptup_bool, r_is_ptup_str, r_is_ptup_tuple, r_is_ptup_list, r_is_ptup_dict, r_is_tup_int, r_is_tup_bool, r_is_tup_str, r_is_tup_tuple, r_is_tup_list, r_is_tup_dict, isNon, r_W0, r_W1, r_T0, r_T1, r_T2, r_Q0, r_Q1, r_at0, r_at1, r_at2, r_at3, r_at4, r_at5, r_eq_ii, r_eq_bb,
  List.getElem?_cons_zero, List.getElem?_cons_succ, List.set_cons_zero, List.set_cons_succ, setAll, Option.some.injEq, Val.int.injEq, Val.bl.injEq, Val.tup.injEq, Val.ref.injEq, exists_eq_left', exists_eq_left, exists_eq_right, Bool.false_eq_true, if_true, if_false, List.isEmpty_nil, List.isEmpty_cons, true_and, and_true, ↓reduceIte, List.length_cons, List.length_nil, startL, List.map_cons, List.map_nil, Bool.not_true, Bool.not_false, Nat.reduceAdd, Nat.reduceSub, List.replicate, List.cons_append, List.nil_append, reduceCtorEq, false_and, exists_false, List.cons.injEq, Bool.false_xor, Bool.true_xor, wipeL, Int.reduceNeg, Int.cast_ofNat_Int, decide_true, decide_false, Int.reduceEq, decide_eq_true_eq, r_nd, r_sl0, r_sl1, r_sl2, r_sl3, r_sl4, r_sl5, r_sl6, r_sl7, r_sl8, r_sl9, r_sl10, r_sl11, r_sl12, r_sl13, r_sl14, r_sl15, r_sl16, r_sl17, r_sl18, r_sl19, r_sl20, r_sl21, r_sl22, r_sl23, r_sl24, decide_eq_false_iff_not, not_true_eq_false, not_false_eq_true, Int.not_lt, Int.not_le])
theorem Ws.out {A : WA} {q : Addr} {S T : Sto} (h : Ws A q S T) (hq : S q = none) : Ws A A.f S T := fun a o x1 x2 x3 x4 _ e => h a o x1 x2 x3 x4 (fun z => by subst z; rw [hq] at e; cases e) e
theorem go_same {n m G : Nat} {L : List Lk} {s0 s : WS} {W : List Nat} {p k : Nat} (h : BI n m G L s0 s W) (hk : k < L.length) (he : isEnd L k p) (hp : s.g p = some G) (hp0 : s0.g p = none)
    (h0 : ∀ q, s0.g q ≠ none → s0.g q ≠ some G ∧ ∀ k, k < L.length → isEnd L k q → s0.g (oe (lkAt L k) q) ≠ none) (ht : s.g (oe (lkAt L k) p) ≠ none) : s.g (oe (lkAt L k) p) = s.g p := by
  rcases h.val _ ht with h1 | h1
  · have := (h0 _ h1).2 k hk (oe_end he)
    rw [oe_oe he] at this
    exact absurd hp0 this
  · rw [h1, hp]
theorem BI.tail {n m G : Nat} {L : List Lk} {s0 s : WS} {x : Nat} {W : List Nat} (h : BI n m G L s0 s (x :: W)) : BI n m G L s0 s W :=
  ⟨h.tree, h.ext, h.val, fun q hq => h.wt q (List.mem_cons_of_mem _ hq), h.bg⟩
def spBegin : Spec
  | [.ref w, .int p, .int gr], S, Q, _ => ∃ A n L s, ∃ (p' g' : Nat), w = A.w ∧ p = p' ∧ gr = g' ∧ WSt A n L s S ∧ LOk n L ∧ OI n p' g' L s ∧ p' < n ∧ s.g p' = none ∧ ∀ T s', Ws A A.f S T → WSt A n L s' T → OI n (p' + 1) (g' + 1) L s' → Q .non T
  | _, _, _, _ => False
def N_Walk_begin : List Str := ["self", "point", "group", "waiting", "here", "number"]
def P_Walk_begin : List Str := ["self", "point", "group"]
def B_Walk_begin : List C := [
  .asg (.ix (.fld (.fld (.v 0) "found") "groups") (.v 1)) (.v 2),
  .asg (.nm 3) (.lst [.v 1]),
  .whil (.cmp .Gt (.blt .len [.v 3]) (.int 0)) [.asg (.nm 4) (.mth .pop1 (.v 3) [.int 0]), .loop (.nm 5) (.val (.ix (.fld (.v 0) "at_point") (.v 4))) [.ex (.meth (.v 0) "go" [.v 4, .v 5, .v 3])]]]
theorem ungr_le {n : Nat} {s : WS} : ungr n s ≤ n := by
  unfold ungr
  exact Nat.le_trans (List.length_filter_le _ _) (by rw [List.length_range]; omega)
theorem body_begin {G : Gam} (F : GFo G) (g : G.mt "Walk" "go" = some spGo) : Body G N_Walk_begin P_Walk_begin B_Walk_begin spBegin := by
  intro vs S Q X h
  unfold spBegin at h
  split at h
  · rename_i w p gr
    obtain ⟨A, n, L, s, p, gr, rfl, rfl, rfl, h, hL, hoi, hp, hgp, hQ⟩ := h
    refine ⟨rfl, ?_⟩
    obtain ⟨hbi, hwc⟩ := bstart_bi hoi hp hgp
    have h0 : ∀ q, s.g q ≠ none → s.g q ≠ some gr ∧ ∀ k, k < L.length → isEnd L k q → s.g (oe (lkAt L k) q) ≠ none := fun q hq => ⟨fun z => by have := hoi.val q gr z; omega, fun k hk he => by rw [(hoi.cl q hq k hk he).1]; exact hq⟩
    simp only [N_Walk_begin, B_Walk_begin]
    refine wCs_step fun nx hn => ?_
    simp_wf
    refine ⟨_, _, _, h.w, F.w2, rfl, ?_⟩
    simp_wf
    refine ⟨_, _, _, h.f, F.p1, rfl, ?_⟩
    simp_wf
    refine ⟨_, _, _, _, rfl, rfl, h.g, ixN_rF hp, ?_⟩
    rw [set_rF]
    have h1 : WSt A n L (bstart s p gr) _ := h.setG (show (rF n (upd1 (fun p => vo (s.g p)) p (.int (gr : Int)))) = rF n fun q => vo (upd1 s.g p (some gr) q) by rw [← vo_upd]; rfl)
    have w1 : Ws A A.f S (S.upd A.g (.lst (rF n (upd1 (fun p => vo (s.g p)) p (.int (gr : Int)))))) := Ws.refl.uG
    generalize S.upd A.g (.lst (rF n (upd1 (fun p => vo (s.g p)) p (.int (gr : Int))))) = T1 at *
    subst hn
    refine wCs_step fun nx hn => ?_
    simp_wf
    intro q hq
    have h2 := h1.own (o := .lst [.int (p : Int)]) hq
    have o2 := h1.oth hq
    have w2 : Ws A q S (T1.upd q (.lst [.int (p : Int)])) := fun a o x1 x2 x3 x4 x5 e => Sto.upd_at (w1 a o x1 x2 x3 x4 x1 e) x5
    have hSq : S q = none := by
      cases e : S q with
      | none => rfl
      | some o =>
        have e1 : q ≠ A.f := fun z => by rw [z, h1.f] at hq; cases hq
        rw [w1 q o e1 o2.g o2.b o2.c e1 e] at hq; cases hq
    have q2 : (T1.upd q (.lst [.int (p : Int)])) q = some (.lst (vI (iN [p]))) := Sto.upd_same
    generalize T1.upd q (.lst [.int (p : Int)]) = T2 at *
    subst hn
    refine wCs_step fun nx hn => ?_
    refine whil_rule (m := 1 + ungr n (bstart s p gr)) (fun m ρ T => ∃ (s' : WS) (ws : List Nat) (o4 o5 : Option Val), m = ws.length + ungr n s' ∧ m ≤ n + 1 ∧ Ws A q S T ∧ WSt A n L s' T ∧ T q = some (.lst (vI (iN ws))) ∧ BI n p gr L s s' ws ∧ WCl L s s' ws ∧ s'.g p = some gr ∧ ρ = [some (.ref A.w), some (.int (p : Int)), some (.int (gr : Int)), some (.ref q), o4, o5])
      ⟨_, [p], _, _, rfl, by have := ungr_le (n := n) (s := bstart s p gr); omega, w2, h2, q2, hbi, hwc, by simp [bstart], rfl⟩ ?_
    rintro m ρ T ⟨s', ws, o4, o5, rfl, hm, hws, hst, hq', bi, wc, hsp, rfl⟩
    simp only [wB, e_cmp, e_blt, wEs, e_v, e_int, wCmp]
    simp only [List.getElem?_cons_zero, List.getElem?_cons_succ, Option.some.injEq, exists_eq_left', r_len_l hq', r_int, r_bl, exists_eq_left', vI_len, iN_len, decide_eq_true_eq]
    cases ws with
    | nil =>
      rw [if_neg (by simp)]
      subst hn
      exact ⟨_, .refl, hQ _ _ (hws.out hSq) hst (begin_end hoi hp bi wc hsp)⟩
    | cons here rest =>
      rw [if_pos (by simp)]
      obtain ⟨hh1, hh2, hhn⟩ := bi.wt here List.mem_cons_self
      refine wCs_step fun nx2 hn2 => ?_
      simp_wf
      refine ⟨⟨_, .lst hq'⟩, _, _, hq', by decide, by decide, rfl, ?_⟩
      have ee : (vI (iN (here :: rest))).eraseIdx (0 : Int).toNat = vI (iN rest) := rfl
      rw [ee]
      have hst1 := hst.setW (ys := vI (iN rest)) hq' o2
      have hws1 : Ws A q S (T.upd q (.lst (vI (iN rest)))) := hws.uW
      have hq1 : (T.upd q (.lst (vI (iN rest)))) q = some (.lst (vI (iN rest))) := Sto.upd_same
      generalize T.upd q (.lst (vI (iN rest))) = T3 at *
      subst hn2
      refine wCs_step fun nx2 hn2 => ?_
      have hmm : rest.length + 1 + ungr n s' ≤ n + 1 := hm
      have hn60 := hst.n16
      refine loop_list_ix (S1 := T3) (q := A.aa here) (xs := AT L L.length here) (f := fun (k : Nat) => .int (k : Int)) (fun j ρ T => ∃ (s2 : WS) (ws2 : List Nat) (o5 : Option Val), ws2.length + ungr n s2 = rest.length + ungr n s' ∧ Ws A q S T ∧ WSt A n L s2 T ∧ T q = some (.lst (vI (iN ws2))) ∧ BI n p gr L s s2 ws2 ∧ Ext s' s2 ∧
          (∀ z, s2.g z ≠ none → s.g z = none → z ∈ ws2 ∨ z = here ∨ ∀ k, k < L.length → isEnd L k z → Proc L s2 z k) ∧ (∀ k ∈ (AT L L.length here).take j, Proc L s2 here k) ∧ ρ = [some (.ref A.w), some (.int (p : Int)), some (.int (gr : Int)), some (.ref q), some (.int (here : Int)), o5])
        ?_ (by rw [← vI_iN]; exact .lst (hst1.aa here hhn)) ?_ ?_ ?_ ?_
      · intro Q' q'
        simp_wf
        refine ⟨_, _, _, hst1.w, F.w4, rfl, ?_⟩
        simp_wf
        exact ⟨_, _, .lst hst1.ap, at_rF hhn, q'⟩
      · rintro j ρ T ⟨s2, ws2, o5, _, _, hst2, _⟩
        rw [← vI_iN]; exact .lst (hst2.aa here hhn)
      · refine ⟨s', rest, o5, rfl, hws1, hst1, hq1, bi.tail, .rfl' _, fun z hz hz0 => ?_, fun k hk => by simp at hk, rfl⟩
        rcases wc z hz hz0 with h3 | h3
        · rcases List.mem_cons.mp h3 with h3 | h3
          · exact .inr (.inl h3)
          · exact .inl h3
        · exact .inr (.inr h3)
      · rintro ρ T ⟨s2, ws2, o5, hlen, hws2, hst2, hq2, bi2, ext2, wc2, pr2, rfl⟩
        subst hn2
        simp only [wCs]
        refine ⟨_, ?_, s2, ws2, _, _, rfl, by omega, hws2, hst2, hq2, bi2, fun z hz hz0 => ?_, ?_, rfl⟩
        · simp only [List.length_cons]; omega
        · rcases wc2 z hz hz0 with h3 | h3 | h3
          · exact .inl h3
          · right
            intro k hk he
            rw [h3] at he ⊢
            refine pr2 k ?_
            rw [List.take_length]
            exact mem_AT.mpr ⟨hk, he⟩
          · exact .inr h3
        · rw [(ext2.g p (by rw [hsp]; simp)).1, hsp]
      · rintro j k hjk ρ T ⟨s2, ws2, o5, hlen, hws2, hst2, hq2, bi2, ext2, wc2, pr2, rfl⟩ D' hnx hct hrt hbk hxc
        have hkm := mem_of_get hjk
        obtain ⟨hk, he⟩ := mem_AT.mp hkm
        have e2 := ext2.g here (by rw [hh1]; simp)
        rw [hh1] at e2
        simp_wf
        refine ⟨_, _, _, _, rfl, hst2.w, rfl, g, ?_⟩
        refine .of ⟨A, n, L, s2, here, k, ws2, rfl, rfl, rfl, hst2, hq2, o2, by omega, hL, hk, he, hhn, by rw [e2.1]; simp, ?_, go_same bi2 hk he e2.1 hh2 h0, ?_⟩
        · obtain ⟨d, hd⟩ := bi2.tree; exact ⟨p, d, hd⟩
        intro T4 s4 ws4 w4 st4 q4 hgo
        obtain ⟨b1, b2, b3, b4, b5⟩ := go_bi hL bi2 hk he e2.1 hh2 h0 hgo
        have ext4 := go_ext hgo
        refine hnx _ _ ⟨s4, ws4, _, by omega, hws2.trans w4, st4, q4, b1, ext2.trans ext4, fun z hz hz0 => ?_, fun k' hk' => ?_, rfl⟩
        · rcases b5 z hz with h3 | h3
          · rcases wc2 z h3 hz0 with h4 | h4 | h4
            · exact .inl (b4 z h4)
            · exact .inr (.inl h4)
            · exact .inr (.inr fun k hk he => (h4 k hk he).mono h3 ext4)
          · exact .inl h3
        · rw [take_snoc hjk] at hk'
          rcases List.mem_append.mp hk' with h3 | h3
          · exact (pr2 k' h3).mono (by rw [e2.1]; simp) ext4
          · simp at h3; subst h3; exact b2
  · exact h.elim
end M

set_option maxHeartbeats 1000000
namespace M
open PySem PySem.Spec L2
local macro_rules | `(tactic| simp_wf) => `(tactic| simp only [wCs, w_asg, w_par, w_aug, w_ex, w_ret, w_retN, w_ite, w_brk, w_cnt, w_pass, w_rais, e_v, e_int, e_bl, e_non, e_str, e_g, e_bin, e_neg, e_cmp, e_chain, e_and, e_or, e_not, e_ife, e_tup, e_lst, e_ix, e_sl, e_rev, e_fld, e_call, e_new, e_meth, e_blt, e_mth, e_isi, e_isiT, e_dK0, e_dT0, e_repr, e_ktup, e_lrng1, e_lrng2, e_lrev, e_trev, e_dix, e_dg1, e_dg2, e_dsd, e_dpop, e_din, wEs, wAndV, wOrV, wB, wAnd, wOr, wBs, wP, r_nm, r_tgT, r_tgQ, r_tgW, r_tgt, r_tgr, r_tgp, r_tgd, r_tgi, r_tgs, r_tgs0, wBin, wCmp,
  r_add_ii, r_add_ib, r_add_ss, r_add_tt, r_add_rr, r_sub_ii, r_mul_ii, r_mul_ri, r_mul_ti, r_div_ii, r_mod_ii, r_pow_ii, r_shl_ii, r_shr_ii, r_and_ii, r_xor_ii, r_int, r_is_n, r_is_b, r_tru_b, r_tru_i, r_tru_n, r_tru_t, r_tru_r, r_ix_t, r_ix_r, r_sl_t, r_sl_r, r_len_t, r_len_s, r_abs, r_min2, r_max2, r_int1, r_int1b, r_str1, r_list1, r_tuple1, r_tuple1t, r_tuple1p, r_len_p, r_sorted1t, r_ix_p, r_valD_p, r_ty_p, r_tindex, r_tyM_tindex, r_reverse, r_tyM_reverse, r_remove, r_tyM_remove, r_append, r_pop0, r_pop1, r_insert, r_extend, r_count, r_index, r_sum1, r_sorted1, r_tyM_pop1, r_tyM_insert, r_tyM_extend, r_tyM_count, r_tyM_index, r_fld, r_tgf, r_tyM_append, r_tyM_pop0, r_valD_t, r_valD_r, r_ty_n, r_ty_b, r_ty_i, r_ty_s, r_ty_t, r_is_non_int, r_is_non_bool, r_is_non_str, r_is_non_tuple, r_is_non_list, r_is_non_dict, r_is_bl_int, r_is_bl_bool, r_is_bl_str, r_is_bl_tuple, r_is_bl_list, r_is_bl_dict, r_is_int_int, r_is_int_bool, r_is_int_str, r_is_int_tuple, r_is_int_list, r_is_int_dict, r_is_str_int, r_is_str_bool, r_is_str_str, r_is_str_tuple, r_is_str_list, r_is_str_dict, r_is_ptup_int, r_is_ptup_bool, r_is_ptup_str, r_is_ptup_tuple, r_is_ptup_list, r_is_ptup_dict, r_is_tup_int, r_is_tup_bool, r_is_tup_str, r_is_tup_tuple, r_is_tup_list, r_is_tup_dict, isNon, r_W0, r_W1, r_T0, r_T1, r_T2, r_Q0, r_Q1, r_at0, r_at1, r_at2, r_at3, r_at4, r_at5, r_eq_ii, r_eq_bb,
  List.getElem?_cons_zero, List.getElem?_cons_succ, List.set_cons_zero, List.set_cons_succ, setAll, Option.some.injEq, Val.int.injEq, Val.bl.injEq, Val.tup.injEq, Val.ref.injEq, exists_eq_left', exists_eq_left, exists_eq_right, Bool.false_eq_true, if_true, if_false, List.isEmpty_nil, List.isEmpty_cons, true_and, and_true, ↓reduceIte, List.length_cons, List.length_nil, startL, List.map_cons, List.map_nil, Bool.not_true, Bool.not_false, Nat.reduceAdd, Nat.reduceSub, List.replicate, List.cons_append, List.nil_append, reduceCtorEq, false_and, exists_false, List.cons.injEq, Bool.false_xor, Bool.true_xor, wipeL, Int.reduceNeg, Int.cast_ofNat_Int, decide_true, decide_false, Int.reduceEq, decide_eq_true_eq, r_nd, r_sl0, r_sl1, r_sl2, r_sl3, r_sl4, r_sl5, r_sl6, r_sl7, r_sl8, r_sl9, r_sl10, r_sl11, r_sl12, r_sl13, r_sl14, r_sl15, r_sl16, r_sl17, r_sl18, r_sl19, r_sl20, r_sl21, r_sl22, r_sl23, r_sl24, decide_eq_false_iff_not, not_true_eq_false, not_false_eq_true, Int.not_lt, Int.not_le])
def vLk (l : Lk) : List (Str × Val) := [("one", .int (l.a : Int)), ("other", .int (l.b : Int)), ("apart", .int (l.x : Int))]
def spLinkI : Spec
  | [.ref p, a, b, x], S, Q, _ => S p = some (.ins "Link" []) ∧ Q .non (S.upd p (.ins "Link" [("one", a), ("other", b), ("apart", x)]))
  | _, _, _, _ => False
def N_Link_init : List Str := ["self", "one", "other", "apart"]
def P_Link_init : List Str := ["self", "one", "other", "apart"]
def B_Link_init : List C := [
  .asg (.fld (.v 0) "one") (.v 1),
  .asg (.fld (.v 0) "other") (.v 2),
  .asg (.fld (.v 0) "apart") (.v 3)]
theorem body_Link_init {G : Gam} (F : GFo G) : Body G N_Link_init P_Link_init B_Link_init spLinkI := by
  intro vs S Q X h
  unfold spLinkI at h
  split at h
  · rename_i p a b x
    obtain ⟨h, hq⟩ := h
    refine ⟨rfl, ?_⟩
    simp only [N_Link_init, B_Link_init]
    simp_wf
    refine ⟨p, _, _, rfl, h, F.l1, (by show 0 < 1000; decide), ?_⟩
    refine ⟨p, _, _, rfl, Sto.upd_same, F.l2, (by show 1 < 1000; decide), ?_⟩
    refine ⟨p, _, _, rfl, Sto.upd_same, F.l3, (by show 2 < 1000; decide), S.upd p (.ins "Link" [("one", a), ("other", b), ("apart", x)]), ?_, hq⟩
    rw [Sto.upd_upd, Sto.upd_upd]
    exact .refl
  · exact h.elim
def spPartI : Spec
  | [.ref p, .int n], S, Q, _ => ∃ n' : Nat, n = n' ∧ n' ≤ 60 ∧ S p = some (.ins "Parting" []) ∧ ∀ T g b, Fr p S T → S g = none → S b = none → g ≠ b → T g = some (.lst (rF n' fun _ => .non)) → T b = some (.lst (rF n' fun _ => .int 0)) → T p = some (.ins "Parting" [("groups", .ref g), ("bits", .ref b), ("ring", .non)]) → Q .non T
  | _, _, _, _ => False
def N_Parting_init : List Str := ["self", "many", "point"]
def P_Parting_init : List Str := ["self", "many"]
def B_Parting_init : List C := [
  .asg (.fld (.v 0) "groups") (.lc [("point", 2)] (.nm 2) (.rng1 (.v 1)) [] .non),
  .asg (.fld (.v 0) "bits") (.lc [("point", 2)] (.nm 2) (.rng1 (.v 1)) [] (.int 0)),
  .asg (.fld (.v 0) "ring") .non]
theorem flt_all {n : Nat} {f : Nat → Val} : ((List.range n).filter fun _ => true).map f = rF n f := by
  rw [List.filter_eq_self.mpr (fun _ _ => rfl)]; rfl
theorem body_Parting_init {G : Gam} (F : GFo G) : Body G N_Parting_init P_Parting_init B_Parting_init spPartI := by
  intro vs S Q X h
  unfold spPartI at h
  split at h
  · rename_i p n
    obtain ⟨n, rfl, hn60, h, hq⟩ := h
    refine ⟨rfl, ?_⟩
    simp only [N_Parting_init, B_Parting_init]
    simp only [wCs, w_asg]
    refine lc_rng1_fm (n := n) (fun _ => true) (fun _ => .non) (fun Q q => by simp_wf; exact q) (by omega) (fun j _ R r1 _ => by simp_wf; exact r1 rfl) fun g hg => ?_
    rw [flt_all]
    have ngp := ne_nn h hg
    simp_wf
    refine ⟨p, _, _, rfl, Sto.old h hg, F.p1, (by show 0 < 1000; decide), ?_⟩
    have g1 : ((S.upd g (.lst (rF n fun _ => .non))).upd p (.ins "Parting" (putV "groups" (.ref g) []))) g = some (.lst (rF n fun _ => .non)) := Sto.upd_at Sto.upd_same ngp
    have p1 : ((S.upd g (.lst (rF n fun _ => .non))).upd p (.ins "Parting" (putV "groups" (.ref g) []))) p = some (.ins "Parting" [("groups", .ref g)]) := Sto.upd_same
    have f1 : Fr p S ((S.upd g (.lst (rF n fun _ => .non))).upd p (.ins "Parting" (putV "groups" (.ref g) []))) := (Fr.refl.own hg).deck
    generalize (S.upd g (.lst (rF n fun _ => .non))).upd p (.ins "Parting" (putV "groups" (.ref g) [])) = T1 at *
    refine lc_rng1_fm (n := n) (fun _ => true) (fun _ => .int 0) (fun Q q => by simp_wf; exact q) (by omega) (fun j _ R r1 _ => by simp_wf; exact r1 rfl) fun b hb => ?_
    rw [flt_all]
    have nbp := ne_nn p1 hb
    have nbg := ne_nn g1 hb
    simp_wf
    refine ⟨_, _, Sto.old p1 hb, F.p2, (by show 1 < 1000; decide), ?_⟩
    have b2 : ((T1.upd b (.lst (rF n fun _ => .int 0))).upd p (.ins "Parting" (putV "bits" (.ref b) [("groups", .ref g)]))) b = some (.lst (rF n fun _ => .int 0)) := Sto.upd_at Sto.upd_same nbp
    have g2 : ((T1.upd b (.lst (rF n fun _ => .int 0))).upd p (.ins "Parting" (putV "bits" (.ref b) [("groups", .ref g)]))) g = some (.lst (rF n fun _ => .non)) := Sto.upd_at (Sto.old g1 hb) ngp
    have p2 : ((T1.upd b (.lst (rF n fun _ => .int 0))).upd p (.ins "Parting" (putV "bits" (.ref b) [("groups", .ref g)]))) p = some (.ins "Parting" [("groups", .ref g), ("bits", .ref b)]) := Sto.upd_same
    have f2 : Fr p S ((T1.upd b (.lst (rF n fun _ => .int 0))).upd p (.ins "Parting" (putV "bits" (.ref b) [("groups", .ref g)]))) := (f1.new hb).deck
    have hbS := f1.non nbp hb
    generalize (T1.upd b (.lst (rF n fun _ => .int 0))).upd p (.ins "Parting" (putV "bits" (.ref b) [("groups", .ref g)])) = T2 at *
    refine ⟨_, _, p2, F.p3, (by show 2 < 1000; decide), ?_⟩
    exact ⟨_, .refl, hq _ g b f2.deck hg hbS (Ne.symm nbg) (Sto.upd_at g2 ngp) (Sto.upd_at b2 nbp) Sto.upd_same⟩
  · exact h.elim
def spWalkI : Spec
  | [.ref w, .int n, .ref lr], S, Q, _ => ∃ (n' : Nat) (L : List Lk) (la : Nat → Addr), n = n' ∧ n' ≤ 60 ∧ L.length ≤ 2000 ∧ LOk n' L ∧ S w = some (.ins "Walk" []) ∧ S lr = some (.lst (rF L.length fun k => .ref (la k))) ∧ (∀ k, k < L.length → S (la k) = some (.ins "Link" (vLk (lkAt L k)))) ∧
      ∀ T A, A.w = w → Fr w S T → S A.f = none → S A.g = none → S A.b = none → S A.c = none → WSt A n' L WS0 T → Q .non T
  | _, _, _, _ => False
def N_Walk_init : List Str := ["self", "many", "links", "point", "number"]
def P_Walk_init : List Str := ["self", "many", "links"]
def B_Walk_init : List C := [
  .asg (.fld (.v 0) "links") (.v 2),
  .asg (.fld (.v 0) "found") (.new "Parting" [.v 1]),
  .asg (.fld (.v 0) "came_by") (.lc [("point", 3)] (.nm 3) (.rng1 (.v 1)) [] .non),
  .asg (.fld (.v 0) "at_point") (.lc [("point", 3)] (.nm 3) (.rng1 (.v 1)) [] (.lst [])),
  .loop (.nm 4) (.rng1 (.blt .len [.v 2])) [.ex (.mth .append (.ix (.fld (.v 0) "at_point") (.fld (.ix (.v 2) (.v 4)) "one")) [.v 4]), .ex (.mth .append (.ix (.fld (.v 0) "at_point") (.fld (.ix (.v 2) (.v 4)) "other")) [.v 4])]]
/-- lists that stand apart -/
theorem lc_lists {G : Gam} {X : XPost} {ρ : Loc} {S : Sto} {a : E} {own : List (Str × Nat)} {i : Nat} {n : Nat} {Q : Post} (ha : ∀ Q : Post, Q (.int n) S → wE G X a ρ S Q) (hn : n ≤ 2 ^ 20)
    (hq : ∀ (T : Sto) (q : Addr) (aa : Nat → Addr), S.le T → S q = none → T q = some (.lst (rF n fun p => .ref (aa p))) → (∀ p, p < n → S (aa p) = none ∧ T (aa p) = some (.lst [])) → (∀ p r, p < n → r < n → aa p = aa r → p = r) → (∀ p, p < n → aa p ≠ q) → Q (.ref q) T) :
    wE G X (.lc own (.nm i) (.rng1 a) [] (.lst [])) ρ S Q := by
  refine lc_rng1_ix (n := n) (S1 := S) (fun j acc T => ∃ aa : Nat → Addr, acc = rF j (fun p => .ref (aa p)) ∧ S.le T ∧ (∀ p, p < j → S (aa p) = none ∧ T (aa p) = some (.lst [])) ∧ (∀ p r, p < j → r < j → aa p = aa r → p = r)) ha hn ?_ ?_ ?_ ?_
  · rintro j acc T ⟨aa, rfl, _⟩; rw [rF_len]; omega
  · exact ⟨fun _ => (0 : Nat), rfl, .refl, fun p hp => by omega, fun p r hp => by omega⟩
  · rintro acc T ⟨aa, rfl, le, h1, h2⟩ q hqn
    refine hq _ q aa (fun a o e => le_new hqn a o (le a o e)) ?_ Sto.upd_same (fun p hp => ⟨(h1 p hp).1, Sto.old (h1 p hp).2 hqn⟩) h2 fun p hp => (ne_nn (h1 p hp).2 hqn).symm
    cases e : S q with
    | none => rfl
    | some o => rw [le q o e] at hqn; cases hqn
  · rintro j acc T hj ⟨aa, rfl, le, h1, h2⟩ R r0 r1
    simp_wf
    intro q hqn
    have hSq : S q = none := by
      cases e : S q with
      | none => rfl
      | some o => rw [le q o e] at hqn; cases hqn
    refine r1 _ _ ⟨upd1 aa j q, ?_, fun a o e => le_new hqn a o (le a o e), fun p hp => ?_, fun p r hp hr => ?_⟩
    · unfold rF
      rw [List.range_succ, List.map_append]
      congr 1
      · exact List.map_congr_left fun p hp => by rw [upd1_ne _ _ (by have := List.mem_range.mp hp; omega)]
      · simp
    · by_cases hpj : p = j
      · subst hpj; rw [upd1_same]; exact ⟨hSq, Sto.upd_same⟩
      · rw [upd1_ne _ _ hpj]; have := h1 p (by omega); exact ⟨this.1, Sto.old this.2 hqn⟩
    · by_cases hpj : p = j <;> by_cases hrj : r = j
      · intro _; omega
      · subst hpj; rw [upd1_same, upd1_ne _ _ hrj]; intro e; exact absurd e (ne_nn (h1 r (by omega)).2 hqn)
      · subst hrj; rw [upd1_same, upd1_ne _ _ hpj]; intro e; exact absurd e.symm (ne_nn (h1 p (by omega)).2 hqn)
      · rw [upd1_ne _ _ hpj, upd1_ne _ _ hrj]; exact h2 p r (by omega) (by omega)
theorem AT_succ (L : List Lk) (i p : Nat) : AT L (i + 1) p = AT L i p ++ List.replicate (cx L i p) i := by
  unfold AT; rw [List.range_succ, List.flatMap_append]; simp
theorem AT_len (L : List Lk) (i p : Nat) : (AT L i p).length ≤ 2 * i := by
  induction i with
  | zero => simp [AT]
  | succ i ih =>
    rw [AT_succ, List.length_append, List.length_replicate]
    have : cx L i p ≤ 2 := by unfold cx; split <;> split <;> omega
    omega
theorem AT_step (L : List Lk) (k p : Nat) : upd1 (upd1 (fun p => AT L k p) (lkAt L k).a (AT L k (lkAt L k).a ++ [k])) (lkAt L k).b (upd1 (fun p => AT L k p) (lkAt L k).a (AT L k (lkAt L k).a ++ [k]) (lkAt L k).b ++ [k]) p = AT L (k + 1) p := by
  rw [AT_succ]
  unfold upd1 cx
  by_cases h1 : p = (lkAt L k).a <;> by_cases h2 : p = (lkAt L k).b
  · rw [← h1, ← h2]; simp
  · rw [if_neg h2, if_pos h1, if_pos h1.symm, if_neg (fun z => h2 z.symm)]; rw [h1]; simp
  · rw [if_pos h2, if_neg (by rw [← h2]; exact h1), if_neg (fun z => h1 z.symm), if_pos h2.symm]; rw [h2]; simp
  · rw [if_neg h2, if_neg h1, if_neg (fun z => h1 z.symm), if_neg (fun z => h2 z.symm)]; simp
/-- a link put at one of its points -/
theorem aa_put {n : Nat} {aa : Nat → Addr} {H : Nat → List Nat} {T : Sto} {q : Nat} {k : Nat} (inj : ∀ p r, p < n → r < n → aa p = aa r → p = r) (hT : ∀ p, p < n → T (aa p) = some (.lst (vI (iN (H p))))) (hq : q < n) :
    ∀ p, p < n → (T.upd (aa q) (.lst (vI (iN (H q)) ++ [.int (k : Int)]))) (aa p) = some (.lst (vI (iN (upd1 H q (H q ++ [k]) p)))) := by
  intro p hp
  by_cases h : p = q
  · subst h; rw [Sto.upd_same, upd1_same, iN_app]; unfold vI; rw [List.map_append]; rfl
  · rw [upd1_ne _ _ h]; exact Sto.upd_at (hT p hp) fun z => h (inj p q hp hq z)
theorem body_Walk_init {G : Gam} (F : GFo G) (g : G.new "Parting" = some spPartI) : Body G N_Walk_init P_Walk_init B_Walk_init spWalkI := by
  intro vs S Q X h
  unfold spWalkI at h
  split at h
  · rename_i w n lr
    obtain ⟨n, L, la, rfl, hn60, hl, hL, h, hlr, hla, hq⟩ := h
    refine ⟨rfl, ?_⟩
    simp only [N_Walk_init, B_Walk_init]
    refine wCs_step fun nx hn => ?_
    simp_wf
    refine ⟨w, _, _, rfl, h, F.w1, (by show 0 < 1000; decide), ?_⟩
    have w1 : (S.upd w (.ins "Walk" (putV "links" (.ref lr) []))) w = some (.ins "Walk" [("links", .ref lr)]) := Sto.upd_same
    have f1 : Fr w S (S.upd w (.ins "Walk" (putV "links" (.ref lr) []))) := Fr.refl.deck
    generalize S.upd w (.ins "Walk" (putV "links" (.ref lr) [])) = T1 at *
    subst hn
    refine wCs_step fun nx hn => ?_
    simp_wf
    refine ⟨_, g, fun f hf => ?_⟩
    have hfS := f1.non (ne_nn w1 hf) hf
    have nfw := ne_nn w1 hf
    refine .of ⟨n, rfl, hn60, Sto.upd_same, fun T2 gg bb fr2 hg hb ngb hTg hTb hTf => ⟨rfl, ?_⟩⟩
    have w2 : T2 w = some (.ins "Walk" [("links", .ref lr)]) := fr2 _ _ (Ne.symm nfw) (Sto.upd_at w1 (Ne.symm nfw))
    have f2 : Fr w S T2 := fun a o na e => fr2 a o (fun z => by subst z; rw [hfS] at e; cases e) (Sto.upd_at (f1 a o na e) (fun z => by subst z; rw [hfS] at e; cases e))
    have nfg : gg ≠ f := fun z => by rw [z, Sto.upd_same] at hg; cases hg
    have nfb : bb ≠ f := fun z => by rw [z, Sto.upd_same] at hb; cases hb
    rw [Sto.upd_ne nfg] at hg
    rw [Sto.upd_ne nfb] at hb
    have ngw := ne_nn w1 hg
    have nbw := ne_nn w1 hb
    have hgS := f1.non ngw hg
    have hbS := f1.non nbw hb
    refine ⟨w, _, _, rfl, w2, F.w2, (by show 1 < 1000; decide), ?_⟩
    have w3 : (T2.upd w (.ins "Walk" (putV "found" (.ref f) [("links", .ref lr)]))) w = some (.ins "Walk" [("links", .ref lr), ("found", .ref f)]) := Sto.upd_same
    have f3 : Fr w S (T2.upd w (.ins "Walk" (putV "found" (.ref f) [("links", .ref lr)]))) := f2.deck
    have g3 := Sto.upd_at (u := .ins "Walk" (putV "found" (.ref f) [("links", .ref lr)])) hTg ngw
    have b3 := Sto.upd_at (u := .ins "Walk" (putV "found" (.ref f) [("links", .ref lr)])) hTb nbw
    have p3 := Sto.upd_at (u := .ins "Walk" (putV "found" (.ref f) [("links", .ref lr)])) hTf nfw
    generalize T2.upd w (.ins "Walk" (putV "found" (.ref f) [("links", .ref lr)])) = T3 at *
    subst hn
    refine wCs_step fun nx hn => ?_
    simp only [w_asg]
    refine lc_rng1_fm (n := n) (fun _ => true) (fun _ => .non) (fun Q q => by simp_wf; exact q) (by omega) (fun j _ R r1 _ => by simp_wf; exact r1 rfl) fun c hc => ?_
    rw [flt_all]
    have ncw := ne_nn w3 hc
    have ncg := ne_nn g3 hc
    have ncb := ne_nn b3 hc
    have ncf := ne_nn p3 hc
    simp_wf
    refine ⟨w, _, _, rfl, Sto.old w3 hc, F.w3, (by show 2 < 1000; decide), ?_⟩
    have hcS := f3.non ncw hc
    have w4 : ((T3.upd c (.lst (rF n fun _ => .non))).upd w (.ins "Walk" (putV "came_by" (.ref c) [("links", .ref lr), ("found", .ref f)]))) w = some (.ins "Walk" [("links", .ref lr), ("found", .ref f), ("came_by", .ref c)]) := Sto.upd_same
    have f4 : Fr w S ((T3.upd c (.lst (rF n fun _ => .non))).upd w (.ins "Walk" (putV "came_by" (.ref c) [("links", .ref lr), ("found", .ref f)]))) := (f3.new hc).deck
    have c4 := Sto.upd_at (u := .ins "Walk" (putV "came_by" (.ref c) [("links", .ref lr), ("found", .ref f)])) (Sto.upd_same (S := T3) (a := c) (o := .lst (rF n fun _ => .non))) ncw
    have g4 := Sto.upd_at (u := .ins "Walk" (putV "came_by" (.ref c) [("links", .ref lr), ("found", .ref f)])) (Sto.old (u := .lst (rF n fun _ => .non)) g3 hc) ngw
    have b4 := Sto.upd_at (u := .ins "Walk" (putV "came_by" (.ref c) [("links", .ref lr), ("found", .ref f)])) (Sto.old (u := .lst (rF n fun _ => .non)) b3 hc) nbw
    have p4 := Sto.upd_at (u := .ins "Walk" (putV "came_by" (.ref c) [("links", .ref lr), ("found", .ref f)])) (Sto.old (u := .lst (rF n fun _ => .non)) p3 hc) nfw
    generalize (T3.upd c (.lst (rF n fun _ => .non))).upd w (.ins "Walk" (putV "came_by" (.ref c) [("links", .ref lr), ("found", .ref f)])) = T4 at *
    subst hn
    refine wCs_step fun nx hn => ?_
    simp only [w_asg]
    refine lc_lists (n := n) (fun Q q => by simp_wf; exact q) (by omega) fun T5 ap aa le5 hap ap5 aa5 inj nap => ?_
    have napw := ne_nn w4 hap
    simp_wf
    refine ⟨w, _, _, rfl, le5 _ _ w4, F.w4, (by show 3 < 1000; decide), ?_⟩
    have w6 : (T5.upd w (.ins "Walk" (putV "at_point" (.ref ap) [("links", .ref lr), ("found", .ref f), ("came_by", .ref c)]))) w = some (.ins "Walk" [("links", .ref lr), ("found", .ref f), ("came_by", .ref c), ("at_point", .ref ap)]) := Sto.upd_same
    have f6 : Fr w S (T5.upd w (.ins "Walk" (putV "at_point" (.ref ap) [("links", .ref lr), ("found", .ref f), ("came_by", .ref c)]))) := (f4.trans (Fr.le le5)).deck
    have c6 := Sto.upd_at (u := .ins "Walk" (putV "at_point" (.ref ap) [("links", .ref lr), ("found", .ref f), ("came_by", .ref c)])) (le5 _ _ c4) ncw
    have g6 := Sto.upd_at (u := .ins "Walk" (putV "at_point" (.ref ap) [("links", .ref lr), ("found", .ref f), ("came_by", .ref c)])) (le5 _ _ g4) ngw
    have b6 := Sto.upd_at (u := .ins "Walk" (putV "at_point" (.ref ap) [("links", .ref lr), ("found", .ref f), ("came_by", .ref c)])) (le5 _ _ b4) nbw
    have p6 := Sto.upd_at (u := .ins "Walk" (putV "at_point" (.ref ap) [("links", .ref lr), ("found", .ref f), ("came_by", .ref c)])) (le5 _ _ p4) nfw
    have ap6 := Sto.upd_at (u := .ins "Walk" (putV "at_point" (.ref ap) [("links", .ref lr), ("found", .ref f), ("came_by", .ref c)])) ap5 napw
    have aaw : ∀ p, p < n → aa p ≠ w := fun p hp => ne_nn w4 (aa5 p hp).1
    have aa6 : ∀ p, p < n → (T5.upd w (.ins "Walk" (putV "at_point" (.ref ap) [("links", .ref lr), ("found", .ref f), ("came_by", .ref c)]))) (aa p) = some (.lst (vI (iN (AT L 0 p)))) := fun p hp => Sto.upd_at (aa5 p hp).2 (aaw p hp)
    generalize T5.upd w (.ins "Walk" (putV "at_point" (.ref ap) [("links", .ref lr), ("found", .ref f), ("came_by", .ref c)])) = T6 at *
    have aac : ∀ p, p < n → aa p ≠ c := fun p hp => ne_nn c4 (aa5 p hp).1
    have aag : ∀ p, p < n → aa p ≠ gg := fun p hp => ne_nn g4 (aa5 p hp).1
    have aab : ∀ p, p < n → aa p ≠ bb := fun p hp => ne_nn b4 (aa5 p hp).1
    have aaf : ∀ p, p < n → aa p ≠ f := fun p hp => ne_nn p4 (aa5 p hp).1
    have napc := ne_nn c4 hap
    have napg := ne_nn g4 hap
    have napb := ne_nn b4 hap
    have hlw : lr ≠ w := fun z => by rw [z, h] at hlr; cases hlr
    have hlaw : ∀ k, k < L.length → la k ≠ w := fun k hk z => by have := hla k hk; rw [z, h] at this; simp only [Option.some.injEq, MO.ins.injEq] at this; exact absurd this.1 (by decide)
    have aal : ∀ p, p < n → aa p ≠ lr := fun p hp => ne_nn (f4 _ _ hlw hlr) (aa5 p hp).1
    have aala : ∀ p k, p < n → k < L.length → aa p ≠ la k := fun p k hp hk => ne_nn (f4 _ _ (hlaw k hk) (hla k hk)) (aa5 p hp).1
    have lr6 := f6 _ _ hlw hlr
    have la6 : ∀ k, k < L.length → T6 (la k) = some (.ins "Link" (vLk (lkAt L k))) := fun k hk => f6 _ _ (hlaw k hk) (hla k hk)
    have aaS : ∀ p, p < n → S (aa p) = none := fun p hp => f4.non (aaw p hp) (aa5 p hp).1
    subst hn
    refine wCs_step fun nx hn => ?_
    refine loop_rng1_ix (n := L.length) (S1 := T6) (fun j ρ T => (∃ o3 o4, ρ = [some (.ref w), some (.int (n : Int)), some (.ref lr), o3, o4]) ∧ (∀ a o, (∀ p, p < n → a ≠ aa p) → T6 a = some o → T a = some o) ∧ ∀ p, p < n → T (aa p) = some (.lst (vI (iN (AT L j p)))))
      (fun Q q => by simp_wf; rw [r_len_l lr6, rF_len]; exact q) (by omega) ⟨⟨_, _, rfl⟩, fun _ _ _ e => e, aa6⟩ ?_ ?_
    · rintro ρ T ⟨⟨o3, o4, rfl⟩, fr, haa⟩
      subst hn
      have napaa : ∀ p, p < n → ap ≠ aa p := fun p hp => (nap p hp).symm
      refine ⟨_, .refl, hq T ⟨w, f, gg, bb, c, ap, lr, la, aa⟩ rfl (fun a o na e => fr a o (fun p hp z => by subst z; rw [aaS p hp] at e; cases e) (f6 a o na e)) hfS hgS hbS hcS ?_⟩
      exact { w := fr _ _ (fun p hp => (aaw p hp).symm) w6, f := fr _ _ (fun p hp => (aaf p hp).symm) p6, g := fr _ _ (fun p hp => (aag p hp).symm) g6, b := fr _ _ (fun p hp => (aab p hp).symm) b6, c := fr _ _ (fun p hp => (aac p hp).symm) c6, ap := fr _ _ napaa ap6, aa := haa, lr := fr _ _ (fun p hp => (aal p hp).symm) lr6, la := fun k hk => fr _ _ (fun p hp => (aala p k hp hk).symm) (la6 k hk),
              n16 := hn60, l16 := hl, wf := Ne.symm nfw, gb := ngb, gc := Ne.symm ncg, bc := Ne.symm ncb, gap := napg, bap := napb, cap := napc,
              gl := (fun z => by rw [show lr = gg from z, hgS] at hlr; cases hlr), bl := (fun z => by rw [show lr = bb from z, hbS] at hlr; cases hlr), cl := (fun z => by rw [show lr = c from z, hcS] at hlr; cases hlr),
              ga := aag, ba := aab, ca := aac, lf := (fun k hk z => by have := hla k hk; rw [show la k = f from z, hfS] at this; cases this) }
    · rintro j ρ T hj ⟨⟨o3, o4, rfl⟩, fr, haa⟩ D' hnx hct hrt hbk hxc
      have w7 := fr _ _ (fun p hp => (aaw p hp).symm) w6
      have lr7 := fr _ _ (fun p hp => (aal p hp).symm) lr6
      have ap7 := fr _ _ (fun p hp => (nap p hp).symm) ap6
      have la7 := fr _ _ (fun p hp => (aala p j hp hj).symm) (la6 j hj)
      have ha := hL.a j hj
      have hb := hL.b j hj
      simp_wf
      refine ⟨_, _, _, w7, F.w4, rfl, ?_⟩
      simp_wf
      refine ⟨_, .lst lr7, _, at_rF hj, ?_⟩
      simp_wf
      refine ⟨_, _, _, la7, F.l1, rfl, ?_⟩
      simp_wf
      refine ⟨_, _, .lst ap7, at_rF ha, ?_⟩
      simp_wf
      refine ⟨⟨_, .lst (haa _ ha)⟩, _, haa _ ha, ?_, ?_⟩
      · rw [vI_len, iN_len]; have := AT_len L j (lkAt L j).a; exact Nat.lt_of_le_of_lt (show _ ≤ 5000 by omega) (by decide)
      have st1 := aa_put (k := j) inj haa ha
      have fr1 : ∀ a o, (∀ p, p < n → a ≠ aa p) → T6 a = some o → (T.upd (aa (lkAt L j).a) (.lst (vI (iN (AT L j (lkAt L j).a)) ++ [.int (j : Int)]))) a = some o := fun a o na e => Sto.upd_at (fr a o na e) (na _ ha)
      generalize T.upd (aa (lkAt L j).a) (.lst (vI (iN (AT L j (lkAt L j).a)) ++ [.int (j : Int)])) = T7 at *
      have w8 := fr1 _ _ (fun p hp => (aaw p hp).symm) w6
      have lr8 := fr1 _ _ (fun p hp => (aal p hp).symm) lr6
      have ap8 := fr1 _ _ (fun p hp => (nap p hp).symm) ap6
      have la8 := fr1 _ _ (fun p hp => (aala p j hp hj).symm) (la6 j hj)
      refine ⟨_, _, w8, F.w4, _, rfl, ?_⟩
      simp_wf
      refine ⟨_, .lst lr8, _, at_rF hj, ?_⟩
      simp_wf
      refine ⟨_, _, _, la8, F.l2, rfl, ?_⟩
      simp_wf
      refine ⟨_, _, .lst ap8, at_rF hb, ?_⟩
      simp_wf
      refine ⟨⟨_, .lst (st1 _ hb)⟩, _, st1 _ hb, ?_, ?_⟩
      · rw [vI_len, iN_len]
        have := AT_len L j (lkAt L j).a
        have := AT_len L j (lkAt L j).b
        refine Nat.lt_of_le_of_lt (m := 5000) ?_ (by decide)
        unfold upd1
        split
        · rw [List.length_append]; simp only [List.length_cons, List.length_nil]; omega
        · omega
      have st2 := aa_put (k := j) inj st1 hb
      refine hnx _ _ ⟨⟨_, _, rfl⟩, fun a o na e => Sto.upd_at (fr1 a o na e) (na _ hb), fun p hp => ?_⟩
      have := st2 p hp
      rw [AT_step] at this
      exact this
  · exact h.elim
end M

set_option maxHeartbeats 1000000
namespace M
open PySem PySem.Spec L2
local macro_rules | `(tactic| simp_wf) => `(tactic| simp only [wCs, w_asg, w_par, w_aug, w_ex, w_ret, w_retN, w_ite, w_brk, w_cnt, w_pass, w_rais, e_v, e_int, e_bl, e_non, e_str, e_g, e_bin, e_neg, e_cmp, e_chain, e_and, e_or, e_not, e_ife, e_tup, e_lst, e_ix, e_sl, e_rev, e_fld, e_call, e_new, e_meth, e_blt, e_mth, e_isi, e_isiT, e_dK0, e_dT0, e_repr, e_ktup, e_lrng1, e_lrng2, e_lrev, e_trev, e_dix, e_dg1, e_dg2, e_dsd, e_dpop, e_din, wEs, wAndV, wOrV, wB, wAnd, wOr, wBs, wP, r_nm, r_tgT, r_tgQ, r_tgW, r_tgt, r_tgr, r_tgp, r_tgd, r_tgi, r_tgs, r_tgs0, wBin, wCmp,
  r_add_ii, r_add_ib, r_add_ss, r_add_tt, r_add_rr, r_sub_ii, r_mul_ii, r_mul_ri, r_mul_ti, r_div_ii, r_mod_ii, r_pow_ii, r_shl_ii, r_shr_ii, r_and_ii, r_xor_ii, r_int, r_is_n, r_is_b, r_tru_b, r_tru_i, r_tru_n, r_tru_t, r_tru_r, r_ix_t, r_ix_r, r_sl_t, r_sl_r, r_len_t, r_len_s, r_abs, r_min2, r_max2, r_int1, r_int1b, r_str1, r_list1, r_tuple1, r_tuple1t, r_tuple1p, r_len_p, r_sorted1t, r_ix_p, r_valD_p, r_ty_p, r_tindex, r_tyM_tindex, r_reverse, r_tyM_reverse, r_remove, r_tyM_remove, r_append, r_pop0, r_pop1, r_insert, r_extend, r_count, r_index, r_sum1, r_sorted1, r_tyM_pop1, r_tyM_insert, r_tyM_extend, r_tyM_count, r_tyM_index, r_fld, r_tgf, r_tyM_append, r_tyM_pop0, r_valD_t, r_valD_r, r_ty_n, r_ty_b, r_ty_i, r_ty_s, r_ty_t, r_is_non_int, r_is_non_bool, r_is_non_str, r_is_non_tuple, r_is_non_list, r_is_non_dict, r_is_bl_int, r_is_bl_bool, r_is_bl_str, r_is_bl_tuple, r_is_bl_list, r_is_bl_dict, r_is_int_int, r_is_int_bool, r_is_int_str, r_is_int_tuple, r_is_int_list, r_is_int_dict, r_is_str_int, r_is_str_bool, r_is_str_str, r_is_str_tuple, r_is_str_list, r_is_str_dict, r_is_ptup_int, r_is_ptup_bool, r_is_ptup_str, r_is_ptup_tuple, r_is_ptup_list, r_is_ptup_dict, r_is_tup_int, r_is_tup_bool, r_is_tup_str, r_is_tup_tuple, r_is_tup_list, r_is_tup_dict, isNon, r_W0, r_W1, r_T0, r_T1, r_T2, r_Q0, r_Q1, r_at0, r_at1, r_at2, r_at3, r_at4, r_at5, r_eq_ii, r_eq_bb,
  List.getElem?_cons_zero, List.getElem?_cons_succ, List.set_cons_zero, List.set_cons_succ, setAll, Option.some.injEq, Val.int.injEq, Val.bl.injEq, Val.tup.injEq, Val.ref.injEq, exists_eq_left', exists_eq_left, exists_eq_right, Bool.false_eq_true, if_true, if_false, List.isEmpty_nil, List.isEmpty_cons, true_and, and_true, ↓reduceIte, List.length_cons, List.length_nil, startL, List.map_cons, List.map_nil, Bool.not_true, Bool.not_false, Nat.reduceAdd, Nat.reduceSub, List.replicate, List.cons_append, List.nil_append, reduceCtorEq, false_and, exists_false, List.cons.injEq, Bool.false_xor, Bool.true_xor, wipeL, Int.reduceNeg, Int.cast_ofNat_Int, decide_true, decide_false, Int.reduceEq, decide_eq_true_eq, r_nd, r_sl0, r_sl1, r_sl2, r_sl3, r_sl4, r_sl5, r_sl6, r_sl7, r_sl8, r_sl9, r_sl10, r_sl11, r_sl12, r_sl13, r_sl14, r_sl15, r_sl16, r_sl17, r_sl18, r_sl19, r_sl20, r_sl21, r_sl22, r_sl23, r_sl24, decide_eq_false_iff_not, not_true_eq_false, not_false_eq_true, Int.not_lt, Int.not_le])
def spParted : Spec
  | [.int n, .ref lr], S, Q, _ => ∃ (n' : Nat) (L : List Lk) (la : Nat → Addr), n = n' ∧ n' ≤ 60 ∧ L.length ≤ 2000 ∧ LOk n' L ∧ S lr = some (.lst (rF L.length fun k => .ref (la k))) ∧ (∀ k, k < L.length → S (la k) = some (.ins "Link" (vLk (lkAt L k)))) ∧
      ∀ T (f g b : Addr) (gs bs : Nat → Nat) (r : Option (List Nat)), S.le T → T f = some (.ins "Parting" [("groups", .ref g), ("bits", .ref b), ("ring", vr r)]) → T g = some (.lst (rF n' fun p => .int (gs p : Int))) → T b = some (.lst (rF n' fun p => .int (bs p : Int))) → Good n' L gs bs r → Q (.ref f) T
  | _, _, _, _ => False
def N_parted : List Str := ["many", "links", "walk", "group", "point"]
def P_parted : List Str := ["many", "links"]
def B_parted : List C := [
  .asg (.nm 2) (.new "Walk" [.v 0, .v 1]),
  .asg (.nm 3) (.int 0),
  .loop (.nm 4) (.rng1 (.v 0)) [.ite (.cmp .Is (.ix (.fld (.fld (.v 2) "found") "groups") (.v 4)) .non) [.ex (.meth (.v 2) "begin" [.v 4, .v 3]), .aug 3 .Add (.int 1)] []],
  .ret (.fld (.v 2) "found")]
theorem body_parted {G : Gam} (F : GFo G) (g : G.new "Walk" = some spWalkI) (g2 : G.mt "Walk" "begin" = some spBegin) : Body G N_parted P_parted B_parted spParted := by
  intro vs S Q X h
  unfold spParted at h
  split at h
  · rename_i n lr
    obtain ⟨n, L, la, rfl, hn60, hl, hL, hlr, hla, hQ⟩ := h
    refine ⟨rfl, ?_⟩
    simp only [N_parted, B_parted]
    refine wCs_step fun nx hn => ?_
    simp_wf
    refine ⟨_, g, fun w hw => ?_⟩
    refine .of ⟨n, L, la, rfl, hn60, hl, hL, Sto.upd_same, Sto.old hlr hw, fun k hk => Sto.old (hla k hk) hw, fun T1 A hA fr1 hf hg hb hc st1 => ⟨rfl, ?_⟩⟩
    subst hA
    have out : ∀ a, a ≠ A.w → (S.upd A.w (.ins "Walk" [])) a = none → S a = none := fun a n e => by rw [Sto.upd_ne n] at e; exact e
    have hfw : A.f ≠ A.w := Ne.symm st1.wf
    have hgw : A.g ≠ A.w := (ne_il st1.w st1.g).symm
    have hbw : A.b ≠ A.w := (ne_il st1.w st1.b).symm
    have hcw : A.c ≠ A.w := (ne_il st1.w st1.c).symm
    have hfS := out _ hfw hf
    have hgS := out _ hgw hg
    have hbS := out _ hbw hb
    have hcS := out _ hcw hc
    have fr : ∀ T, Ws A A.f T1 T → S.le T := fun T ws a o e => by
      have nw : a ≠ A.w := fun z => by subst z; rw [hw] at e; cases e
      have nf : a ≠ A.f := fun z => by subst z; rw [hfS] at e; cases e
      exact ws a o nf (fun z => by subst z; rw [hgS] at e; cases e) (fun z => by subst z; rw [hbS] at e; cases e) (fun z => by subst z; rw [hcS] at e; cases e) nf (fr1 a o nw (Sto.upd_at e nw))
    subst hn
    refine wCs_step fun nx hn => ?_
    simp_wf
    subst hn
    refine wCs_step fun nx hn => ?_
    refine loop_rng1_ix (n := n) (S1 := T1) (fun m ρ T => ∃ (s : WS) (gr : Nat) (o4 : Option Val), ρ = [some (.int (n : Int)), some (.ref lr), some (.ref A.w), some (.int (gr : Int)), o4] ∧ Ws A A.f T1 T ∧ WSt A n L s T ∧ OI n m gr L s)
      (fun Q q => by simp_wf; exact q) (by omega) ⟨WS0, 0, _, rfl, .refl, st1, oi_zero n L⟩ ?_ ?_
    · rintro ρ T ⟨s, gr, o4, rfl, ws, st, oi⟩
      subst hn
      obtain ⟨good, hall⟩ := oi_good hL oi
      simp_wf
      refine ⟨_, _, _, st.w, F.w2, rfl, _, .refl, hQ T A.f A.g A.b _ s.b s.r (fr T ws) st.f ?_ st.b good⟩
      rw [st.g]
      congr 2
      exact rF_ext fun p hp => by rw [hall p hp]; rfl
    · rintro m ρ T hm ⟨s, gr, o4, rfl, ws, st, oi⟩ D' hnx hct hrt hbk hxc
      simp_wf
      refine ⟨_, _, _, st.w, F.w2, rfl, ?_⟩
      simp_wf
      refine ⟨_, _, _, st.f, F.p1, rfl, ?_⟩
      simp_wf
      refine ⟨_, _, .lst st.g, at_rF hm, ?_⟩
      cases hgm : s.g m with
      | none =>
        simp only [vo, if_true]
        refine ⟨_, _, _, _, rfl, st.w, rfl, g2, ?_⟩
        refine .of ⟨A, n, L, s, m, gr, rfl, rfl, rfl, st, hL, oi, hm, hgm, fun T2 s2 ws2 st2 oi2 => ?_⟩
        simp_wf
        refine hnx _ _ ⟨s2, gr + 1, _, rfl, ws.trans ws2, st2, oi2⟩
      | some v =>
        simp only [vo, Bool.false_eq_true, if_false]
        exact hnx _ _ ⟨s, gr, _, rfl, ws, st, skip_oi oi (by rw [hgm]; simp)⟩
  · exact h.elim
end M

set_option maxHeartbeats 1000000
namespace M
open PySem PySem.Spec L2
local macro_rules | `(tactic| simp_wf) => `(tactic| simp only [wCs, w_asg, w_par, w_aug, w_ex, w_ret, w_retN, w_ite, w_brk, w_cnt, w_pass, w_rais, e_v, e_int, e_bl, e_non, e_str, e_g, e_bin, e_neg, e_cmp, e_chain, e_and, e_or, e_not, e_ife, e_tup, e_lst, e_ix, e_sl, e_rev, e_fld, e_call, e_new, e_meth, e_blt, e_mth, e_isi, e_isiT, e_dK0, e_dT0, e_repr, e_ktup, e_lrng1, e_lrng2, e_lrev, e_trev, e_dix, e_dg1, e_dg2, e_dsd, e_dpop, e_din, wEs, wAndV, wOrV, wB, wAnd, wOr, wBs, wP, r_nm, r_tgT, r_tgQ, r_tgW, r_tgt, r_tgr, r_tgp, r_tgd, r_tgi, r_tgs, r_tgs0, wBin, wCmp,
  r_add_ii, r_add_ib, r_add_ss, r_add_tt, r_add_rr, r_sub_ii, r_mul_ii, r_mul_ri, r_mul_ti, r_div_ii, r_mod_ii, r_pow_ii, r_shl_ii, r_shr_ii, r_and_ii, r_xor_ii, r_int, r_is_n, r_is_b, r_tru_b, r_tru_i, r_tru_n, r_tru_t, r_tru_r, r_ix_t, r_ix_r, r_sl_t, r_sl_r, r_len_t, r_len_s, r_abs, r_min2, r_max2, r_int1, r_int1b, r_str1, r_list1, r_tuple1, r_tuple1t, r_tuple1p, r_len_p, r_sorted1t, r_ix_p, r_valD_p, r_ty_p, r_tindex, r_tyM_tindex, r_reverse, r_tyM_reverse, r_remove, r_tyM_remove, r_append, r_pop0, r_pop1, r_insert, r_extend, r_count, r_index, r_sum1, r_sorted1, r_tyM_pop1, r_tyM_insert, r_tyM_extend, r_tyM_count, r_tyM_index, r_fld, r_tgf, r_tyM_append, r_tyM_pop0, r_valD_t, r_valD_r, r_ty_n, r_ty_b, r_ty_i, r_ty_s, r_ty_t, r_is_non_int, r_is_non_bool, r_is_non_str, r_is_non_tuple, r_is_non_list, r_is_non_dict, r_is_bl_int, r_is_bl_bool, r_is_bl_str, r_is_bl_tuple, r_is_bl_list, r_is_bl_dict, r_is_int_int, r_is_int_bool, r_is_int_str, r_is_int_tuple, r_is_int_list, r_is_int_dict, r_is_str_int, r_is_str_bool, r_is_str_str, r_is_str_tuple, r_is_str_list, r_is_str_dict, r_is_ptup_int, r_is_ptup_bool, r_is_ptup_str, r_is_ptup_tuple, r_is_ptup_list, r_is_ptup_dict, r_is_tup_int, r_is_tup_bool, r_is_tup_str, r_is_tup_tuple, r_is_tup_list, r_is_tup_dict, isNon, r_W0, r_W1, r_T0, r_T1, r_T2, r_Q0, r_Q1, r_at0, r_at1, r_at2, r_at3, r_at4, r_at5, r_eq_ii, r_eq_bb,
  List.getElem?_cons_zero, List.getElem?_cons_succ, List.set_cons_zero, List.set_cons_succ, setAll, Option.some.injEq, Val.int.injEq, Val.bl.injEq, Val.tup.injEq, Val.ref.injEq, exists_eq_left', exists_eq_left, exists_eq_right, Bool.false_eq_true, if_true, if_false, List.isEmpty_nil, List.isEmpty_cons, true_and, and_true, ↓reduceIte, List.length_cons, List.length_nil, startL, List.map_cons, List.map_nil, Bool.not_true, Bool.not_false, Nat.reduceAdd, Nat.reduceSub, List.replicate, List.cons_append, List.nil_append, reduceCtorEq, false_and, exists_false, List.cons.injEq, Bool.false_xor, Bool.true_xor, wipeL, Int.reduceNeg, Int.cast_ofNat_Int, decide_true, decide_false, Int.reduceEq, decide_eq_true_eq, r_nd, r_sl0, r_sl1, r_sl2, r_sl3, r_sl4, r_sl5, r_sl6, r_sl7, r_sl8, r_sl9, r_sl10, r_sl11, r_sl12, r_sl13, r_sl14, r_sl15, r_sl16, r_sl17, r_sl18, r_sl19, r_sl20, r_sl21, r_sl22, r_sl23, r_sl24, decide_eq_false_iff_not, not_true_eq_false, not_false_eq_true, Int.not_lt, Int.not_le])
def v3 (l : Lk) : Val := .tup [.int (l.a : Int), .int (l.b : Int), .int (l.x : Int)]
/-- a value that writes a wish -/
def WiV (S : Sto) (v : Val) (l : Lk) : Prop := v = v3 l ∨ ∃ r, v = .ref r ∧ S r = some (.lst [.int (l.a : Int), .int (l.b : Int), .int (l.x : Int)])
/-- values that write wishes -/
def WiAll (S : Sto) : List Val → List Lk → Prop
  | [], [] => True
  | v :: vs, l :: ls => WiV S v l ∧ WiAll S vs ls
  | _, _ => False
/-- a value that writes a row of wishes -/
def WsV (S : Sto) (v : Val) (L : List Lk) : Prop := ∃ items, (v = .tup items ∨ ∃ r, v = .ref r ∧ S r = some (.lst items)) ∧ WiAll S items L
structure WkOk (n : Nat) (l : Lk) : Prop where
  a : l.a < n
  b : l.b < n
  ne : l.a ≠ l.b
  x : l.x < 2
def WssOk (n : Nat) (L : List Lk) : Prop := (∀ l ∈ L, WkOk n l) ∧ L.length ≤ 120
theorem WiV.le {S T : Sto} {v : Val} {l : Lk} (h : WiV S v l) (le : S.le T) : WiV T v l := by
  rcases h with h | ⟨r, h, e⟩
  · exact .inl h
  · exact .inr ⟨r, h, le _ _ e⟩
theorem WiAll.le {S T : Sto} (le : S.le T) : ∀ {vs : List Val} {ls : List Lk}, WiAll S vs ls → WiAll T vs ls
  | [], [], _ => trivial
  | _ :: _, _ :: _, h => ⟨h.1.le le, h.2.le le⟩
  | [], _ :: _, h => h.elim
  | _ :: _, [], h => h.elim
theorem WsV.le {S T : Sto} {v : Val} {L : List Lk} (h : WsV S v L) (le : S.le T) : WsV T v L := by
  obtain ⟨items, h1, h2⟩ := h
  refine ⟨items, ?_, h2.le le⟩
  rcases h1 with h | ⟨r, h, e⟩
  · exact .inl h
  · exact .inr ⟨r, h, le _ _ e⟩
theorem WiAll.len {S : Sto} : ∀ {vs : List Val} {ls : List Lk}, WiAll S vs ls → vs.length = ls.length
  | [], [], _ => rfl
  | _ :: _, _ :: _, h => congrArg (· + 1) h.2.len
  | [], _ :: _, h => h.elim
  | _ :: _, [], h => h.elim
theorem WiAll.get {S : Sto} : ∀ {vs : List Val} {ls : List Lk} {j : Nat} {v : Val}, WiAll S vs ls → vs[j]? = some v → ∃ l, ls[j]? = some l ∧ WiV S v l
  | [], [], _, _, _, e => by cases e
  | _ :: _, l :: _, 0, _, h, e => by cases e; exact ⟨l, rfl, h.1⟩
  | _ :: _, _ :: _, j + 1, _, h, e => h.2.get (j := j) (by simpa using e)
  | [], _ :: _, _, _, h, _ => h.elim
  | _ :: _, [], _, _, h, _ => h.elim
theorem WiAll.tups {S : Sto} : ∀ {L : List Lk}, WiAll S (L.map v3) L
  | [] => trivial
  | _ :: _ => ⟨.inl rfl, WiAll.tups⟩
theorem WiAll.snoc {S : Sto} {v : Val} {l : Lk} : ∀ {vs : List Val} {ls : List Lk}, WiAll S vs ls → WiV S v l → WiAll S (vs ++ [v]) (ls ++ [l])
  | [], [], _, h => ⟨h, trivial⟩
  | _ :: _, _ :: _, h, h2 => ⟨h.1, h.2.snoc h2⟩
  | [], _ :: _, h, _ => h.elim
  | _ :: _, [], h, _ => h.elim
theorem lkAt_get {L : List Lk} {k : Nat} {l : Lk} (h : L[k]? = some l) : lkAt L k = l := by unfold lkAt; rw [List.getD_eq_getElem?_getD, h]; rfl
theorem lkAt_mem {L : List Lk} {k : Nat} (h : k < L.length) : lkAt L k ∈ L := by rw [lkAt_get (List.getElem?_eq_getElem h)]; exact List.getElem_mem h
theorem WssOk.lok {n : Nat} {L : List Lk} (h : WssOk n L) : LOk n L := ⟨fun k hk => (h.1 _ (lkAt_mem hk)).a, fun k hk => (h.1 _ (lkAt_mem hk)).b, fun k hk => (h.1 _ (lkAt_mem hk)).x⟩
theorem okTy_i {S : Sto} (i : Int) : okTy (.int i) S := ⟨"int", rfl, by decide, rfl⟩
def spPt : Spec
  | [.int m, .int i], S, Q, _ => Q (.bl (decide (0 ≤ i ∧ i < m))) S
  | _, _, _, _ => False
def N_is_point : List Str := ["many", "thing"]
def P_is_point : List Str := ["many", "thing"]
def B_is_point : List C := [
  .ret (.and [.call "is_int" [.v 1], .chain .LtE .Lt (.int 0) (.v 1) (.v 0)])]
theorem body_is_point {G : Gam} (g : G.fn "is_int" = some spInt) : Body G N_is_point P_is_point B_is_point spPt := by
  intro vs S Q X h
  unfold spPt at h
  split at h
  · rename_i m i
    refine ⟨rfl, ?_⟩
    simp only [N_is_point, B_is_point]
    simp_wf
    simp only [g, Option.some.injEq, exists_eq_left']
    refine .of ⟨okTy_i _, ?_⟩
    simp only [isI]
    refine ⟨true, rfl, ?_⟩
    simp_wf
    by_cases h0 : 0 ≤ i
    · rw [if_pos h0]
      exact ⟨_, .refl, by rw [show decide (0 ≤ i ∧ i < m) = decide (i < m) from by simp [h0]] at h; exact h⟩
    · rw [if_neg h0]
      exact ⟨_, .refl, by rw [show decide (0 ≤ i ∧ i < m) = false from by simp; omega] at h; exact h⟩
  · exact h.elim
def spMWish : Spec
  | [v, w], S, Q, _ => ∃ (n : Nat) (ts : List Tie) (l : Lk), v = vW ⟨n, ts⟩ ∧ WkOk n l ∧ WiV S w l ∧ Q (v3 l) S
  | _, _, _, _ => False
def N_made_wish : List Str := ["web", "thing", "one", "other", "apart"]
def P_made_wish : List Str := ["web", "thing"]
def B_made_wish : List C := [
  .ite (.or [.not (.val (.isiT (.v 1) ["list", "tuple"])), .cmp .NotEq (.blt .len [.v 1]) (.int 3)]) [.rais "NoWishes"] [],
  .asg (.tup [.nm 2, .nm 3, .nm 4]) (.v 1),
  .ite (.or [.not (.val (.call "is_point" [.ix (.v 0) (.int 0), .v 2])), .not (.val (.call "is_point" [.ix (.v 0) (.int 0), .v 3])), .cmp .Eq (.v 2) (.v 3)]) [.rais "NoWishes"] [],
  .ite (.or [.not (.val (.call "is_int" [.v 4])), .not (.chain .LtE .LtE (.int 0) (.v 4) (.int 1))]) [.rais "NoWishes"] [],
  .ret (.tup [.v 2, .v 3, .v 4])]
/-- behind the unpacking -/
theorem mwish_tail {G : Gam} (g : G.fn "is_point" = some spPt) (g2 : G.fn "is_int" = some spInt) {n : Nat} {ts : List Tie} {l : Lk} {w : Val} {D : En} {S : Sto} (ok : WkOk n l) (hq : D.rt (v3 l) S) :
    wCs G [.ite (.or [.not (.val (.call "is_point" [.ix (.v 0) (.int 0), .v 2])), .not (.val (.call "is_point" [.ix (.v 0) (.int 0), .v 3])), .cmp .Eq (.v 2) (.v 3)]) [.rais "NoWishes"] [],
  .ite (.or [.not (.val (.call "is_int" [.v 4])), .not (.chain .LtE .LtE (.int 0) (.v 4) (.int 1))]) [.rais "NoWishes"] [],
  .ret (.tup [.v 2, .v 3, .v 4])] D [some (vW ⟨n, ts⟩), some w, some (.int (l.a : Int)), some (.int (l.b : Int)), some (.int (l.x : Int))] S := by
  have h1 := ok.a
  have h2 := ok.b
  have h3 := ok.ne
  have h4 := ok.x
  refine wCs_step fun nx hn => ?_
  simp_wf
  simp only [g, Option.some.injEq, exists_eq_left']
  refine .of ?_
  unfold spPt
  simp_wf
  rw [if_neg (by omega)]
  refine .of ?_
  simp_wf
  rw [if_neg (by omega), if_neg (by omega)]
  subst hn
  refine wCs_step fun nx hn => ?_
  simp_wf
  simp only [g2, Option.some.injEq, exists_eq_left']
  refine .of ⟨okTy_i _, ?_⟩
  simp only [isI, wTru]
  simp_wf
  rw [if_pos (by omega), if_neg (by omega)]
  subst hn
  simp_wf
  exact hq
theorem body_made_wish {G : Gam} (g : G.fn "is_point" = some spPt) (g2 : G.fn "is_int" = some spInt) : Body G N_made_wish P_made_wish B_made_wish spMWish := by
  intro vs S Q X h
  unfold spMWish at h
  split at h
  · rename_i v w
    obtain ⟨n, ts, l, rfl, ok, hw, hq⟩ := h
    refine ⟨rfl, ?_⟩
    simp only [N_made_wish, B_made_wish]
    refine wCs_step fun nx hn => ?_
    rcases hw with rfl | ⟨r, rfl, hr⟩
    · simp only [v3]
      simp_wf
      rw [vIsiT_row (k := true) r_ty_t (by decide +kernel) (by decide +kernel)]
      simp_wf
      subst hn
      refine wCs_step fun nx hn => ?_
      simp_wf
      subst hn
      exact mwish_tail g g2 ok ⟨_, .refl, hq⟩
    · simp_wf
      rw [vIsiT_row (k := true) (r_ty_l hr) (by decide +kernel) (by decide +kernel)]
      simp_wf
      rw [r_len_l hr]
      simp_wf
      subst hn
      refine wCs_step fun nx hn => ?_
      simp_wf
      refine ⟨_, .lst hr, rfl, ?_⟩
      simp_wf
      subst hn
      exact mwish_tail g g2 ok ⟨_, .refl, hq⟩
  · exact h.elim
end M

set_option maxHeartbeats 1000000
namespace M
open PySem PySem.Spec L2
local macro_rules | `(tactic| simp_wf) => `(tactic| simp only [wCs, w_asg, w_par, w_aug, w_ex, w_ret, w_retN, w_ite, w_brk, w_cnt, w_pass, w_rais, e_v, e_int, e_bl, e_non, e_str, e_g, e_bin, e_neg, e_cmp, e_chain, e_and, e_or, e_not, e_ife, e_tup, e_lst, e_ix, e_sl, e_rev, e_fld, e_call, e_new, e_meth, e_blt, e_mth, e_isi, e_isiT, e_dK0, e_dT0, e_repr, e_ktup, e_lrng1, e_lrng2, e_lrev, e_trev, e_dix, e_dg1, e_dg2, e_dsd, e_dpop, e_din, wEs, wAndV, wOrV, wB, wAnd, wOr, wBs, wP, r_nm, r_tgT, r_tgQ, r_tgW, r_tgt, r_tgr, r_tgp, r_tgd, r_tgi, r_tgs, r_tgs0, wBin, wCmp,
  r_add_ii, r_add_ib, r_add_ss, r_add_tt, r_add_rr, r_sub_ii, r_mul_ii, r_mul_ri, r_mul_ti, r_div_ii, r_mod_ii, r_pow_ii, r_shl_ii, r_shr_ii, r_and_ii, r_xor_ii, r_int, r_is_n, r_is_b, r_tru_b, r_tru_i, r_tru_n, r_tru_t, r_tru_r, r_ix_t, r_ix_r, r_sl_t, r_sl_r, r_len_t, r_len_s, r_abs, r_min2, r_max2, r_int1, r_int1b, r_str1, r_list1, r_tuple1, r_tuple1t, r_tuple1p, r_len_p, r_sorted1t, r_ix_p, r_valD_p, r_ty_p, r_tindex, r_tyM_tindex, r_reverse, r_tyM_reverse, r_remove, r_tyM_remove, r_append, r_pop0, r_pop1, r_insert, r_extend, r_count, r_index, r_sum1, r_sorted1, r_tyM_pop1, r_tyM_insert, r_tyM_extend, r_tyM_count, r_tyM_index, r_fld, r_tgf, r_tyM_append, r_tyM_pop0, r_valD_t, r_valD_r, r_ty_n, r_ty_b, r_ty_i, r_ty_s, r_ty_t, r_is_non_int, r_is_non_bool, r_is_non_str, r_is_non_tuple, r_is_non_list, r_is_non_dict, r_is_bl_int, r_is_bl_bool, r_is_bl_str, r_is_bl_tuple, r_is_bl_list, r_is_bl_dict, r_is_int_int, r_is_int_bool, r_is_int_str, r_is_int_tuple, r_is_int_list, r_is_int_dict, r_is_str_int, r_is_str_bool, r_is_str_str, r_is_str_tuple, r_is_str_list, r_is_str_dict, r_is_ptup_int, r_is_ptup_bool, r_is_ptup_str, r_is_ptup_tuple, r_is_ptup_list, r_is_ptup_dict, r_is_tup_int, r_is_tup_bool, r_is_tup_str, r_is_tup_tuple, r_is_tup_list, r_is_tup_dict, isNon, r_W0, r_W1, r_T0, r_T1, r_T2, r_Q0, r_Q1, r_at0, r_at1, r_at2, r_at3, r_at4, r_at5, r_eq_ii, r_eq_bb,
  List.getElem?_cons_zero, List.getElem?_cons_succ, List.set_cons_zero, List.set_cons_succ, setAll, Option.some.injEq, Val.int.injEq, Val.bl.injEq, Val.tup.injEq, Val.ref.injEq, exists_eq_left', exists_eq_left, exists_eq_right, Bool.false_eq_true, if_true, if_false, List.isEmpty_nil, List.isEmpty_cons, true_and, and_true, ↓reduceIte, List.length_cons, List.length_nil, startL, List.map_cons, List.map_nil, Bool.not_true, Bool.not_false, Nat.reduceAdd, Nat.reduceSub, List.replicate, List.cons_append, List.nil_append, reduceCtorEq, false_and, exists_false, List.cons.injEq, Bool.false_xor, Bool.true_xor, wipeL, Int.reduceNeg, Int.cast_ofNat_Int, decide_true, decide_false, Int.reduceEq, decide_eq_true_eq, r_nd, r_sl0, r_sl1, r_sl2, r_sl3, r_sl4, r_sl5, r_sl6, r_sl7, r_sl8, r_sl9, r_sl10, r_sl11, r_sl12, r_sl13, r_sl14, r_sl15, r_sl16, r_sl17, r_sl18, r_sl19, r_sl20, r_sl21, r_sl22, r_sl23, r_sl24, decide_eq_false_iff_not, not_true_eq_false, not_false_eq_true, Int.not_lt, Int.not_le])
def spMWishes : Spec
  | [v, w], S, Q, _ => ∃ (n : Nat) (ts : List Tie) (L : List Lk), v = vW ⟨n, ts⟩ ∧ WssOk n L ∧ WsV S w L ∧ ∀ T, S.le T → Q (.tup (L.map v3)) T
  | _, _, _, _ => False
def N_made_wishes : List Str := ["web", "thing", "wish"]
def P_made_wishes : List Str := ["web", "thing"]
def B_made_wishes : List C := [
  .ite (.or [.not (.val (.isiT (.v 1) ["list", "tuple"])), .cmp .Gt (.blt .len [.v 1]) (.g "MOST_WISHES")]) [.rais "NoWishes"] [],
  .ret (.blt .tuple1 [.lc [("wish", 2)] (.nm 2) (.val (.v 1)) [] (.call "made_wish" [.v 0, .v 2])])]
theorem body_made_wishes {G : Gam} (g : G.fn "made_wish" = some spMWish) (gc : G.cst "MOST_WISHES" = some (.int 120)) : Body G N_made_wishes P_made_wishes B_made_wishes spMWishes := by
  intro vs S Q X h
  unfold spMWishes at h
  split at h
  · rename_i v w
    obtain ⟨n, ts, L, rfl, ok, ⟨items, hw, hi⟩, hq⟩ := h
    refine ⟨rfl, ?_⟩
    have hlen := hi.len
    have hl := ok.2
    simp only [N_made_wishes, B_made_wishes]
    refine wCs_step fun nx hn => ?_
    rcases hw with rfl | ⟨r, rfl, hr⟩
    · simp_wf
      rw [vIsiT_row (k := true) r_ty_t (by decide +kernel) (by decide +kernel)]
      simp_wf
      try simp only [gc, Option.some.injEq, exists_eq_left']
      refine ⟨_, rfl, ?_⟩
      simp_wf
      rw [if_neg (by omega)]
      subst hn
      simp only [wCs, w_ret, e_blt, wEs]
      refine lc_tup_ix (S1 := S) (xs := items) (f := id) (fun j acc T => T = S ∧ acc = (L.take j).map v3) (fun Q q => by simp_wf; rw [List.map_id] at q; exact q) (by omega) (fun j acc T z => by rw [z.2, List.length_map, List.length_take]; omega) ⟨rfl, rfl⟩ ?_ ?_
      · rintro acc T ⟨rfl, rfl⟩ q hq'
        rw [hlen, List.take_length]
        simp_wf
        exact ⟨_, .lst Sto.upd_same, _, .refl, hq _ (le_new hq')⟩
      · rintro j x acc T hx ⟨rfl, rfl⟩ R r0 r1
        obtain ⟨l, hl1, hl2⟩ := hi.get hx
        simp only [id]
        simp_wf
        try simp only [g, Option.some.injEq, exists_eq_left']
        refine .of ⟨n, ts, l, rfl, ok.1 l (mem_of_get hl1), hl2, ?_⟩
        refine r1 _ _ ⟨rfl, ?_⟩
        rw [take_snoc hl1, List.map_append]; rfl
    · simp_wf
      rw [vIsiT_row (k := true) (r_ty_l hr) (by decide +kernel) (by decide +kernel)]
      simp_wf
      rw [r_len_l hr]
      try simp only [gc, Option.some.injEq, exists_eq_left']
      refine ⟨_, rfl, ?_⟩
      simp_wf
      rw [if_neg (by omega)]
      subst hn
      simp only [wCs, w_ret, e_blt, wEs]
      refine lc_list_ix (S1 := S) (xs := items) (f := id) (q := r) (fun j acc T => T = S ∧ acc = (L.take j).map v3) (fun Q q => by simp_wf; exact q) (.lst (by rw [List.map_id]; exact hr)) (fun j acc T z => by rw [z.1]; exact .lst (by rw [List.map_id]; exact hr)) (by omega) (fun j acc T z => by rw [z.2, List.length_map, List.length_take]; omega) ⟨rfl, rfl⟩ ?_ ?_
      · rintro acc T ⟨rfl, rfl⟩ q hq'
        rw [hlen, List.take_length]
        simp_wf
        exact ⟨_, .lst Sto.upd_same, _, .refl, hq _ (le_new hq')⟩
      · rintro j x acc T hx ⟨rfl, rfl⟩ R r0 r1
        obtain ⟨l, hl1, hl2⟩ := hi.get hx
        simp only [id]
        simp_wf
        try simp only [g, Option.some.injEq, exists_eq_left']
        refine .of ⟨n, ts, l, rfl, ok.1 l (mem_of_get hl1), hl2, ?_⟩
        refine r1 _ _ ⟨rfl, ?_⟩
        rw [take_snoc hl1, List.map_append]; rfl
  · exact h.elim
/-- a side keeps wishes -/
def keepB (bs : List Int) (l : Lk) : Bool := decide ((bs.getD l.a 0 + bs.getD l.b 0) % 2 = (l.x : Int))
def keepsB (L : List Lk) (bs : List Int) : Bool := L.all (keepB bs)
def spKeeps : Spec
  | [v, w, .tup xs], S, Q, _ => ∃ (n : Nat) (ts : List Tie) (L : List Lk) (bs : List Int), v = vW ⟨n, ts⟩ ∧ WssOk n L ∧ WsV S w L ∧ xs = vI bs ∧ bs.length = n ∧ ∀ T, S.le T → Q (.bl (keepsB L bs)) T
  | _, _, _, _ => False
def N_keeps : List Str := ["web", "wishes", "side", "one", "other", "apart"]
def P_keeps : List Str := ["web", "wishes", "side"]
def B_keeps : List C := [
  .loop (.tup [.nm 3, .nm 4, .nm 5]) (.val (.call "made_wishes" [.v 0, .v 1])) [.ite (.cmp .NotEq (.bin .Mod (.bin .Add (.ix (.v 2) (.v 3)) (.ix (.v 2) (.v 4))) (.int 2)) (.v 5)) [.ret (.bl false)] []],
  .ret (.bl true)]
theorem loop_madeT {G : Gam} {t : T} {p : List C} {D : En} {ρ : Loc} {S : Sto} {a : E} (R : Val → Sto → Prop) (ha : wE G (fun c S => D.xc c ρ S) a ρ S R)
    (h : ∀ v S1, R v S1 → ∃ xs, v = .tup xs ∧ forW (fun _ => True) (fun x ρ1 S2 D' => wTg G noX t x ρ1 S2 fun ρ2 S3 => wCs G p D' ρ2 S3) D xs ρ S1) : wC G (.loop t (.val a) p) D ρ S := by
  simp only [wC, wI]
  refine wE_mono G _ a (fun v S1 r => ?_) ha
  obtain ⟨xs, rfl, h2⟩ := h v S1 r
  exact h2
theorem body_keeps {G : Gam} (g : G.fn "made_wishes" = some spMWishes) : Body G N_keeps P_keeps B_keeps spKeeps := by
  intro vs S Q X h
  unfold spKeeps at h
  split at h
  · rename_i v w xs
    obtain ⟨n, ts, L, bs, rfl, ok, hw, rfl, hb, hq⟩ := h
    refine ⟨rfl, ?_⟩
    simp only [N_keeps, B_keeps]
    refine wCs_step fun nx hn => ?_
    refine loop_madeT (fun v T => v = .tup (L.map v3) ∧ S.le T) ?_ ?_
    · simp_wf
      try simp only [g, Option.some.injEq, exists_eq_left']
      exact .of ⟨n, ts, L, rfl, ok, hw, fun T lT => ⟨rfl, lT⟩⟩
    · rintro v T ⟨rfl, lT⟩
      refine ⟨_, rfl, ?_⟩
      refine forW_inv (fun r ρ V => ∃ (M : List Lk) (j : Nat) (o3 o4 o5 : Option Val), r = M.map v3 ∧ M = L.drop j ∧ keepsB (L.take j) bs = true ∧ V = T ∧ ρ = [some (vW ⟨n, ts⟩), some w, some (.tup (vI bs)), o3, o4, o5]) (fun _ _ _ _ => trivial) ?_ ?_ _ _ _ ⟨L, 0, _, _, _, rfl, rfl, rfl, rfl, rfl⟩
      · rintro ρ V ⟨M, j, o3, o4, o5, e, e2, hk, rfl, rfl⟩
        subst hn
        simp_wf
        have hM : M = [] := by cases M with
          | nil => rfl
          | cons _ _ => cases e
        rw [hM] at e2
        have : L.take j = L := by
          have := List.take_append_drop j L
          rw [← e2, List.append_nil] at this; exact this
        rw [this] at hk
        rw [hk] at hq
        exact ⟨V, .refl, hq V lT⟩
      · rintro x r ρ V ⟨M, j, o3, o4, o5, e, e2, hk, rfl, rfl⟩ D' hnx hct hrt hbk hxc
        cases M with
        | nil => cases e
        | cons l M =>
          simp only [List.map_cons, List.cons.injEq] at e
          obtain ⟨rfl, rfl⟩ := e
          obtain ⟨e3, e4, e5⟩ := drop_cons e2
          have hl := ok.1 l (mem_of_get e3)
          have h1 := hl.a
          have h2 := hl.b
          simp only [v3]
          simp_wf
          refine ⟨_, at_bits (i := l.a) (by omega), _, at_bits (i := l.b) (by omega), ?_⟩
          simp_wf
          refine ⟨by decide, ?_⟩
          rw [imod_pos (by decide)]
          by_cases hc : (bs.getD l.a 0 + bs.getD l.b 0) % 2 = (l.x : Int)
          · rw [if_neg (by simpa using hc)]
            refine hnx _ _ ⟨M, j + 1, _, _, _, rfl, e4, ?_, rfl, rfl⟩
            rw [take_snoc e3]
            unfold keepsB at hk ⊢
            rw [List.all_append, hk]
            simp [keepB]; exact hc
          · rw [if_pos (by simpa using hc), hrt]
            have : keepsB L bs = false := by
              unfold keepsB
              rw [List.all_eq_false]
              exact ⟨l, mem_of_get e3, by simp [keepB]; exact hc⟩
            rw [this] at hq
            exact ⟨V, .refl, hq V lT⟩
  · exact h.elim
def spGrpP : Spec
  | [.int m, .tup xs], S, Q, _ => ∃ (n : Nat) (L : List Lk), m = n ∧ xs = L.map v3 ∧ n ≤ 60 ∧ L.length ≤ 2000 ∧ LOk n L ∧ (∀ T r, S.le T → OddRing L r → Q (.tup [.str "ring", .tup (vI (iN r))]) T) ∧
      ∀ T gs bs, S.le T → Good n L gs bs none → Q (.tup [.str "groups", .tup (rF n fun p => .int (gs p : Int)), .tup (rF n fun p => .int (bs p : Int))]) T
  | _, _, _, _ => False
def N_grouped_points : List Str := ["many", "wishes", "found", "one", "other", "apart"]
def P_grouped_points : List Str := ["many", "wishes"]
def B_grouped_points : List C := [
  .asg (.nm 2) (.call "parted" [.v 0, .lc [("one", 3), ("other", 4), ("apart", 5)] (.tup [.nm 3, .nm 4, .nm 5]) (.val (.v 1)) [] (.new "Link" [.v 3, .v 4, .v 5])]),
  .ite (.cmp .IsNot (.fld (.v 2) "ring") .non) [.ret (.tup [.str "ring", .fld (.v 2) "ring"])] [],
  .ret (.tup [.str "groups", .blt .tuple1 [.fld (.v 2) "groups"], .blt .tuple1 [.fld (.v 2) "bits"]])]
theorem body_grouped_points {G : Gam} (F : GFo G) (g : G.fn "parted" = some spParted) (g2 : G.new "Link" = some spLinkI) : Body G N_grouped_points P_grouped_points B_grouped_points spGrpP := by
  intro vs S Q X h
  unfold spGrpP at h
  split at h
  · rename_i m xs
    obtain ⟨n, L, rfl, rfl, hn, hl, lok, hq1, hq2⟩ := h
    refine ⟨rfl, ?_⟩
    simp only [N_grouped_points, B_grouped_points]
    refine wCs_step fun nx hnx => ?_
    simp only [w_asg, e_call, g, Option.some.injEq, exists_eq_left', wEs]
    simp_wf
    refine lc_tup_ix (S1 := S) (xs := L) (f := v3) (fun j acc T => ∃ la : Nat → Addr, acc = rF j (fun k => .ref (la k)) ∧ S.le T ∧ ∀ k, k < j → T (la k) = some (.ins "Link" (vLk (lkAt L k)))) (fun Q q => by simp_wf; exact q) (by omega) ?_ ⟨fun _ => (0 : Nat), rfl, .refl, fun k hk => by omega⟩ ?_ ?_
    · rintro j acc T ⟨la, rfl, _⟩; rw [rF_len]; omega
    · rintro acc T ⟨la, rfl, le, hla⟩ lr hlr
      refine .of ⟨n, L, la, rfl, hn, hl, lok, Sto.upd_same, fun k hk => Sto.old (hla k hk) hlr, fun T2 f gg bb gs bs r le2 hf hg hb good => ?_⟩
      have le3 : S.le T2 := fun a o e => le2 _ _ (le_new hlr a o (le a o e))
      subst hnx
      simp_wf
      refine ⟨_, _, _, hf, F.p3, rfl, ?_⟩
      cases r with
      | none =>
        simp only [vr, Bool.false_eq_true, if_false]
        refine ⟨_, _, _, hf, F.p1, rfl, ?_⟩
        simp_wf
        refine ⟨_, .lst hg, ?_⟩
        refine ⟨_, _, _, hf, F.p2, rfl, ?_⟩
        simp_wf
        exact ⟨_, .lst hb, _, .refl, hq2 _ _ _ le3 good⟩
      | some r =>
        simp only [vr, if_true]
        exact ⟨_, _, _, hf, F.p3, rfl, _, .refl, hq1 _ _ le3 (good.ring r rfl)⟩
    · rintro j l acc T hj ⟨la, rfl, le, hla⟩ R r0 r1
      simp only [v3]
      simp_wf
      refine ⟨_, g2, fun a ha => ?_⟩
      refine .of ⟨Sto.upd_same, rfl, ?_⟩
      rw [Sto.upd_upd]
      refine r1 _ _ ⟨upd1 la j a, ?_, fun b o e => le_new ha b o (le b o e), fun k hk => ?_⟩
      · unfold rF
        rw [List.range_succ, List.map_append]
        congr 1
        · exact List.map_congr_left fun p hp => by rw [upd1_ne _ _ (by have := List.mem_range.mp hp; omega)]
        · simp
      · by_cases hkj : k = j
        · subst hkj; rw [upd1_same, Sto.upd_same, lkAt_get hj]; rfl
        · rw [upd1_ne _ _ hkj]; exact Sto.old (hla k (by omega)) ha
  · exact h.elim
def spGrp : Spec
  | [v, w], S, Q, _ => ∃ (n : Nat) (ts : List Tie) (L : List Lk), v = vW ⟨n, ts⟩ ∧ n ≤ 60 ∧ WssOk n L ∧ WsV S w L ∧ (∀ T r, S.le T → OddRing L r → Q (.tup [.str "ring", .tup (vI (iN r))]) T) ∧
      ∀ T gs bs, S.le T → Good n L gs bs none → Q (.tup [.str "groups", .tup (rF n fun p => .int (gs p : Int)), .tup (rF n fun p => .int (bs p : Int))]) T
  | _, _, _, _ => False
def N_grouped : List Str := ["web", "wishes"]
def P_grouped : List Str := ["web", "wishes"]
def B_grouped : List C := [
  .ret (.call "grouped_points" [.ix (.v 0) (.int 0), .call "made_wishes" [.v 0, .v 1]])]
theorem body_grouped {G : Gam} (g : G.fn "grouped_points" = some spGrpP) (g2 : G.fn "made_wishes" = some spMWishes) : Body G N_grouped P_grouped B_grouped spGrp := by
  intro vs S Q X h
  unfold spGrp at h
  split at h
  · rename_i v w
    obtain ⟨n, ts, L, rfl, hn, ok, hw, hq1, hq2⟩ := h
    refine ⟨rfl, ?_⟩
    simp only [N_grouped, B_grouped]
    simp_wf
    try simp only [g, g2, Option.some.injEq, exists_eq_left']
    have := ok.2
    refine .of ⟨n, ts, L, rfl, ok, hw, fun T lT => ?_⟩
    refine .of ⟨n, L, rfl, rfl, hn, by omega, ok.lok, fun T2 r l2 hr => ⟨_, .refl, hq1 T2 r (lT.trans l2) hr⟩, fun T2 gs bs l2 hg => ⟨_, .refl, hq2 T2 gs bs (lT.trans l2) hg⟩⟩
  · exact h.elim
end M

/- Groups found by least points: the plain law. -/
namespace M
/-- least points told so far -/
structure Lst (n : Nat) (L : List Lk) (F : Nat → Nat) : Prop where
  con : ∀ p, p < n → Con L p (F p)
  le : ∀ p, p < n → F p ≤ p
end M

set_option maxHeartbeats 1000000
namespace M
open PySem PySem.Spec L2
local macro_rules | `(tactic| simp_wf) => `(tactic| simp only [wCs, w_asg, w_par, w_aug, w_ex, w_ret, w_retN, w_ite, w_brk, w_cnt, w_pass, w_rais, e_v, e_int, e_bl, e_non, e_str, e_g, e_bin, e_neg, e_cmp, e_chain, e_and, e_or, e_not, e_ife, e_tup, e_lst, e_ix, e_sl, e_rev, e_fld, e_call, e_new, e_meth, e_blt, e_mth, e_isi, e_isiT, e_dK0, e_dT0, e_repr, e_ktup, e_lrng1, e_lrng2, e_lrev, e_trev, e_dix, e_dg1, e_dg2, e_dsd, e_dpop, e_din, wEs, wAndV, wOrV, wB, wAnd, wOr, wBs, wP, r_nm, r_tgT, r_tgQ, r_tgW, r_tgt, r_tgr, r_tgp, r_tgd, r_tgi, r_tgs, r_tgs0, wBin, wCmp,
  r_add_ii, r_add_ib, r_add_ss, r_add_tt, r_add_rr, r_sub_ii, r_mul_ii, r_mul_ri, r_mul_ti, r_div_ii, r_mod_ii, r_pow_ii, r_shl_ii, r_shr_ii, r_and_ii, r_xor_ii, r_int, r_is_n, r_is_b, r_tru_b, r_tru_i, r_tru_n, r_tru_t, r_tru_r, r_ix_t, r_ix_r, r_sl_t, r_sl_r, r_len_t, r_len_s, r_abs, r_min2, r_max2, r_int1, r_int1b, r_str1, r_list1, r_tuple1, r_tuple1t, r_tuple1p, r_len_p, r_sorted1t, r_ix_p, r_valD_p, r_ty_p, r_tindex, r_tyM_tindex, r_reverse, r_tyM_reverse, r_remove, r_tyM_remove, r_append, r_pop0, r_pop1, r_insert, r_extend, r_count, r_index, r_sum1, r_sorted1, r_tyM_pop1, r_tyM_insert, r_tyM_extend, r_tyM_count, r_tyM_index, r_fld, r_tgf, r_tyM_append, r_tyM_pop0, r_valD_t, r_valD_r, r_ty_n, r_ty_b, r_ty_i, r_ty_s, r_ty_t, r_is_non_int, r_is_non_bool, r_is_non_str, r_is_non_tuple, r_is_non_list, r_is_non_dict, r_is_bl_int, r_is_bl_bool, r_is_bl_str, r_is_bl_tuple, r_is_bl_list, r_is_bl_dict, r_is_int_int, r_is_int_bool, r_is_int_str, r_is_int_tuple, r_is_int_list, r_is_int_dict, r_is_str_int, r_is_str_bool, r_is_str_str, r_is_str_tuple, r_is_str_list, r_is_str_dict, r_is_ptup_int, r_is_ptup_bool, r_is_ptup_str, r_is_ptup_tuple, r_is_ptup_list, r_is_ptup_dict, r_is_tup_int, r_is_tup_bool, r_is_tup_str, r_is_tup_tuple, r_is_tup_list, r_is_tup_dict, isNon, r_W0, r_W1, r_T0, r_T1, r_T2, r_Q0, r_Q1, r_at0, r_at1, r_at2, r_at3, r_at4, r_at5, r_eq_ii, r_eq_bb,
  List.getElem?_cons_zero, List.getElem?_cons_succ, List.set_cons_zero, List.set_cons_succ, setAll, Option.some.injEq, Val.int.injEq, Val.bl.injEq, Val.tup.injEq, Val.ref.injEq, exists_eq_left', exists_eq_left, exists_eq_right, Bool.false_eq_true, if_true, if_false, List.isEmpty_nil, List.isEmpty_cons, true_and, and_true, ↓reduceIte, List.length_cons, List.length_nil, startL, List.map_cons, List.map_nil, Bool.not_true, Bool.not_false, Nat.reduceAdd, Nat.reduceSub, List.replicate, List.cons_append, List.nil_append, reduceCtorEq, false_and, exists_false, List.cons.injEq, Bool.false_xor, Bool.true_xor, wipeL, Int.reduceNeg, Int.cast_ofNat_Int, decide_true, decide_false, Int.reduceEq, decide_eq_true_eq, r_nd, r_sl0, r_sl1, r_sl2, r_sl3, r_sl4, r_sl5, r_sl6, r_sl7, r_sl8, r_sl9, r_sl10, r_sl11, r_sl12, r_sl13, r_sl14, r_sl15, r_sl16, r_sl17, r_sl18, r_sl19, r_sl20, r_sl21, r_sl22, r_sl23, r_sl24, decide_eq_false_iff_not, not_true_eq_false, not_false_eq_true, Int.not_lt, Int.not_le])
theorem rng_getD {n p : Nat} {f : Nat → Nat} (h : p < n) : ((List.range n).map fun p => ((f p : Nat) : Int)).getD p 0 = f p := by
  rw [List.getD_eq_getElem?_getD, List.getElem?_map, range_at h]; rfl
end M

set_option maxHeartbeats 1000000
namespace M
open PySem PySem.Spec L2
local macro_rules | `(tactic| simp_wf) => `(tactic| simp only [wCs, w_asg, w_par, w_aug, w_ex, w_ret, w_retN, w_ite, w_brk, w_cnt, w_pass, w_rais, e_v, e_int, e_bl, e_non, e_str, e_g, e_bin, e_neg, e_cmp, e_chain, e_and, e_or, e_not, e_ife, e_tup, e_lst, e_ix, e_sl, e_rev, e_fld, e_call, e_new, e_meth, e_blt, e_mth, e_isi, e_isiT, e_dK0, e_dT0, e_repr, e_ktup, e_lrng1, e_lrng2, e_lrev, e_trev, e_dix, e_dg1, e_dg2, e_dsd, e_dpop, e_din, wEs, wAndV, wOrV, wB, wAnd, wOr, wBs, wP, r_nm, r_tgT, r_tgQ, r_tgW, r_tgt, r_tgr, r_tgp, r_tgd, r_tgi, r_tgs, r_tgs0, wBin, wCmp,
  r_add_ii, r_add_ib, r_add_ss, r_add_tt, r_add_rr, r_sub_ii, r_mul_ii, r_mul_ri, r_mul_ti, r_div_ii, r_mod_ii, r_pow_ii, r_shl_ii, r_shr_ii, r_and_ii, r_xor_ii, r_int, r_is_n, r_is_b, r_tru_b, r_tru_i, r_tru_n, r_tru_t, r_tru_r, r_ix_t, r_ix_r, r_sl_t, r_sl_r, r_len_t, r_len_s, r_abs, r_min2, r_max2, r_int1, r_int1b, r_str1, r_list1, r_tuple1, r_tuple1t, r_tuple1p, r_len_p, r_sorted1t, r_ix_p, r_valD_p, r_ty_p, r_tindex, r_tyM_tindex, r_reverse, r_tyM_reverse, r_remove, r_tyM_remove, r_append, r_pop0, r_pop1, r_insert, r_extend, r_count, r_index, r_sum1, r_sorted1, r_tyM_pop1, r_tyM_insert, r_tyM_extend, r_tyM_count, r_tyM_index, r_fld, r_tgf, r_tyM_append, r_tyM_pop0, r_valD_t, r_valD_r, r_ty_n, r_ty_b, r_ty_i, r_ty_s, r_ty_t, r_is_non_int, r_is_non_bool, r_is_non_str, r_is_non_tuple, r_is_non_list, r_is_non_dict, r_is_bl_int, r_is_bl_bool, r_is_bl_str, r_is_bl_tuple, r_is_bl_list, r_is_bl_dict, r_is_int_int, r_is_int_bool, r_is_int_str, r_is_int_tuple, r_is_int_list, r_is_int_dict, r_is_str_int, r_is_str_bool, r_is_str_str, r_is_str_tuple, r_is_str_list, r_is_str_dict, r_is_ptup_int, r_is_ptup_bool, r_is_ptup_str, r_is_ptup_tuple, r_is_ptup_list, r_is_ptup_dict, r_is_tup_int, r_is_tup_bool, r_is_tup_str, r_is_tup_tuple, r_is_tup_list, r_is_tup_dict, isNon, r_W0, r_W1, r_T0, r_T1, r_T2, r_Q0, r_Q1, r_at0, r_at1, r_at2, r_at3, r_at4, r_at5, r_eq_ii, r_eq_bb,
  List.getElem?_cons_zero, List.getElem?_cons_succ, List.set_cons_zero, List.set_cons_succ, setAll, Option.some.injEq, Val.int.injEq, Val.bl.injEq, Val.tup.injEq, Val.ref.injEq, exists_eq_left', exists_eq_left, exists_eq_right, Bool.false_eq_true, if_true, if_false, List.isEmpty_nil, List.isEmpty_cons, true_and, and_true, ↓reduceIte, List.length_cons, List.length_nil, startL, List.map_cons, List.map_nil, Bool.not_true, Bool.not_false, Nat.reduceAdd, Nat.reduceSub, List.replicate, List.cons_append, List.nil_append, reduceCtorEq, false_and, exists_false, List.cons.injEq, Bool.false_xor, Bool.true_xor, wipeL, Int.reduceNeg, Int.cast_ofNat_Int, decide_true, decide_false, Int.reduceEq, decide_eq_true_eq, r_nd, r_sl0, r_sl1, r_sl2, r_sl3, r_sl4, r_sl5, r_sl6, r_sl7, r_sl8, r_sl9, r_sl10, r_sl11, r_sl12, r_sl13, r_sl14, r_sl15, r_sl16, r_sl17, r_sl18, r_sl19, r_sl20, r_sl21, r_sl22, r_sl23, r_sl24, decide_eq_false_iff_not, not_true_eq_false, not_false_eq_true, Int.not_lt, Int.not_le])
def rN (n : Nat) (F : Nat → Nat) : List Int := (List.range n).map fun p => ((F p : Nat) : Int)
theorem rN_len {n : Nat} {F : Nat → Nat} : (rN n F).length = n := by unfold rN; simp
theorem rN_get {n p : Nat} {F : Nat → Nat} (h : p < n) : (rN n F)[p]? = some ((F p : Nat) : Int) := by unfold rN; rw [List.getElem?_map, range_at h]; rfl
/-- a pass -/
structure Pass (n : Nat) (L : List Lk) (F0 : Nat → Nat) (j : Nat) (F : Nat → Nat) : Prop where
  lst : Lst n L F
  le : ∀ p, p < n → F p ≤ F0 p
  st : (∀ p, p < n → F p = F0 p) → ∀ k, k < j → F0 (lkAt L k).a = F0 (lkAt L k).b
theorem Pass.step {n : Nat} {L : List Lk} {F0 F : Nat → Nat} {j : Nat} (h : Pass n L F0 j F) {l : Lk} (hj : L[j]? = some l) (ok : WkOk n l) : Pass n L F0 (j + 1) (upd1 (upd1 F l.a (if F l.b < F l.a then F l.b else F l.a)) l.b (if F l.b < F l.a then F l.b else F l.a)) := by
  have ha := ok.a
  have hb := ok.b
  have hne := ok.ne
  have hk : j < L.length := (List.getElem?_eq_some_iff.mp hj).1
  have el := lkAt_get hj
  have cab : Con L l.a l.b := by
    have := Con.step (.refl l.a) hk (show isEnd L j l.a from .inl (by rw [el]))
    rw [el] at this
    unfold oe at this
    rw [if_pos rfl] at this
    exact this
  have ca := h.lst.con l.a ha
  have cb := h.lst.con l.b hb
  have la := h.lst.le l.a ha
  have lb := h.lst.le l.b hb
  have l0a := h.le l.a ha
  have l0b := h.le l.b hb
  generalize hm : (if F l.b < F l.a then F l.b else F l.a) = m at *
  have hm1 : m ≤ F l.a ∧ m ≤ F l.b ∧ (m = F l.a ∨ m = F l.b) := by subst hm; split <;> omega
  have cam : Con L l.a m := by
    rcases hm1.2.2 with e | e
    · rw [e]; exact ca
    · rw [e]; exact cab.trans cb
  have val : ∀ p, upd1 (upd1 F l.a m) l.b m p = if p = l.b then m else if p = l.a then m else F p := fun p => rfl
  refine ⟨⟨fun p hp => ?_, fun p hp => ?_⟩, fun p hp => ?_, fun e k hkj => ?_⟩
  · rw [val]; split
    · rename_i e; subst e; exact cab.symm.trans cam
    · split
      · rename_i e; subst e; exact cam
      · exact h.lst.con p hp
  · rw [val]; split
    · rename_i e; subst e; omega
    · split
      · rename_i e; subst e; omega
      · exact h.lst.le p hp
  · rw [val]; split
    · rename_i e; subst e; omega
    · split
      · rename_i e; subst e; omega
      · exact h.le p hp
  · have eF : ∀ p, p < n → F p = F0 p := fun p hp => by
      have e1 := e p hp
      rw [val] at e1
      have e2 := h.le p hp
      split at e1
      · rename_i z; subst z; omega
      · split at e1
        · rename_i z; subst z; omega
        · exact e1
    by_cases c : k = j
    · subst c
      rw [el]
      have e1 := e l.a ha
      have e2 := e l.b hb
      rw [val] at e1 e2
      rw [if_neg hne, if_pos rfl] at e1
      rw [if_pos rfl] at e2
      rw [← e1, ← e2]
    · exact h.st eF k (by omega)
def spLkeeps : Spec
  | [.ref q, .tup xs], S, Q, _ => ∃ (n : Nat) (L : List Lk) (bs : List Int), S q = some (.lst (L.map v3)) ∧ L.length ≤ 1000 ∧ (∀ l ∈ L, WkOk n l) ∧ xs = vI bs ∧ bs.length = n ∧ ∀ T, S.le T → Q (.bl (keepsB L bs)) T
  | _, _, _, _ => False
def N_Lkeeps : List Str := ["_law_wishes_here", "_law_side", "_law_a", "_law_b", "_law_unlike"]
def P_Lkeeps : List Str := ["_law_wishes_here", "_law_side"]
def B_Lkeeps : List C := [
  .ret (.cmp .Eq (.lc [("_law_a", 2), ("_law_b", 3), ("_law_unlike", 4)] (.tup [.nm 2, .nm 3, .nm 4]) (.val (.v 0)) [.cmp .NotEq (.bin .Mod (.bin .Add (.ix (.v 1) (.v 2)) (.ix (.v 1) (.v 3))) (.int 2)) (.v 4)] (.int 1)) (.lst []))]
theorem body_Lkeeps {G : Gam} : Body G N_Lkeeps P_Lkeeps B_Lkeeps spLkeeps := by
  intro vs S Q X h
  unfold spLkeeps at h
  split at h
  · rename_i q xs
    obtain ⟨n, L, bs, hq, hL, ok, rfl, hb, h⟩ := h
    refine ⟨rfl, ?_⟩
    simp only [N_Lkeeps, B_Lkeeps]
    simp only [wCs, w_ret, e_cmp]
    refine lc_list_fm (xs := L) (f := v3) (l := q) (fun l => !keepB bs l) (fun _ => Val.int 1) (fun Q q => by simp_wf; exact q) (.lst hq) (by omega) (fun l hl R r1 r0 => ?_) fun z hz => ?_
    · have hok := ok l hl
      have ha := hok.a
      have hb2 := hok.b
      simp only [v3]
      simp_wf
      refine ⟨_, at_bits (i := l.a) (by omega), _, at_bits (i := l.b) (by omega), ?_⟩
      simp_wf
      refine ⟨by decide, ?_⟩
      rw [imod_pos (by decide)]
      by_cases hc : (bs.getD l.a 0 + bs.getD l.b 0) % 2 = (l.x : Int)
      · rw [if_neg (by simpa using hc)]
        exact r0 (by simp [keepB]; exact hc)
      · rw [if_pos (by simpa using hc)]
        exact r1 (by simp [keepB]; exact hc)
    · simp_wf
      have e1 : ((L.filter fun l => !keepB bs l).map fun _ => Val.int 1) = ((L.filter fun l => !keepB bs l).map fun _ => (1 : Int)).map Val.int := by rw [List.map_map]; rfl
      rw [e1]
      intro z2 hz2
      have n2 := ne_nn Sto.upd_same hz2
      refine cEq_nil (ns := (L.filter fun l => !keepB bs l).map fun _ => (1 : Int)) (.lst (Sto.upd_at Sto.upd_same n2.symm)) rd_upd ?_
      have e2 : ((L.filter fun l => !keepB bs l).map fun _ => (1 : Int)).isEmpty = keepsB L bs := by
        unfold keepsB
        rw [Bool.eq_iff_iff, List.isEmpty_iff, List.map_eq_nil_iff, List.filter_eq_nil_iff, List.all_eq_true]
        simp
      rw [e2, Bool.false_xor]
      exact ⟨_, .refl, h _ (Sto.le.new (le_new hz) hz2)⟩
  · exact h.elim
end M

/- A side that keeps all links leaves no odd ring. -/
namespace M
def keepsN (L : List Lk) (B : Nat → Nat) : Prop := ∀ k, k < L.length → (B (lkAt L k).a + B (lkAt L k).b) % 2 = xx L k
theorem Sm_zero {l : List Nat} : Sm (fun _ => 0) l = 0 := by
  induction l with
  | nil => rfl
  | cons p l ih => unfold Sm at *; simp only [List.map_cons, List.sum_cons, ih]
theorem Sm_add {f g : Nat → Nat} {l : List Nat} : Sm (fun p => f p + g p) l = Sm f l + Sm g l := by
  induction l with
  | nil => rfl
  | cons p l ih => unfold Sm at *; simp only [List.map_cons, List.sum_cons, ih]; omega
theorem Sm_one_at {B : Nat → Nat} {a : Nat} : ∀ {n : Nat}, a < n → Sm (fun p => B p * (if a = p then 1 else 0)) (List.range n) = B a
  | 0, h => by omega
  | n + 1, h => by
    have e : Sm (fun p => B p * (if a = p then 1 else 0)) (List.range (n + 1)) = Sm (fun p => B p * (if a = p then 1 else 0)) (List.range n) + B n * (if a = n then 1 else 0) := by
      unfold Sm; rw [List.range_succ, List.map_append, List.sum_append]; simp
    rw [e]
    by_cases c : a = n
    · subst c
      have : Sm (fun p => B p * (if a = p then 1 else 0)) (List.range a) = Sm (fun _ => 0) (List.range a) := by
        unfold Sm
        congr 1
        exact List.map_congr_left fun p hp => by have := List.mem_range.mp hp; rw [if_neg (by omega), Nat.mul_zero]
      rw [this, Sm_zero]; simp
    · rw [Sm_one_at (show a < n by omega), if_neg c]; simp
theorem Sm_swap {L : List Lk} {B : Nat → Nat} {n : Nat} (hL : LOk n L) : ∀ {r : List Nat}, (∀ k ∈ r, k < L.length) → Sm (fun k => B (lkAt L k).a + B (lkAt L k).b) r = Sm (fun p => B p * Sm (fun k => cx L k p) r) (List.range n)
  | [], _ => by
    have : (fun p => B p * Sm (fun k => cx L k p) []) = fun _ => 0 := by funext p; simp [Sm]
    rw [this, Sm_zero]; rfl
  | k :: r, h => by
    have ih := Sm_swap (B := B) hL (r := r) fun x hx => h x (List.mem_cons_of_mem _ hx)
    have hk := h k List.mem_cons_self
    have ha := hL.a k hk
    have hb := hL.b k hk
    have e1 : Sm (fun k => B (lkAt L k).a + B (lkAt L k).b) (k :: r) = (B (lkAt L k).a + B (lkAt L k).b) + Sm (fun k => B (lkAt L k).a + B (lkAt L k).b) r := by
      unfold Sm; simp only [List.map_cons, List.sum_cons]
    have e2 : (fun p => B p * Sm (fun k => cx L k p) (k :: r)) = fun p => (B p * (if (lkAt L k).a = p then 1 else 0) + B p * (if (lkAt L k).b = p then 1 else 0)) + B p * Sm (fun k => cx L k p) r := by
      funext p
      have : Sm (fun k => cx L k p) (k :: r) = cx L k p + Sm (fun k => cx L k p) r := by
        unfold Sm; simp only [List.map_cons, List.sum_cons]
      rw [this]
      unfold cx
      rw [Nat.mul_add, Nat.mul_add]
    have e3 := Sm_one_at (B := B) ha
    have e4 := Sm_one_at (B := B) hb
    rw [e1, e2, Sm_add (f := fun p => B p * (if (lkAt L k).a = p then 1 else 0) + B p * (if (lkAt L k).b = p then 1 else 0)), Sm_add (f := fun p => B p * (if (lkAt L k).a = p then 1 else 0)), e3, e4, ih]
theorem Sm_even {f : Nat → Nat} : ∀ {l : List Nat}, (∀ p ∈ l, f p % 2 = 0) → Sm f l % 2 = 0
  | [], _ => rfl
  | p :: l, h => by
    have ih := Sm_even (f := f) (l := l) fun q hq => h q (List.mem_cons_of_mem _ hq)
    have := h p List.mem_cons_self
    unfold Sm at *; simp only [List.map_cons, List.sum_cons]; omega
theorem Sm_mod {f g : Nat → Nat} : ∀ {l : List Nat}, (∀ p ∈ l, f p % 2 = g p % 2) → Sm f l % 2 = Sm g l % 2
  | [], _ => rfl
  | p :: l, h => by
    have ih := Sm_mod (f := f) (g := g) (l := l) fun q hq => h q (List.mem_cons_of_mem _ hq)
    have := h p List.mem_cons_self
    unfold Sm at *; simp only [List.map_cons, List.sum_cons]; omega
theorem no_ring {n : Nat} {L : List Lk} {B : Nat → Nat} (hL : LOk n L) (h : keepsN L B) {r : List Nat} (hr : OddRing L r) : False := by
  have h1 := hr.od
  have h2 : Sm (xx L) r % 2 = Sm (fun k => B (lkAt L k).a + B (lkAt L k).b) r % 2 := Sm_mod fun k hk => by
    have := h k (hr.lt k hk)
    have := hL.x k (hr.lt k hk)
    unfold xx at *
    omega
  have h3 := Sm_swap (B := B) hL (r := r) hr.lt
  have h4 : Sm (fun p => B p * Sm (fun k => cx L k p) r) (List.range n) % 2 = 0 := Sm_even fun p _ => by
    rw [Nat.mul_mod, hr.ev p]; simp
  omega
end M

set_option maxHeartbeats 1000000
namespace M
open PySem PySem.Spec L2
local macro_rules | `(tactic| simp_wf) => `(tactic| simp only [wCs, w_asg, w_par, w_aug, w_ex, w_ret, w_retN, w_ite, w_brk, w_cnt, w_pass, w_rais, e_v, e_int, e_bl, e_non, e_str, e_g, e_bin, e_neg, e_cmp, e_chain, e_and, e_or, e_not, e_ife, e_tup, e_lst, e_ix, e_sl, e_rev, e_fld, e_call, e_new, e_meth, e_blt, e_mth, e_isi, e_isiT, e_dK0, e_dT0, e_repr, e_ktup, e_lrng1, e_lrng2, e_lrev, e_trev, e_dix, e_dg1, e_dg2, e_dsd, e_dpop, e_din, wEs, wAndV, wOrV, wB, wAnd, wOr, wBs, wP, r_nm, r_tgT, r_tgQ, r_tgW, r_tgt, r_tgr, r_tgp, r_tgd, r_tgi, r_tgs, r_tgs0, wBin, wCmp,
  r_add_ii, r_add_ib, r_add_ss, r_add_tt, r_add_rr, r_sub_ii, r_mul_ii, r_mul_ri, r_mul_ti, r_div_ii, r_mod_ii, r_pow_ii, r_shl_ii, r_shr_ii, r_and_ii, r_xor_ii, r_int, r_is_n, r_is_b, r_tru_b, r_tru_i, r_tru_n, r_tru_t, r_tru_r, r_ix_t, r_ix_r, r_sl_t, r_sl_r, r_len_t, r_len_s, r_abs, r_min2, r_max2, r_int1, r_int1b, r_str1, r_list1, r_tuple1, r_tuple1t, r_tuple1p, r_len_p, r_sorted1t, r_ix_p, r_valD_p, r_ty_p, r_tindex, r_tyM_tindex, r_reverse, r_tyM_reverse, r_remove, r_tyM_remove, r_append, r_pop0, r_pop1, r_insert, r_extend, r_count, r_index, r_sum1, r_sorted1, r_tyM_pop1, r_tyM_insert, r_tyM_extend, r_tyM_count, r_tyM_index, r_fld, r_tgf, r_tyM_append, r_tyM_pop0, r_valD_t, r_valD_r, r_ty_n, r_ty_b, r_ty_i, r_ty_s, r_ty_t, r_is_non_int, r_is_non_bool, r_is_non_str, r_is_non_tuple, r_is_non_list, r_is_non_dict, r_is_bl_int, r_is_bl_bool, r_is_bl_str, r_is_bl_tuple, r_is_bl_list, r_is_bl_dict, r_is_int_int, r_is_int_bool, r_is_int_str, r_is_int_tuple, r_is_int_list, r_is_int_dict, r_is_str_int, r_is_str_bool, r_is_str_str, r_is_str_tuple, r_is_str_list, r_is_str_dict, r_is_ptup_int, r_is_ptup_bool, r_is_ptup_str, r_is_ptup_tuple, r_is_ptup_list, r_is_ptup_dict, r_is_tup_int, r_is_tup_bool, r_is_tup_str, r_is_tup_tuple, r_is_tup_list, r_is_tup_dict, isNon, r_W0, r_W1, r_T0, r_T1, r_T2, r_Q0, r_Q1, r_at0, r_at1, r_at2, r_at3, r_at4, r_at5, r_eq_ii, r_eq_bb,
  List.getElem?_cons_zero, List.getElem?_cons_succ, List.set_cons_zero, List.set_cons_succ, setAll, Option.some.injEq, Val.int.injEq, Val.bl.injEq, Val.tup.injEq, Val.ref.injEq, exists_eq_left', exists_eq_left, exists_eq_right, Bool.false_eq_true, if_true, if_false, List.isEmpty_nil, List.isEmpty_cons, true_and, and_true, ↓reduceIte, List.length_cons, List.length_nil, startL, List.map_cons, List.map_nil, Bool.not_true, Bool.not_false, Nat.reduceAdd, Nat.reduceSub, List.replicate, List.cons_append, List.nil_append, reduceCtorEq, false_and, exists_false, List.cons.injEq, Bool.false_xor, Bool.true_xor, wipeL, Int.reduceNeg, Int.cast_ofNat_Int, decide_true, decide_false, Int.reduceEq, decide_eq_true_eq, r_nd, r_sl0, r_sl1, r_sl2, r_sl3, r_sl4, r_sl5, r_sl6, r_sl7, r_sl8, r_sl9, r_sl10, r_sl11, r_sl12, r_sl13, r_sl14, r_sl15, r_sl16, r_sl17, r_sl18, r_sl19, r_sl20, r_sl21, r_sl22, r_sl23, r_sl24, decide_eq_false_iff_not, not_true_eq_false, not_false_eq_true, Int.not_lt, Int.not_le])
end M

set_option maxHeartbeats 1000000
namespace M
open PySem PySem.Spec L2
local macro_rules | `(tactic| simp_wf) => `(tactic| simp only [wCs, w_asg, w_par, w_aug, w_ex, w_ret, w_retN, w_ite, w_brk, w_cnt, w_pass, w_rais, e_v, e_int, e_bl, e_non, e_str, e_g, e_bin, e_neg, e_cmp, e_chain, e_and, e_or, e_not, e_ife, e_tup, e_lst, e_ix, e_sl, e_rev, e_fld, e_call, e_new, e_meth, e_blt, e_mth, e_isi, e_isiT, e_dK0, e_dT0, e_repr, e_ktup, e_lrng1, e_lrng2, e_lrev, e_trev, e_dix, e_dg1, e_dg2, e_dsd, e_dpop, e_din, wEs, wAndV, wOrV, wB, wAnd, wOr, wBs, wP, r_nm, r_tgT, r_tgQ, r_tgW, r_tgt, r_tgr, r_tgp, r_tgd, r_tgi, r_tgs, r_tgs0, wBin, wCmp,
  r_add_ii, r_add_ib, r_add_ss, r_add_tt, r_add_rr, r_sub_ii, r_mul_ii, r_mul_ri, r_mul_ti, r_div_ii, r_mod_ii, r_pow_ii, r_shl_ii, r_shr_ii, r_and_ii, r_xor_ii, r_int, r_is_n, r_is_b, r_tru_b, r_tru_i, r_tru_n, r_tru_t, r_tru_r, r_ix_t, r_ix_r, r_sl_t, r_sl_r, r_len_t, r_len_s, r_abs, r_min2, r_max2, r_int1, r_int1b, r_str1, r_list1, r_tuple1, r_tuple1t, r_tuple1p, r_len_p, r_sorted1t, r_ix_p, r_valD_p, r_ty_p, r_tindex, r_tyM_tindex, r_reverse, r_tyM_reverse, r_remove, r_tyM_remove, r_append, r_pop0, r_pop1, r_insert, r_extend, r_count, r_index, r_sum1, r_sorted1, r_tyM_pop1, r_tyM_insert, r_tyM_extend, r_tyM_count, r_tyM_index, r_fld, r_tgf, r_tyM_append, r_tyM_pop0, r_valD_t, r_valD_r, r_ty_n, r_ty_b, r_ty_i, r_ty_s, r_ty_t, r_is_non_int, r_is_non_bool, r_is_non_str, r_is_non_tuple, r_is_non_list, r_is_non_dict, r_is_bl_int, r_is_bl_bool, r_is_bl_str, r_is_bl_tuple, r_is_bl_list, r_is_bl_dict, r_is_int_int, r_is_int_bool, r_is_int_str, r_is_int_tuple, r_is_int_list, r_is_int_dict, r_is_str_int, r_is_str_bool, r_is_str_str, r_is_str_tuple, r_is_str_list, r_is_str_dict, r_is_ptup_int, r_is_ptup_bool, r_is_ptup_str, r_is_ptup_tuple, r_is_ptup_list, r_is_ptup_dict, r_is_tup_int, r_is_tup_bool, r_is_tup_str, r_is_tup_tuple, r_is_tup_list, r_is_tup_dict, isNon, r_W0, r_W1, r_T0, r_T1, r_T2, r_Q0, r_Q1, r_at0, r_at1, r_at2, r_at3, r_at4, r_at5, r_eq_ii, r_eq_bb,
  List.getElem?_cons_zero, List.getElem?_cons_succ, List.set_cons_zero, List.set_cons_succ, setAll, Option.some.injEq, Val.int.injEq, Val.bl.injEq, Val.tup.injEq, Val.ref.injEq, exists_eq_left', exists_eq_left, exists_eq_right, Bool.false_eq_true, if_true, if_false, List.isEmpty_nil, List.isEmpty_cons, true_and, and_true, ↓reduceIte, List.length_cons, List.length_nil, startL, List.map_cons, List.map_nil, Bool.not_true, Bool.not_false, Nat.reduceAdd, Nat.reduceSub, List.replicate, List.cons_append, List.nil_append, reduceCtorEq, false_and, exists_false, List.cons.injEq, Bool.false_xor, Bool.true_xor, wipeL, Int.reduceNeg, Int.cast_ofNat_Int, decide_true, decide_false, Int.reduceEq, decide_eq_true_eq, r_nd, r_sl0, r_sl1, r_sl2, r_sl3, r_sl4, r_sl5, r_sl6, r_sl7, r_sl8, r_sl9, r_sl10, r_sl11, r_sl12, r_sl13, r_sl14, r_sl15, r_sl16, r_sl17, r_sl18, r_sl19, r_sl20, r_sl21, r_sl22, r_sl23, r_sl24, decide_eq_false_iff_not, not_true_eq_false, not_false_eq_true, Int.not_lt, Int.not_le])
theorem keepsN_of {n : Nat} {L : List Lk} {bs : List Int} (ok : ∀ l ∈ L, WkOk n l) (hb : ∀ b ∈ bs, b = 0 ∨ b = 1) (h : keepsB L bs = true) : keepsN L fun p => (bs.getD p 0).toNat := fun k hk => by
  unfold keepsB at h
  rw [List.all_eq_true] at h
  have h1 := h _ (lkAt_mem hk)
  have hok := ok _ (lkAt_mem hk)
  unfold keepB at h1
  simp only [decide_eq_true_eq] at h1
  have key : ∀ p, bs.getD p 0 = 0 ∨ bs.getD p 0 = 1 := fun p => by
    rw [List.getD_eq_getElem?_getD]
    cases e : bs[p]? with
    | none => left; rfl
    | some b => simpa using hb b (mem_of_get e)
  have k1 := key (lkAt L k).a
  have k2 := key (lkAt L k).b
  have hx := hok.x
  unfold xx
  show ((bs.getD _ 0).toNat + (bs.getD _ 0).toNat) % 2 = _
  omega
end M

set_option maxHeartbeats 1000000
namespace M
open PySem PySem.Spec L2
local macro_rules | `(tactic| simp_wf) => `(tactic| simp only [wCs, w_asg, w_par, w_aug, w_ex, w_ret, w_retN, w_ite, w_brk, w_cnt, w_pass, w_rais, e_v, e_int, e_bl, e_non, e_str, e_g, e_bin, e_neg, e_cmp, e_chain, e_and, e_or, e_not, e_ife, e_tup, e_lst, e_ix, e_sl, e_rev, e_fld, e_call, e_new, e_meth, e_blt, e_mth, e_isi, e_isiT, e_dK0, e_dT0, e_repr, e_ktup, e_lrng1, e_lrng2, e_lrev, e_trev, e_dix, e_dg1, e_dg2, e_dsd, e_dpop, e_din, wEs, wAndV, wOrV, wB, wAnd, wOr, wBs, wP, r_nm, r_tgT, r_tgQ, r_tgW, r_tgt, r_tgr, r_tgp, r_tgd, r_tgi, r_tgs, r_tgs0, wBin, wCmp,
  r_add_ii, r_add_ib, r_add_ss, r_add_tt, r_add_rr, r_sub_ii, r_mul_ii, r_mul_ri, r_mul_ti, r_div_ii, r_mod_ii, r_pow_ii, r_shl_ii, r_shr_ii, r_and_ii, r_xor_ii, r_int, r_is_n, r_is_b, r_tru_b, r_tru_i, r_tru_n, r_tru_t, r_tru_r, r_ix_t, r_ix_r, r_sl_t, r_sl_r, r_len_t, r_len_s, r_abs, r_min2, r_max2, r_int1, r_int1b, r_str1, r_list1, r_tuple1, r_tuple1t, r_tuple1p, r_len_p, r_sorted1t, r_ix_p, r_valD_p, r_ty_p, r_tindex, r_tyM_tindex, r_reverse, r_tyM_reverse, r_remove, r_tyM_remove, r_append, r_pop0, r_pop1, r_insert, r_extend, r_count, r_index, r_sum1, r_sorted1, r_tyM_pop1, r_tyM_insert, r_tyM_extend, r_tyM_count, r_tyM_index, r_fld, r_tgf, r_tyM_append, r_tyM_pop0, r_valD_t, r_valD_r, r_ty_n, r_ty_b, r_ty_i, r_ty_s, r_ty_t, r_is_non_int, r_is_non_bool, r_is_non_str, r_is_non_tuple, r_is_non_list, r_is_non_dict, r_is_bl_int, r_is_bl_bool, r_is_bl_str, r_is_bl_tuple, r_is_bl_list, r_is_bl_dict, r_is_int_int, r_is_int_bool, r_is_int_str, r_is_int_tuple, r_is_int_list, r_is_int_dict, r_is_str_int, r_is_str_bool, r_is_str_str, r_is_str_tuple, r_is_str_list, r_is_str_dict, r_is_ptup_int, r_is_ptup_bool, r_is_ptup_str, r_is_ptup_tuple, r_is_ptup_list, r_is_ptup_dict, r_is_tup_int, r_is_tup_bool, r_is_tup_str, r_is_tup_tuple, r_is_tup_list, r_is_tup_dict, isNon, r_W0, r_W1, r_T0, r_T1, r_T2, r_Q0, r_Q1, r_at0, r_at1, r_at2, r_at3, r_at4, r_at5, r_eq_ii, r_eq_bb,
  List.getElem?_cons_zero, List.getElem?_cons_succ, List.set_cons_zero, List.set_cons_succ, setAll, Option.some.injEq, Val.int.injEq, Val.bl.injEq, Val.tup.injEq, Val.ref.injEq, exists_eq_left', exists_eq_left, exists_eq_right, Bool.false_eq_true, if_true, if_false, List.isEmpty_nil, List.isEmpty_cons, true_and, and_true, ↓reduceIte, List.length_cons, List.length_nil, startL, List.map_cons, List.map_nil, Bool.not_true, Bool.not_false, Nat.reduceAdd, Nat.reduceSub, List.replicate, List.cons_append, List.nil_append, reduceCtorEq, false_and, exists_false, List.cons.injEq, Bool.false_xor, Bool.true_xor, wipeL, Int.reduceNeg, Int.cast_ofNat_Int, decide_true, decide_false, Int.reduceEq, decide_eq_true_eq, r_nd, r_sl0, r_sl1, r_sl2, r_sl3, r_sl4, r_sl5, r_sl6, r_sl7, r_sl8, r_sl9, r_sl10, r_sl11, r_sl12, r_sl13, r_sl14, r_sl15, r_sl16, r_sl17, r_sl18, r_sl19, r_sl20, r_sl21, r_sl22, r_sl23, r_sl24, decide_eq_false_iff_not, not_true_eq_false, not_false_eq_true, Int.not_lt, Int.not_le])
theorem side_const {n : Nat} {L : List Lk} {gs bs s : Nat → Nat} (h : Good n L gs bs none) (hx : LOk n L) (hk : keepsN L s) {p q : Nat} (c : Con L p q) : (s p + bs p) % 2 = (s q + bs q) % 2 := by
  induction c with
  | refl => rfl
  | step _ hkl he ih =>
    rename_i q k _
    have h2 := h.apart rfl k hkl
    have h3 := hk k hkl
    have h4 := hx.x k hkl
    rw [ih]
    unfold isEnd at he
    unfold oe
    unfold xx at *
    split
    · rename_i e; rw [e] at h2 h3; omega
    · rename_i e
      rcases he with he | he
      · exact absurd he e
      · rw [he] at h2 h3; omega
theorem keepsB_rN {n : Nat} {L : List Lk} {s : Nat → Nat} (ok : ∀ l ∈ L, WkOk n l) : keepsB L (rN n s) = true ↔ keepsN L s := by
  unfold keepsB
  rw [List.all_eq_true]
  constructor
  · intro h k hk
    have h1 := h _ (lkAt_mem hk)
    have hok := ok _ (lkAt_mem hk)
    unfold keepB rN at h1
    rw [rng_getD hok.a, rng_getD hok.b] at h1
    simp only [decide_eq_true_eq] at h1
    unfold xx
    omega
  · intro h l hl
    obtain ⟨k, hk, rfl⟩ := List.mem_iff_getElem.mp hl
    have hok := ok _ hl
    have h1 := h k hk
    unfold xx at h1
    rw [lkAt_get (List.getElem?_eq_getElem hk)] at h1
    unfold keepB rN
    rw [rng_getD hok.a, rng_getD hok.b]
    simp only [decide_eq_true_eq]
    omega
theorem bits_rN {n : Nat} {s : List Int} (h : Bits n s) : s = rN n (fun p => (s.getD p 0).toNat) ∧ (∀ p, (s.getD p 0).toNat < 2) ∧ (s.getD 0 0).toNat = 0 := by
  have key : ∀ p, s.getD p 0 = 0 ∨ s.getD p 0 = 1 := fun p => by
    rw [List.getD_eq_getElem?_getD]
    cases e : s[p]? with
    | none => left; rfl
    | some b => simpa using h.2.2 b (mem_of_get e)
  refine ⟨?_, fun p => by have := key p; omega, ?_⟩
  · apply List.ext_getElem?
    intro i
    by_cases hi : i < n
    · rw [rN_get hi, List.getElem?_eq_getElem (by rw [h.1]; exact hi)]
      have := key i
      have e : s.getD i 0 = s[i]'(by rw [h.1]; exact hi) := by rw [List.getD_eq_getElem?_getD, List.getElem?_eq_getElem (by rw [h.1]; exact hi)]; rfl
      rw [e] at this ⊢
      congr 1
      omega
    · rw [List.getElem?_eq_none (by rw [h.1]; omega), List.getElem?_eq_none (by rw [rN_len]; omega)]
  · have := h.2.1
    cases s with
    | nil => simp at this
    | cons b s => simp at this; simp [this]
end M

set_option maxHeartbeats 1000000
namespace M
open PySem PySem.Spec L2
local macro_rules | `(tactic| simp_wf) => `(tactic| simp only [wCs, w_asg, w_par, w_aug, w_ex, w_ret, w_retN, w_ite, w_brk, w_cnt, w_pass, w_rais, e_v, e_int, e_bl, e_non, e_str, e_g, e_bin, e_neg, e_cmp, e_chain, e_and, e_or, e_not, e_ife, e_tup, e_lst, e_ix, e_sl, e_rev, e_fld, e_call, e_new, e_meth, e_blt, e_mth, e_isi, e_isiT, e_dK0, e_dT0, e_repr, e_ktup, e_lrng1, e_lrng2, e_lrev, e_trev, e_dix, e_dg1, e_dg2, e_dsd, e_dpop, e_din, wEs, wAndV, wOrV, wB, wAnd, wOr, wBs, wP, r_nm, r_tgT, r_tgQ, r_tgW, r_tgt, r_tgr, r_tgp, r_tgd, r_tgi, r_tgs, r_tgs0, wBin, wCmp,
  r_add_ii, r_add_ib, r_add_ss, r_add_tt, r_add_rr, r_sub_ii, r_mul_ii, r_mul_ri, r_mul_ti, r_div_ii, r_mod_ii, r_pow_ii, r_shl_ii, r_shr_ii, r_and_ii, r_xor_ii, r_int, r_is_n, r_is_b, r_tru_b, r_tru_i, r_tru_n, r_tru_t, r_tru_r, r_ix_t, r_ix_r, r_sl_t, r_sl_r, r_len_t, r_len_s, r_abs, r_min2, r_max2, r_int1, r_int1b, r_str1, r_list1, r_tuple1, r_tuple1t, r_tuple1p, r_len_p, r_sorted1t, r_ix_p, r_valD_p, r_ty_p, r_tindex, r_tyM_tindex, r_reverse, r_tyM_reverse, r_remove, r_tyM_remove, r_append, r_pop0, r_pop1, r_insert, r_extend, r_count, r_index, r_sum1, r_sorted1, r_tyM_pop1, r_tyM_insert, r_tyM_extend, r_tyM_count, r_tyM_index, r_fld, r_tgf, r_tyM_append, r_tyM_pop0, r_valD_t, r_valD_r, r_ty_n, r_ty_b, r_ty_i, r_ty_s, r_ty_t, r_is_non_int, r_is_non_bool, r_is_non_str, r_is_non_tuple, r_is_non_list, r_is_non_dict, r_is_bl_int, r_is_bl_bool, r_is_bl_str, r_is_bl_tuple, r_is_bl_list, r_is_bl_dict, r_is_int_int, r_is_int_bool, r_is_int_str, r_is_int_tuple, r_is_int_list, r_is_int_dict, r_is_str_int, r_is_str_bool, r_is_str_str, r_is_str_tuple, r_is_str_list, r_is_str_dict, r_is_ptup_int, r_is_ptup_bool, r_is_ptup_str, r_is_ptup_tuple, r_is_ptup_list, r_is_ptup_dict, r_is_tup_int, r_is_tup_bool, r_is_tup_str, r_is_tup_tuple, r_is_tup_list, r_is_tup_dict, isNon, r_W0, r_W1, r_T0, r_T1, r_T2, r_Q0, r_Q1, r_at0, r_at1, r_at2, r_at3, r_at4, r_at5, r_eq_ii, r_eq_bb,
  List.getElem?_cons_zero, List.getElem?_cons_succ, List.set_cons_zero, List.set_cons_succ, setAll, Option.some.injEq, Val.int.injEq, Val.bl.injEq, Val.tup.injEq, Val.ref.injEq, exists_eq_left', exists_eq_left, exists_eq_right, Bool.false_eq_true, if_true, if_false, List.isEmpty_nil, List.isEmpty_cons, true_and, and_true, ↓reduceIte, List.length_cons, List.length_nil, startL, List.map_cons, List.map_nil, Bool.not_true, Bool.not_false, Nat.reduceAdd, Nat.reduceSub, List.replicate, List.cons_append, List.nil_append, reduceCtorEq, false_and, exists_false, List.cons.injEq, Bool.false_xor, Bool.true_xor, wipeL, Int.reduceNeg, Int.cast_ofNat_Int, decide_true, decide_false, Int.reduceEq, decide_eq_true_eq, r_nd, r_sl0, r_sl1, r_sl2, r_sl3, r_sl4, r_sl5, r_sl6, r_sl7, r_sl8, r_sl9, r_sl10, r_sl11, r_sl12, r_sl13, r_sl14, r_sl15, r_sl16, r_sl17, r_sl18, r_sl19, r_sl20, r_sl21, r_sl22, r_sl23, r_sl24, decide_eq_false_iff_not, not_true_eq_false, not_false_eq_true, Int.not_lt, Int.not_le])
theorem WtOk.neg {r : Rat} (h : WtOk r) : WtOk (-r) := ⟨by rw [Rat.neg_num, Int.natAbs_neg]; exact h.1, by rw [Rat.neg_den]; exact h.2⟩
end M

set_option maxHeartbeats 1000000
namespace M
open PySem PySem.Spec L2
local macro_rules | `(tactic| simp_wf) => `(tactic| simp only [wCs, w_asg, w_par, w_aug, w_ex, w_ret, w_retN, w_ite, w_brk, w_cnt, w_pass, w_rais, e_v, e_int, e_bl, e_non, e_str, e_g, e_bin, e_neg, e_cmp, e_chain, e_and, e_or, e_not, e_ife, e_tup, e_lst, e_ix, e_sl, e_rev, e_fld, e_call, e_new, e_meth, e_blt, e_mth, e_isi, e_isiT, e_dK0, e_dT0, e_repr, e_ktup, e_lrng1, e_lrng2, e_lrev, e_trev, e_dix, e_dg1, e_dg2, e_dsd, e_dpop, e_din, wEs, wAndV, wOrV, wB, wAnd, wOr, wBs, wP, r_nm, r_tgT, r_tgQ, r_tgW, r_tgt, r_tgr, r_tgp, r_tgd, r_tgi, r_tgs, r_tgs0, wBin, wCmp,
  r_add_ii, r_add_ib, r_add_ss, r_add_tt, r_add_rr, r_sub_ii, r_mul_ii, r_mul_ri, r_mul_ti, r_div_ii, r_mod_ii, r_pow_ii, r_shl_ii, r_shr_ii, r_and_ii, r_xor_ii, r_int, r_is_n, r_is_b, r_tru_b, r_tru_i, r_tru_n, r_tru_t, r_tru_r, r_ix_t, r_ix_r, r_sl_t, r_sl_r, r_len_t, r_len_s, r_abs, r_min2, r_max2, r_int1, r_int1b, r_str1, r_list1, r_tuple1, r_tuple1t, r_tuple1p, r_len_p, r_sorted1t, r_ix_p, r_valD_p, r_ty_p, r_tindex, r_tyM_tindex, r_reverse, r_tyM_reverse, r_remove, r_tyM_remove, r_append, r_pop0, r_pop1, r_insert, r_extend, r_count, r_index, r_sum1, r_sorted1, r_tyM_pop1, r_tyM_insert, r_tyM_extend, r_tyM_count, r_tyM_index, r_fld, r_tgf, r_tyM_append, r_tyM_pop0, r_valD_t, r_valD_r, r_ty_n, r_ty_b, r_ty_i, r_ty_s, r_ty_t, r_is_non_int, r_is_non_bool, r_is_non_str, r_is_non_tuple, r_is_non_list, r_is_non_dict, r_is_bl_int, r_is_bl_bool, r_is_bl_str, r_is_bl_tuple, r_is_bl_list, r_is_bl_dict, r_is_int_int, r_is_int_bool, r_is_int_str, r_is_int_tuple, r_is_int_list, r_is_int_dict, r_is_str_int, r_is_str_bool, r_is_str_str, r_is_str_tuple, r_is_str_list, r_is_str_dict, r_is_ptup_int, r_is_ptup_bool, r_is_ptup_str, r_is_ptup_tuple, r_is_ptup_list, r_is_ptup_dict, r_is_tup_int, r_is_tup_bool, r_is_tup_str, r_is_tup_tuple, r_is_tup_list, r_is_tup_dict, isNon, r_W0, r_W1, r_T0, r_T1, r_T2, r_Q0, r_Q1, r_at0, r_at1, r_at2, r_at3, r_at4, r_at5, r_eq_ii, r_eq_bb,
  List.getElem?_cons_zero, List.getElem?_cons_succ, List.set_cons_zero, List.set_cons_succ, setAll, Option.some.injEq, Val.int.injEq, Val.bl.injEq, Val.tup.injEq, Val.ref.injEq, exists_eq_left', exists_eq_left, exists_eq_right, Bool.false_eq_true, if_true, if_false, List.isEmpty_nil, List.isEmpty_cons, true_and, and_true, ↓reduceIte, List.length_cons, List.length_nil, startL, List.map_cons, List.map_nil, Bool.not_true, Bool.not_false, Nat.reduceAdd, Nat.reduceSub, List.replicate, List.cons_append, List.nil_append, reduceCtorEq, false_and, exists_false, List.cons.injEq, Bool.false_xor, Bool.true_xor, wipeL, Int.reduceNeg, Int.cast_ofNat_Int, decide_true, decide_false, Int.reduceEq, decide_eq_true_eq, r_nd, r_sl0, r_sl1, r_sl2, r_sl3, r_sl4, r_sl5, r_sl6, r_sl7, r_sl8, r_sl9, r_sl10, r_sl11, r_sl12, r_sl13, r_sl14, r_sl15, r_sl16, r_sl17, r_sl18, r_sl19, r_sl20, r_sl21, r_sl22, r_sl23, r_sl24, decide_eq_false_iff_not, not_true_eq_false, not_false_eq_true, Int.not_lt, Int.not_le])
end M

set_option maxHeartbeats 1000000
namespace M
open PySem PySem.Spec L2
local macro_rules | `(tactic| simp_wf) => `(tactic| simp only [wCs, w_asg, w_par, w_aug, w_ex, w_ret, w_retN, w_ite, w_brk, w_cnt, w_pass, w_rais, e_v, e_int, e_bl, e_non, e_str, e_g, e_bin, e_neg, e_cmp, e_chain, e_and, e_or, e_not, e_ife, e_tup, e_lst, e_ix, e_sl, e_rev, e_fld, e_call, e_new, e_meth, e_blt, e_mth, e_isi, e_isiT, e_dK0, e_dT0, e_repr, e_ktup, e_lrng1, e_lrng2, e_lrev, e_trev, e_dix, e_dg1, e_dg2, e_dsd, e_dpop, e_din, wEs, wAndV, wOrV, wB, wAnd, wOr, wBs, wP, r_nm, r_tgT, r_tgQ, r_tgW, r_tgt, r_tgr, r_tgp, r_tgd, r_tgi, r_tgs, r_tgs0, wBin, wCmp,
  r_add_ii, r_add_ib, r_add_ss, r_add_tt, r_add_rr, r_sub_ii, r_mul_ii, r_mul_ri, r_mul_ti, r_div_ii, r_mod_ii, r_pow_ii, r_shl_ii, r_shr_ii, r_and_ii, r_xor_ii, r_int, r_is_n, r_is_b, r_tru_b, r_tru_i, r_tru_n, r_tru_t, r_tru_r, r_ix_t, r_ix_r, r_sl_t, r_sl_r, r_len_t, r_len_s, r_abs, r_min2, r_max2, r_int1, r_int1b, r_str1, r_list1, r_tuple1, r_tuple1t, r_tuple1p, r_len_p, r_sorted1t, r_ix_p, r_valD_p, r_ty_p, r_tindex, r_tyM_tindex, r_reverse, r_tyM_reverse, r_remove, r_tyM_remove, r_append, r_pop0, r_pop1, r_insert, r_extend, r_count, r_index, r_sum1, r_sorted1, r_tyM_pop1, r_tyM_insert, r_tyM_extend, r_tyM_count, r_tyM_index, r_fld, r_tgf, r_tyM_append, r_tyM_pop0, r_valD_t, r_valD_r, r_ty_n, r_ty_b, r_ty_i, r_ty_s, r_ty_t, r_is_non_int, r_is_non_bool, r_is_non_str, r_is_non_tuple, r_is_non_list, r_is_non_dict, r_is_bl_int, r_is_bl_bool, r_is_bl_str, r_is_bl_tuple, r_is_bl_list, r_is_bl_dict, r_is_int_int, r_is_int_bool, r_is_int_str, r_is_int_tuple, r_is_int_list, r_is_int_dict, r_is_str_int, r_is_str_bool, r_is_str_str, r_is_str_tuple, r_is_str_list, r_is_str_dict, r_is_ptup_int, r_is_ptup_bool, r_is_ptup_str, r_is_ptup_tuple, r_is_ptup_list, r_is_ptup_dict, r_is_tup_int, r_is_tup_bool, r_is_tup_str, r_is_tup_tuple, r_is_tup_list, r_is_tup_dict, isNon, r_W0, r_W1, r_T0, r_T1, r_T2, r_Q0, r_Q1, r_at0, r_at1, r_at2, r_at3, r_at4, r_at5, r_eq_ii, r_eq_bb,
  List.getElem?_cons_zero, List.getElem?_cons_succ, List.set_cons_zero, List.set_cons_succ, setAll, Option.some.injEq, Val.int.injEq, Val.bl.injEq, Val.tup.injEq, Val.ref.injEq, exists_eq_left', exists_eq_left, exists_eq_right, Bool.false_eq_true, if_true, if_false, List.isEmpty_nil, List.isEmpty_cons, true_and, and_true, ↓reduceIte, List.length_cons, List.length_nil, startL, List.map_cons, List.map_nil, Bool.not_true, Bool.not_false, Nat.reduceAdd, Nat.reduceSub, List.replicate, List.cons_append, List.nil_append, reduceCtorEq, false_and, exists_false, List.cons.injEq, Bool.false_xor, Bool.true_xor, wipeL, Int.reduceNeg, Int.cast_ofNat_Int, decide_true, decide_false, Int.reduceEq, decide_eq_true_eq, r_nd, r_sl0, r_sl1, r_sl2, r_sl3, r_sl4, r_sl5, r_sl6, r_sl7, r_sl8, r_sl9, r_sl10, r_sl11, r_sl12, r_sl13, r_sl14, r_sl15, r_sl16, r_sl17, r_sl18, r_sl19, r_sl20, r_sl21, r_sl22, r_sl23, r_sl24, decide_eq_false_iff_not, not_true_eq_false, not_false_eq_true, Int.not_lt, Int.not_le])
/-- just the heaviest sides that keep all wishes, rising -/
structure HeavA (W : Web) (L : List Lk) (A : List (List Int)) : Prop where
  srt : A.Pairwise fun x y => lexL y x = false
  nd : A.Nodup
  mem : ∀ s, s ∈ A ↔ Bits W.n s ∧ keepsB L s = true ∧ ∀ t, Bits W.n t → keepsB L t = true → cutS t W.ts ≤ cutS s W.ts
theorem bits_dec {n : Nat} {s : List Int} (h : Bits n s) : ∀ b ∈ s, b = 0 ∨ b = 1 := h.2.2
theorem HeavA.none {W : Web} {L : List Lk} {r : List Nat} (ok : WssOk W.n L) (hr : OddRing L r) : HeavA W L [] :=
  ⟨.nil, .nil, fun s => ⟨(fun h => by cases h), fun ⟨hb, hk, _⟩ => (no_ring ok.lok (keepsN_of ok.1 (bits_dec hb) hk) hr).elim⟩⟩
theorem HeavA.of {W : Web} {L : List Lk} {M A : List (List Int)} {b : List Int} (hM : ∀ s, s ∈ M ↔ Bits W.n s ∧ keepsB L s = true) (nd : M.Nodup) (hb : b ∈ M) (hx : ∀ s ∈ M, cutS s W.ts ≤ cutS b W.ts)
    (hA : A.Perm (M.filter fun s => decide (cutS s W.ts = cutS b W.ts))) (srt : A.Pairwise fun x y => lexL y x = false) : HeavA W L A := by
  refine ⟨srt, hA.nodup_iff.mpr (nd.sublist List.filter_sublist), fun s => ?_⟩
  rw [hA.mem_iff, List.mem_filter, hM, decide_eq_true_eq]
  constructor
  · rintro ⟨⟨h1, h2⟩, e⟩
    exact ⟨h1, h2, fun t ht kt => by rw [e]; exact hx t ((hM t).mpr ⟨ht, kt⟩)⟩
  · rintro ⟨h1, h2, h3⟩
    obtain ⟨b1, b2⟩ := (hM b).mp hb
    exact ⟨⟨h1, h2⟩, Rat.le_antisymm (hx s ((hM s).mpr ⟨h1, h2⟩)) (h3 b b1 b2)⟩
end M

set_option maxHeartbeats 1000000
namespace M
open PySem PySem.Spec L2
local macro_rules | `(tactic| simp_wf) => `(tactic| simp only [wCs, w_asg, w_par, w_aug, w_ex, w_ret, w_retN, w_ite, w_brk, w_cnt, w_pass, w_rais, e_v, e_int, e_bl, e_non, e_str, e_g, e_bin, e_neg, e_cmp, e_chain, e_and, e_or, e_not, e_ife, e_tup, e_lst, e_ix, e_sl, e_rev, e_fld, e_call, e_new, e_meth, e_blt, e_mth, e_isi, e_isiT, e_dK0, e_dT0, e_dT1, e_revT, e_repr, e_ktup, e_lrng1, e_lrng2, e_lrev, e_trev, e_dix, e_dg1, e_dg2, e_dsd, e_dpop, e_din, wEs, wAndV, wOrV, wB, wAnd, wOr, wBs, wP, r_nm, r_tgT, r_tgQ, r_tgW, r_tgt, r_tgr, r_tgp, r_tgd, r_tgi, r_tgs, r_tgs0, wBin, wCmp,
  r_add_ii, r_add_ib, r_add_ss, r_add_tt, r_add_rr, r_sub_ii, r_mul_ii, r_mul_ri, r_mul_ti, r_div_ii, r_mod_ii, r_pow_ii, r_shl_ii, r_shr_ii, r_and_ii, r_xor_ii, r_int, r_is_n, r_is_b, r_tru_b, r_tru_i, r_tru_n, r_tru_t, r_tru_r, r_ix_t, r_ix_r, r_sl_t, r_sl_r, r_len_t, r_len_s, r_abs, r_min2, r_max2, r_int1, r_int1b, r_bool1, r_str1, r_list1, r_tuple1, r_tuple1t, r_tuple1p, r_len_p, r_sorted1t, r_ix_p, r_valD_p, r_ty_p, r_tindex, r_tyM_tindex, r_reverse, r_tyM_reverse, r_remove, r_tyM_remove, r_append, r_pop0, r_pop1, r_insert, r_extend, r_count, r_index, r_sum1, r_sorted1, r_tyM_pop1, r_tyM_insert, r_tyM_extend, r_tyM_count, r_tyM_index, r_fld, r_tgf, r_tyM_append, r_tyM_pop0, r_valD_t, r_valD_r, r_ty_n, r_ty_b, r_ty_i, r_ty_s, r_ty_t, r_is_non_int, r_is_non_bool, r_is_non_str, r_is_non_tuple, r_is_non_list, r_is_non_dict, r_is_bl_int, r_is_bl_bool, r_is_bl_str, r_is_bl_tuple, r_is_bl_list, r_is_bl_dict, r_is_int_int, r_is_int_bool, r_is_int_str, r_is_int_tuple, r_is_int_list, r_is_int_dict, r_is_str_int, r_is_str_bool, r_is_str_str, r_is_str_tuple, r_is_str_list, r_is_str_dict, r_is_ptup_int, r_is_ptup_bool, r_is_ptup_str, r_is_ptup_tuple, r_is_ptup_list, r_is_ptup_dict, r_is_tup_int, r_is_tup_bool, r_is_tup_str, r_is_tup_tuple, r_is_tup_list, r_is_tup_dict, isNon, r_W0, r_W1, r_T0, r_T1, r_T2, r_Q0, r_Q1, r_at0, r_at1, r_at2, r_at3, r_at4, r_at5, r_eq_ii, r_eq_bb,
  List.getElem?_cons_zero, List.getElem?_cons_succ, List.set_cons_zero, List.set_cons_succ, setAll, Option.some.injEq, Val.int.injEq, Val.bl.injEq, Val.tup.injEq, Val.ref.injEq, exists_eq_left', exists_eq_left, exists_eq_right, Bool.false_eq_true, if_true, if_false, List.isEmpty_nil, List.isEmpty_cons, true_and, and_true, ↓reduceIte, List.length_cons, List.length_nil, startL, List.map_cons, List.map_nil, Bool.not_true, Bool.not_false, Nat.reduceAdd, Nat.reduceSub, List.replicate, List.cons_append, List.nil_append, reduceCtorEq, false_and, exists_false, List.cons.injEq, Bool.false_xor, Bool.true_xor, wipeL, Int.reduceNeg, Int.cast_ofNat_Int, decide_true, decide_false, Int.reduceEq, decide_eq_true_eq, r_nd, r_sl0, r_sl1, r_sl2, r_sl3, r_sl4, r_sl5, r_sl6, r_sl7, r_sl8, r_sl9, r_sl10, r_sl11, r_sl12, r_sl13, r_sl14, r_sl15, r_sl16, r_sl17, r_sl18, r_sl19, r_sl20, r_sl21, r_sl22, r_sl23, r_sl24, decide_eq_false_iff_not, not_true_eq_false, not_false_eq_true, Int.not_lt, Int.not_le])
theorem zip3_map {α : Type} {f g h : α → Val} : ∀ {xs : List α}, zip3V (xs.map f) (xs.map g) (xs.map h) = xs.map fun x => .ptup [f x, g x, h x]
  | [] => rfl
  | x :: xs => by
    have ih := zip3_map (f := f) (g := g) (h := h) (xs := xs)
    unfold zip3V at ih ⊢
    simp only [List.map_cons, List.zip_cons_cons, List.zipWith_cons_cons, ih]
theorem loop_zip3_ix {G : Gam} {α : Type} {xs : List α} {f g h : α → Val} {D : En} {a b c : E} {t : M.T} {p : List C} {ρ : Loc} {S : Sto} (J : Nat → Loc → Sto → Prop)
    (ha : ∀ Q : Post, Q (.tup (xs.map f)) S → wE G (fun c S => D.xc c ρ S) a ρ S Q) (hb : ∀ Q : Post, Q (.tup (xs.map g)) S → wE G (fun c S => D.xc c ρ S) b ρ S Q) (hc : ∀ Q : Post, Q (.tup (xs.map h)) S → wE G (fun c S => D.xc c ρ S) c ρ S Q)
    (h0 : J 0 ρ S) (hend : ∀ ρ S, J xs.length ρ S → D.nx ρ S)
    (hst : ∀ (j : Nat) (x : α), xs[j]? = some x → ∀ ρ S, J j ρ S → ∀ D' : En, (∀ ρ S, J (j + 1) ρ S → D'.nx ρ S) → (∀ ρ S, J (j + 1) ρ S → D'.ct ρ S) → D'.rt = D.rt → D'.bk = D.nx → D'.xc = D.xc → wTg G noX t (.ptup [f x, g x, h x]) ρ S fun ρ2 S3 => wCs G p D' ρ2 S3) : wC G (.loop t (.zip3 a b c) p) D ρ S := by
  simp only [wC, wI]
  refine ha _ (hb _ (hc _ ⟨_, _, _, rfl, rfl, rfl, by rw [List.length_map, List.length_map], by rw [List.length_map, List.length_map], ?_⟩))
  rw [zip3_map]
  refine forW_inv (fun r ρ S => ∃ j, r = (xs.map fun x => Val.ptup [f x, g x, h x]).drop j ∧ j ≤ xs.length ∧ J j ρ S) (fun _ _ _ _ => trivial) (ix_end (J := fun j ρ S => j ≤ xs.length ∧ J j ρ S) (fun j ρ S h => by simpa using h.1) fun ρ S h => hend ρ S (by simpa using h.2)) ?_ _ _ _ ⟨0, by simp, by omega, h0⟩
  rintro x r ρ S ⟨j, e, hj, hJ⟩ D' h1 h2
  obtain ⟨e1, e2, e3⟩ := drop_cons e
  rw [List.getElem?_map] at e1
  cases q : xs[j]? with
  | none => rw [q] at e1; cases e1
  | some y =>
    rw [q] at e1; cases e1
    have hl : j < xs.length := by simpa using e3
    exact hst j y q ρ S hJ D' (fun ρ S q => h1 ρ S ⟨_, e2, hl, q⟩) fun ρ S q => h2 ρ S ⟨_, e2, hl, q⟩
def folB (n : Nat) (g w : Nat → Nat) : Bool := (List.range n).all fun p => (List.range p).all fun q => !decide (g q = g p) || decide (w q = w p)
theorem folB_iff {n : Nat} {g w : Nat → Nat} : folB n g w = true ↔ ∀ p q, q < p → p < n → g q = g p → w q = w p := by
  unfold folB
  simp only [List.all_eq_true, List.mem_range, Bool.or_eq_true, Bool.not_eq_true', decide_eq_false_iff_not, decide_eq_true_eq]
  constructor
  · intro h p q hq hp e
    rcases h p hp q hq with h | h
    · exact absurd e h
    · exact h
  · intro h p hp q hq
    by_cases e : g q = g p
    · exact .inr (h p q hq hp e)
    · exact .inl e
theorem fol_keeps {n : Nat} {L : List Lk} {g m s : Nat → Nat} (good : Good n L g m none) (lok : LOk n L) (h2 : ∀ p, s p < 2) : folB n g (fun p => (m p + s p) % 2) = true ↔ keepsN L s := by
  rw [folB_iff]
  constructor
  · intro h k hk
    have ha := lok.a k hk
    have hb := lok.b k hk
    have e := good.grp k hk
    have ap := good.apart rfl k hk
    have xx2 := lok.x k hk
    have s1 := h2 (lkAt L k).a
    have s2 := h2 (lkAt L k).b
    have m1 := good.bit (lkAt L k).a
    have key : (m (lkAt L k).a + s (lkAt L k).a) % 2 = (m (lkAt L k).b + s (lkAt L k).b) % 2 := by
      rcases Nat.lt_trichotomy (lkAt L k).a (lkAt L k).b with c | c | c
      · exact h _ _ c hb e
      · rw [c]
      · exact (h _ _ c ha e.symm).symm
    unfold xx at *
    omega
  · intro h p q hq hp e
    have := side_const good lok h (good.con q p (by omega) hp e)
    show (m q + s q) % 2 = (m p + s p) % 2
    rw [Nat.add_comm (m q), Nat.add_comm (m p)]
    exact this
theorem vlK_app16 {kvs : List (Key × Val)} {k : Key} {x : Key × Val} : vlK (kvs ++ [x]) k = (vlK kvs k).or (if x.1 = k then some x.2 else none) := by
  unfold vlK
  rw [List.find?_append]
  cases e : kvs.find? fun kv => decide (kv.1 = k) with
  | some y => simp
  | none =>
    simp only [Option.none_or, Option.map_none, List.find?_cons, List.find?_nil]
    by_cases c : x.1 = k
    · rw [decide_eq_true c, if_pos c]; rfl
    · rw [decide_eq_false c, if_neg c]; rfl
theorem ptK_new16 {κ : Type} [DecidableEq κ] {kvs : List (κ × Val)} {k : κ} {v : Val} (h : vlK kvs k = none) : ptK kvs k v = kvs ++ [(k, v)] := by
  unfold ptK
  rw [if_neg]
  intro e
  obtain ⟨kv, hm, e⟩ := List.any_eq_true.mp e
  unfold vlK at h
  rw [Option.map_eq_none_iff, List.find?_eq_none] at h
  exact h kv hm e
def spFol : Spec
  | [.tup a, .tup b, .tup c], S, Q, _ => ∃ (n : Nat) (g m s : Nat → Nat), n ≤ 60 ∧ a = vI (rN n g) ∧ b = vI (rN n m) ∧ c = vI (rN n s) ∧ ∀ T, S.le T → Q (.bl (folB n g fun p => (m p + s p) % 2)) T
  | _, _, _, _ => False
def N_Lfollows : List Str := ["_law_groups", "_law_marks", "_law_side", "_law_seen", "_law_group", "_law_mark", "_law_bit"]
def P_Lfollows : List Str := ["_law_groups", "_law_marks", "_law_side"]
def B_Lfollows : List C := [
  .asg (.nm 3) (.dK0),
  .loop (.tup [.nm 4, .nm 5, .nm 6]) (.zip3 (.v 0) (.v 1) (.v 2)) [.ite (.cmp .NotEq (.dsd (.v 3) (.v 4) (.bin .Mod (.bin .Add (.v 5) (.v 6)) (.int 2))) (.bin .Mod (.bin .Add (.v 5) (.v 6)) (.int 2))) [.ret (.bl false)] []],
  .ret (.bl true)]
theorem vI_rN {n : Nat} {f : Nat → Nat} : vI (rN n f) = (List.range n).map fun p => Val.int ((f p : Nat) : Int) := by
  unfold vI rN
  rw [List.map_map]; rfl
theorem body_Lfollows {G : Gam} : Body G N_Lfollows P_Lfollows B_Lfollows spFol := by
  intro vs S Q X h
  unfold spFol at h
  split at h
  · rename_i a b c
    obtain ⟨n, g, m, s, hn60, rfl, rfl, rfl, h⟩ := h
    refine ⟨rfl, ?_⟩
    simp only [N_Lfollows, B_Lfollows]
    generalize hw : (fun p => (m p + s p) % 2) = w at h
    refine wCs_step fun nx hn => ?_
    simp_wf
    intro q hq
    subst hn
    refine wCs_step fun nx hn => ?_
    simp only [vI_rN]
    refine loop_zip3_ix (xs := List.range n) (f := fun p => Val.int ((g p : Nat) : Int)) (g := fun p => Val.int ((m p : Nat) : Int)) (h := fun p => Val.int ((s p : Nat) : Int)) (fun j ρ T => ∃ (kvs : List (Key × Val)) (o4 o5 o6 : Option Val), ρ = [some (.tup (vI (rN n g))), some (.tup (vI (rN n m))), some (.tup (vI (rN n s))), some (.ref q), o4, o5, o6] ∧ S.le T ∧ T q = some (.dK kvs) ∧ kvs.length ≤ j ∧ (∀ p, p < j → vlK kvs (.inl (g p : Int)) = some (.int ((w p : Nat) : Int))) ∧ ∀ k y, vlK kvs k = some y → ∃ p, p < j ∧ k = .inl (g p : Int))
      (fun Q q => by simp_wf; exact q) (fun Q q => by simp_wf; exact q) (fun Q q => by simp_wf; exact q) ⟨[], _, _, _, by simp only [vI_rN]; rfl, le_new hq, Sto.upd_same, Nat.le_refl _, fun p hp => by omega, fun k y e => by cases e⟩ ?_ ?_
    · rintro ρ T ⟨kvs, o4, o5, o6, rfl, lT, hqT, hl, h1, h2⟩
      rw [List.length_range] at h1
      subst hn
      simp_wf
      have : folB n g w = true := folB_iff.mpr fun p q hq hp e => by
        have a1 := h1 p hp
        have a2 := h1 q (by omega)
        rw [e, a1] at a2
        simp only [Option.some.injEq, Val.int.injEq] at a2
        omega
      rw [this] at h
      exact ⟨S, lT, h S .refl⟩
    · rintro j p hj ρ T ⟨kvs, o4, o5, o6, rfl, lT, hqT, hl, h1, h2⟩ D' hnx hct hrt hbk hxc
      obtain ⟨hjn, ep⟩ : j < n ∧ p = j := by
        have := List.getElem?_eq_some_iff.mp hj
        obtain ⟨h1, h2⟩ := this
        rw [List.length_range] at h1
        rw [List.getElem_range] at h2
        exact ⟨h1, h2.symm⟩
      subst ep
      have ew : imod ((m p : Int) + (s p : Int)) 2 = ((w p : Nat) : Int) := by
        rw [imod_pos (by decide)]
        subst hw; simp
      simp_wf
      rw [ew]
      refine ⟨.inl ⟨_, .inl hqT⟩, by decide, kvs, .inl (g p : Int), hqT, rfl, Nat.lt_of_le_of_lt (show kvs.length ≤ 60 by omega) (by decide), fun y hy => ?_, fun hno => ⟨by decide, ?_⟩⟩
      · obtain ⟨q', hq', ek⟩ := h2 _ _ hy
        have e2 : g p = g q' := by
          have := Sum.inl.inj ek
          omega
        rw [e2, h1 q' hq'] at hy
        cases hy
        refine ⟨by decide, ?_⟩
        simp_wf
        by_cases c : w q' = w p
        · rw [if_neg (by simp [c])]
          refine hnx _ _ ⟨kvs, _, _, _, rfl, lT, hqT, by omega, fun r hr => ?_, fun k y e => ?_⟩
          · by_cases c2 : r = p
            · subst c2; rw [e2, h1 q' hq', c]
            · exact h1 r (by omega)
          · obtain ⟨r, hr, e⟩ := h2 k y e
            exact ⟨r, by omega, e⟩
        · rw [if_pos (by simpa using fun e => c (by omega))]
          rw [hrt]
          have : folB n g w = false := by
            cases e : folB n g w with
            | false => rfl
            | true => exact absurd (folB_iff.mp e p q' hq' hjn e2.symm) c
          rw [this] at h
          exact ⟨S, lT, h S .refl⟩
      · have nqT : S q = none := hq
        refine hnx _ _ ⟨kvs ++ [(.inl (g p : Int), .int ((w p : Nat) : Int))], _, _, _, rfl, lT.own nqT, ?_, by simp; omega, fun r hr => ?_, fun k y e => ?_⟩
        · rw [ptK_new16 hno]; exact Sto.upd_same
        · rw [vlK_app16]
          by_cases c2 : r = p
          · subst c2; rw [hno]; simp
          · rw [h1 r (by omega)]; rfl
        · rw [vlK_app16] at e
          cases ek : vlK kvs k with
          | some z =>
            obtain ⟨r, hr, e⟩ := h2 k z ek
            exact ⟨r, by omega, e⟩
          | none =>
            rw [ek] at e
            simp only [Option.none_or] at e
            split at e
            · rename_i e3
              exact ⟨p, by omega, e3.symm⟩
            · cases e
  · exact h.elim
def spW16 : Spec
  | [.ref p, .int m], S, Q, _ => ∃ n : Nat, m = n ∧ 1 ≤ n ∧ n ≤ 60 ∧ Dk S p ∧ ∀ T q L, Fr p S T → Dk T p → S q = none → T q = some (.lst (L.map v3)) → WssOk n L → Q (.ref q) T
  | _, _, _, _ => False
def N_Lw16 : List Str := ["_law_xs", "_law_many", "_law_side", "_law_k", "_law_loose", "_law_found", "_law_x", "_law_a", "_law_b", "_law_unlike"]
def P_Lw16 : List Str := ["_law_xs", "_law_many"]
def B_Lw16 : List C := [
  .asg (.nm 2) (.lc [("_law_k", 3)] (.nm 3) (.rng1 (.v 1)) [] (.bin .Mod (.call "_law_next" [.v 0]) (.int 2))),
  .asg (.nm 4) (.bin .Mod (.call "_law_next" [.v 0]) (.int 3)),
  .asg (.nm 5) (.lst []),
  .loop (.nm 3) (.rng1 (.bin .Mod (.call "_law_next" [.v 0]) (.int 10))) [.asg (.nm 6) (.call "_law_next" [.v 0]), .asg (.nm 7) (.bin .Mod (.v 6) (.v 1)), .asg (.nm 8) (.bin .Mod (.bin .Add (.bin .Add (.v 7) (.int 1)) (.bin .Mod (.bin .FloorDiv (.v 6) (.int 7)) (.blt .max2 [.int 1, .bin .Sub (.v 1) (.int 1)]))) (.v 1)), .asg (.nm 9) (.bin .Mod (.bin .Add (.ix (.v 2) (.v 7)) (.ix (.v 2) (.v 8))) (.int 2)), .ite (.or [.cmp .Eq (.v 4) (.int 0), .cmp .Lt (.bin .Mod (.bin .FloorDiv (.v 6) (.int 49)) (.int 9)) (.bin .Sub (.v 4) (.int 1))]) [.asg (.nm 9) (.bin .Mod (.bin .FloorDiv (.v 6) (.int 441)) (.int 2))] [], .ite (.cmp .NotEq (.v 7) (.v 8)) [.ex (.mth .append (.v 5) [.tup [.v 7, .v 8, .v 9]])] []],
  .ret (.v 5)]
theorem body_Lw16 {G : Gam} (g : G.fn "_law_next" = some spNx) : Body G N_Lw16 P_Lw16 B_Lw16 spW16 := by
  intro vs S Q X h
  unfold spW16 at h
  split at h
  · rename_i p m
    obtain ⟨n, rfl, n1, n60, hp, h⟩ := h
    refine ⟨rfl, ?_⟩
    simp only [N_Lw16, B_Lw16]
    refine wCs_step fun nx hn => ?_
    simp only [w_asg]
    refine lc_rng1_ix (n := n) (S1 := S) (fun j acc V => Fr p S V ∧ Dk V p ∧ ∃ l : List Int, acc = vI l ∧ l.length = j) (fun Q q => by simp_wf; exact q) (by omega) (fun j acc V ⟨_, _, l, e, e2⟩ => by rw [e, vI_len, e2]; exact Nat.le_refl _) ⟨.refl, hp, [], rfl, rfl⟩ ?_ ?_
    · rintro acc V ⟨fV, dV, bs, rfl, hl⟩ b hb
      have nbp : b ≠ p := let ⟨_, e⟩ := dV.get; ne_nn e hb
      have d1 := dV.new (o := .lst (vI bs)) hb
      have f1 : Fr p S (V.upd b (.lst (vI bs))) := fV.own (fV.non nbp hb)
      have hb1 : (V.upd b (.lst (vI bs))) b = some (.lst (vI bs)) := Sto.upd_same
      generalize V.upd b (.lst (vI bs)) = T1 at *
      simp_wf
      subst hn
      refine wCs_step fun nx hn => ?_
      simp_wf
      try simp only [g, Option.some.injEq, exists_eq_left']
      refine nx_app d1 fun z T2 zlo zhi d2 f2 => ?_
      simp_wf
      refine ⟨by omega, ?_⟩
      rw [imod_pos (i := z) (j := 3) (by omega)]
      obtain ⟨r0, r1⟩ := mod_bd (m := 3) (r := z) (by omega)
      generalize z % 3 = r at *
      have hb2 := f2 _ _ nbp hb1
      have f2 := f1.trans f2
      subst hn
      refine wCs_step fun nx hn => ?_
      simp_wf
      intro q hq
      have nqp : q ≠ p := let ⟨_, e⟩ := d2.get; ne_nn e hq
      have nqb := ne_nn hb2 hq
      have hSq := f2.non nqp hq
      have d3 := d2.new (o := .lst []) hq
      have f3 : Fr p S (T2.upd q (.lst [])) := f2.own hSq
      have hb3 := Sto.old (u := .lst []) hb2 hq
      have hq3 : (T2.upd q (.lst [])) q = some (.lst (([] : List Lk).map v3)) := Sto.upd_same
      generalize T2.upd q (.lst []) = T3 at *
      subst hn
      refine wCs_step fun nx hn => ?_
      refine loop_rng1_K fun K hK => ?_
      simp_wf
      try simp only [g, Option.some.injEq, exists_eq_left']
      refine nx_app d3 fun y T4 ylo yhi d4 f4 => ?_
      simp_wf
      refine ⟨by omega, ?_⟩
      rw [imod_pos (i := y) (j := 10) (by omega)]
      obtain ⟨c0, c1⟩ := mod_bd (m := 10) (r := y) (by omega)
      generalize y % 10 = c at *
      have hb4 := f4 _ _ nbp hb3
      have hq4 := f4 _ _ nqp hq3
      have f4 := f3.trans f4
      obtain ⟨m, rfl⟩ : ∃ m : Nat, c = m := ⟨c.toNat, by omega⟩
      refine hK m T4 (fun j ρ V => ∃ (L : List Lk) (o3 o6 o7 o8 o9 : Option Val), ρ = [some (.ref p), some (.int (n : Int)), some (.ref b), o3, some (.int r), some (.ref q), o6, o7, o8, o9] ∧ Fr p S V ∧ Dk V p ∧ V b = some (.lst (vI bs)) ∧ V q = some (.lst (L.map v3)) ∧ L.length ≤ j ∧ ∀ l ∈ L, WkOk n l) (by omega) ⟨[], _, _, _, _, _, rfl, f4, d4, hb4, hq4, Nat.le_refl _, fun x hx => by cases hx⟩ ?_ ?_
      · rintro ρ V ⟨L, o3, o6, o7, o8, o9, rfl, fV, dV, hbV, hqV, hlL, ok⟩
        subst hn
        simp_wf
        exact ⟨V, .refl, h V q L fV dV hSq hqV ⟨ok, by omega⟩⟩
      · rintro j ρ V hj ⟨L, o3, o6, o7, o8, o9, rfl, fV, dV, hbV, hqV, hlL, ok⟩ D' hnx hct hrt hbk hxc
        simp only [r_nm, List.set_cons_zero, List.set_cons_succ]
        refine wCs_step fun nx3 hn3 => ?_
        simp_wf
        try simp only [g, Option.some.injEq, exists_eq_left']
        refine nx_app dV fun x V2 xlo xhi d2 f2 => ?_
        simp_wf
        have hb2 := f2 _ _ nbp hbV
        have hq2 := f2 _ _ nqp hqV
        have f2 := fV.trans f2
        subst hn3
        refine wCs_step fun nx3 hn3 => ?_
        simp_wf
        refine ⟨by omega, ?_⟩
        rw [imod_pos (i := x) (j := (n : Int)) (by omega)]
        obtain ⟨a0, a1⟩ := mod_bd (m := (n : Int)) (r := x) (by omega)
        generalize x % (n : Int) = a at *
        subst hn3
        refine wCs_step fun nx3 hn3 => ?_
        simp_wf
        refine ⟨divOk_s (by decide) (by decide), by split <;> omega, by omega, ?_⟩
        rw [imod_pos (i := a + 1 + _) (j := (n : Int)) (by omega)]
        obtain ⟨b0, b1⟩ := mod_bd (m := (n : Int)) (r := a + 1 + imod (idiv x 7) (if (n : Int) - 1 > 1 then (n : Int) - 1 else 1)) (by omega)
        generalize (a + 1 + imod (idiv x 7) (if (n : Int) - 1 > 1 then (n : Int) - 1 else 1)) % (n : Int) = bb at *
        obtain ⟨a', rfl⟩ : ∃ k : Nat, a = k := ⟨a.toNat, by omega⟩
        obtain ⟨b', rfl⟩ : ∃ k : Nat, bb = k := ⟨bb.toNat, by omega⟩
        subst hn3
        refine wCs_step fun nx3 hn3 => ?_
        simp_wf
        refine ⟨_, _, .lst hb2, at_bits (i := a') (by omega), ?_⟩
        refine ⟨_, _, .lst hb2, at_bits (i := b') (by omega), ?_⟩
        simp_wf
        refine ⟨by decide, ?_⟩
        rw [imod_pos (by decide)]
        obtain ⟨u0, u1⟩ := mod_bd (m := 2) (r := bs.getD a' 0 + bs.getD b' 0) (by decide)
        generalize (bs.getD a' 0 + bs.getD b' 0) % 2 = u at *
        subst hn3
        refine wCs_step fun nx3 hn3 => ?_
        have fin : ∀ u : Int, 0 ≤ u → u < 2 → nx3 [some (.ref p), some (.int (n : Int)), some (.ref b), some (.int (j : Int)), some (.int r), some (.ref q), some (.int x), some (.int (a' : Int)), some (.int (b' : Int)), some (.int u)] V2 := fun u u0 u1 => by
          obtain ⟨x', rfl⟩ : ∃ k : Nat, u = k := ⟨u.toNat, by omega⟩
          subst hn3
          simp_wf
          by_cases e : (a' : Int) = (b' : Int)
          · rw [if_neg (by simpa using e)]
            exact hnx _ _ ⟨L, _, _, _, _, _, rfl, f2, d2, hb2, hq2, by omega, ok⟩
          · rw [if_pos (by simpa using e)]
            refine ⟨⟨_, .lst hq2⟩, _, hq2, ?_, ?_⟩
            · rw [List.length_map]; exact Nat.lt_of_le_of_lt (show L.length ≤ 200 by omega) (by decide)
            refine hnx _ _ ⟨L ++ [⟨a', b', x'⟩], _, _, _, _, _, rfl, f2.own hSq, d2.oth nqp.symm, Sto.upd_at hb2 nqb.symm, ?_, by simp; omega, ?_⟩
            · rw [Sto.upd_same, List.map_append]; rfl
            · intro l hl2
              rcases List.mem_append.mp hl2 with hl2 | hl2
              · exact ok l hl2
              · rw [List.mem_singleton.mp hl2]
                exact ⟨by simp only; omega, by simp only; omega, by simp only; omega, by simp only; omega⟩
        simp_wf
        have alt : nx3 [some (.ref p), some (.int (n : Int)), some (.ref b), some (.int (j : Int)), some (.int r), some (.ref q), some (.int x), some (.int (a' : Int)), some (.int (b' : Int)), some (.int (imod (idiv x 441) 2))] V2 := by
          rw [imod_pos (by decide)]
          obtain ⟨v0, v1⟩ := mod_bd (m := 2) (r := idiv x 441) (by decide)
          exact fin _ v0 v1
        by_cases r0 : r = 0
        · rw [if_pos r0]; exact ⟨divOk_s (by decide) (by decide), by decide, alt⟩
        · rw [if_neg r0]
          refine ⟨divOk_s (by decide) (by decide), by decide, ?_⟩
          split
          · exact ⟨divOk_s (by decide) (by decide), by decide, alt⟩
          · exact fin u u0 u1
    · rintro j acc V hj ⟨fV, dV, l, rfl, hl⟩ R r0 r1
      simp_wf
      try simp only [g, Option.some.injEq, exists_eq_left']
      refine nx_app dV fun x V2 xlo xhi d2 f2 => ?_
      simp_wf
      refine ⟨by omega, ?_⟩
      rw [imod_pos (i := x) (j := 2) (by omega)]
      obtain ⟨y0, y1⟩ := mod_bd (m := 2) (r := x) (by omega)
      generalize x % 2 = y at *
      exact r1 _ _ ⟨fV.trans f2, d2, l ++ [y], by rw [← vI_app], by simp [hl]⟩
  · exact h.elim
structure GK16 (G : Gam) : Prop where
  str : G.fn "_law_stream" = some spStreamE
  nx : G.fn "_law_next" = some spNx
  wishes : G.fn "_law_wishes" = some spW16
  sides : G.fn "_law_sides" = some spSidesE
  truth : G.fn "_law_truth" = some spTruth
  lkeeps : G.fn "_law_keeps" = some spLkeeps
  fol : G.fn "_law_follows" = some spFol
  grouped : G.fn "grouped" = some spGrp
  keeps : G.fn "keeps" = some spKeeps
def BS16 : List C := [.asg (.nm 8) (.call "_law_keeps" [.v 4, .v 7]), .ite (.not (.val (.call "_law_truth" [.call "keeps" [.v 5, .v 4, .v 7], .v 8]))) [.ret (.bl false)] [], .ite (.cmp .NotEq (.v 8) (.and [.cmp .Eq (.ix (.v 6) (.int 0)) (.str "groups"), .call "_law_follows" [.ix (.v 6) (.int 1), .ix (.v 6) (.int 2), .v 7]])) [.ret (.bl false)] []]
def BT16 : List C := [.asg (.nm 2) (.call "_law_stream" [.v 1, .int 30]), .asg (.nm 3) (.bin .Add (.int 1) (.bin .Mod (.call "_law_next" [.v 2]) (.int 7))), .asg (.nm 4) (.call "_law_wishes" [.v 2, .v 3]), .asg (.nm 5) (.tup [.v 3, .tup []]), .asg (.nm 6) (.call "grouped" [.v 5, .v 4]), .ite (.cmp .NotIn (.ix (.v 6) (.int 0)) (.tup [.str "groups", .str "ring"])) [.ret (.bl false)] [], .loop (.nm 7) (.val (.call "_law_sides" [.v 3])) BS16]
def N_law : List Str := ["_law_script", "_law_cell", "_law_xs", "_law_many", "_law_wishes_here", "_law_web", "_law_found", "_law_side", "_law_due"]
def P_law : List Str := ["_law_script"]
def B_law : List C := [.loop (.nm 1) (.val (.sl (.v 0) .no (.at (.int 10)))) BT16, .ret (.bl true)]
/-- what is told of groups -/
def Told16 (n : Nat) (L : List Lk) (v : Val) : Prop := (∃ r, OddRing L r ∧ v = .tup [.str "ring", .tup (vI (iN r))]) ∨ ∃ g m, Good n L g m none ∧ v = .tup [.str "groups", .tup (vI (rN n g)), .tup (vI (rN n m))]
theorem side16 {G : Gam} (g : GK16 G) {D : En} {n : Nat} {L : List Lk} {q : Addr} {v : Val} {b : List Int} {S : Sto} {o0 o1 o2 o8 : Option Val} (n60 : n ≤ 60) (hq : S q = some (.lst (L.map v3))) (wok : WssOk n L) (tl : Told16 n L v) (hb : Bits n b)
    (h : ∀ T o8, S.le T → D.nx [o0, o1, o2, some (.int (n : Int)), some (.ref q), some (.tup [.int (n : Int), .tup []]), some v, some (.tup (vI b)), o8] T) :
    wCs G BS16 D [o0, o1, o2, some (.int (n : Int)), some (.ref q), some (.tup [.int (n : Int), .tup []]), some v, some (.tup (vI b)), o8] S := by
  have hbl : b.length = n := hb.1
  unfold BS16
  refine wCs_step fun nx hn => ?_
  simp_wf
  try simp only [g.lkeeps, Option.some.injEq, exists_eq_left']
  refine .of ⟨n, L, b, hq, by have := wok.2; omega, wok.1, rfl, hbl, fun T lT => ?_⟩
  have hq1 := lT _ _ hq
  subst hn
  refine wCs_step fun nx hn => ?_
  simp_wf
  try simp only [g.truth, g.keeps, Option.some.injEq, exists_eq_left']
  refine .of ⟨n, [], L, b, rfl, wok, ⟨_, .inr ⟨q, rfl, hq1⟩, .tups⟩, rfl, hbl, fun T2 lT2 => ?_⟩
  refine .of ?_
  simp only [spTruth, decide_true]
  simp_wf
  subst hn
  simp_wf
  have l2 := lT.trans lT2
  have eb := (bits_rN hb).1
  have eb2 := (bits_rN hb).2.1
  generalize hs : (fun p => (b.getD p 0).toNat) = sd at *
  have es2 : ∀ p, sd p < 2 := fun p => by rw [← hs]; exact eb2 p
  have ek : ∀ (T : Sto) (r : Bool), S.le T → (r = keepsB L b) → cEq true (.bl (keepsB L b)) (.bl r) T fun r S3 => ∃ k, r = Val.bl k ∧ if k = true then D.rt (Val.bl false) S3 else D.nx [o0, o1, o2, some (.int (n : Int)), some (.ref q), some (.tup [.int (n : Int), .tup []]), some v, some (.tup (vI b)), some (.bl (keepsB L b))] S3 := fun T r l e => by
    subst e
    simp_wf
    exact h _ _ l
  rcases tl with ⟨r, hr, ev⟩ | ⟨g1, m1, good, ev⟩
  · rw [ev]
    simp_wf
    rw [← ev]
    refine cEq_str ?_
    rw [show decide (("ring" : Str) = "groups") = false by decide +kernel]
    simp_wf
    have ef : keepsB L b = false := by
      cases e : keepsB L b with
      | false => rfl
      | true =>
        rw [eb] at e
        exact (no_ring wok.lok ((keepsB_rN wok.1).mp e) hr).elim
    rw [if_neg (by simpa using ef)]
    exact h _ _ l2
  · rw [ev]
    simp_wf
    rw [← ev]
    refine cEq_str ?_
    rw [decide_eq_true rfl]
    simp_wf
    try simp only [g.fol, Option.some.injEq, exists_eq_left']
    refine .of ⟨n, g1, m1, sd, n60, rfl, rfl, by rw [← eb], fun T3 l3 => ek _ _ (l2.trans l3) ?_⟩
    rw [Bool.eq_iff_iff, fol_keeps good wok.lok es2, ← keepsB_rN wok.1, ← eb]
theorem turn16 {G : Gam} (g : GK16 G) {D : En} {x : Int} {S : Sto} {o0 o2 o3 o4 o5 o6 o7 o8 : Option Val}
    (h : ∀ T o2 o3 o4 o5 o6 o7 o8, S.le T → D.nx [o0, some (.int x), o2, o3, o4, o5, o6, o7, o8] T) :
    wCs G BT16 D [o0, some (.int x), o2, o3, o4, o5, o6, o7, o8] S := by
  unfold BT16
  refine wCs_step fun nx2 hn2 => ?_
  simp_wf
  try simp only [g.str, Option.some.injEq, exists_eq_left']
  refine .of ⟨by decide, by decide, fun p ms' hp hb _ => ?_⟩
  have d0 : Dk (S.upd p (.lst (vI ms'))) p := ⟨_, hb, Sto.upd_same⟩
  have l0 : S.le (S.upd p (.lst (vI ms'))) := le_new hp
  generalize S.upd p (.lst (vI ms')) = V0 at *
  have low : ∀ T, Fr p V0 T → S.le T := fun T fT a o e => fT a o (ne_nn e hp).symm (l0 _ _ e)
  subst hn2
  refine wCs_step fun nx hn => ?_
  simp_wf
  try simp only [g.nx, Option.some.injEq, exists_eq_left']
  refine nx_app d0 fun z T1 zlo zhi d1 f1 => ?_
  simp_wf
  refine ⟨by omega, ?_⟩
  rw [imod_pos (i := z) (j := 7) (by omega)]
  obtain ⟨r0, r1⟩ := mod_bd (m := 7) (r := z) (by omega)
  generalize z % 7 = r at *
  obtain ⟨n, en⟩ : ∃ n : Nat, 1 + r = (n : Int) := ⟨(1 + r).toNat, by omega⟩
  rw [en]
  have n1 : 1 ≤ n := by omega
  have n7 : n ≤ 7 := by omega
  subst hn
  refine wCs_step fun nx hn => ?_
  simp_wf
  try simp only [g.wishes, Option.some.injEq, exists_eq_left']
  refine .of ⟨n, rfl, n1, by omega, d1, fun T2 q L f2 d2 _ hq wok => ?_⟩
  have f2 := f1.trans f2
  subst hn
  refine wCs_step fun nx hn => ?_
  simp_wf
  subst hn
  refine wCs_step fun nx hn => ?_
  have rest : ∀ T3 v, T2.le T3 → Told16 n L v → nx [o0, some (.int x), some (.ref p), some (.int (n : Int)), some (.ref q), some (.tup [.int (n : Int), .tup []]), some v, o7, o8] T3 := fun T3 v l3 tl => by
    have hq3 := l3 _ _ hq
    have l3' := (low _ f2).trans l3
    subst hn
    refine wCs_step fun nx hn => ?_
    have fin : nx [o0, some (.int x), some (.ref p), some (.int (n : Int)), some (.ref q), some (.tup [.int (n : Int), .tup []]), some v, o7, o8] T3 := by
      subst hn
      refine wCs_step fun nx hn => ?_
      refine loop_made (fun w T => ∃ (z : Addr) (M : List (List Int)), w = .ref z ∧ T3.le T ∧ T z = some (.lst (M.map fun b => Val.tup (vI b))) ∧ ∀ b ∈ M, Bits n b) ?_ ?_
      · simp_wf
        try simp only [g.sides, Option.some.injEq, exists_eq_left']
        refine .of ⟨by omega, by omega, fun z M hz hM _ => ⟨z, M, rfl, le_new hz, Sto.upd_same, fun b hb => ?_⟩⟩
        have := hM b hb
        rwa [Int.toNat_natCast] at this
      · rintro w T ⟨z, M, rfl, lT, hz, hM⟩
        refine ⟨z, _, rfl, .lst hz, ?_⟩
        refine forW_inv (fun r ρ V => (∀ y ∈ r, ∃ b, Bits n b ∧ y = .tup (vI b)) ∧ T3.le V ∧ T.le V ∧ ∃ o7 o8, ρ = [o0, some (.int x), some (.ref p), some (.int (n : Int)), some (.ref q), some (.tup [.int (n : Int), .tup []]), some v, o7, o8]) (fun r ρ V h => .lst (h.2.2.1 _ _ hz)) ?_ ?_ _ _ _ ⟨fun y hy => ?_, lT, .refl, _, _, rfl⟩
        · rintro ρ V ⟨_, lV, _, o7, o8, rfl⟩
          subst hn
          simp only [wCs]
          exact h V _ _ _ _ _ _ _ (l3'.trans lV)
        · rintro y r ρ V ⟨hr, lV, lV2, o7, o8, rfl⟩ D' hn1 hc1 hrt hbk hxc
          obtain ⟨b, hb, rfl⟩ := hr y List.mem_cons_self
          simp only [r_nm, List.set_cons_zero, List.set_cons_succ]
          exact side16 g (by omega) (lV _ _ hq3) wok tl hb fun T o8 l => hn1 _ _ ⟨fun y hy => hr y (List.mem_cons_of_mem _ hy), lV.trans l, lV2.trans l, _, _, rfl⟩
        · obtain ⟨b, hb, rfl⟩ := List.mem_map.mp hy
          exact ⟨b, hM b hb, rfl⟩
    rcases tl with ⟨r, _, rfl⟩ | ⟨g, m, _, rfl⟩
    · simp_wf
      have e : (true ^^ (toDs [Val.str "groups", .str "ring"]).any fun z => PyData.eqv z (toD (.str "ring"))) = false := by decide +kernel
      refine ⟨rfl, rfl, ?_⟩
      rw [e]
      simp_wf
      exact fin
    · simp_wf
      have e : (true ^^ (toDs [Val.str "groups", .str "ring"]).any fun z => PyData.eqv z (toD (.str "groups"))) = false := by decide +kernel
      refine ⟨rfl, rfl, ?_⟩
      rw [e]
      simp_wf
      exact fin
  simp_wf
  try simp only [g.grouped, Option.some.injEq, exists_eq_left']
  refine .of ⟨n, [], L, rfl, by omega, wok, ⟨_, .inr ⟨q, rfl, hq⟩, .tups⟩, fun T3 r l3 hr => rest T3 _ l3 (.inl ⟨r, hr, rfl⟩), fun T3 gs bs l3 good => ?_⟩
  have e : ∀ f : Nat → Nat, (rF n fun p => Val.int ((f p : Nat) : Int)) = vI (rN n f) := fun f => by rw [vI_rN]; rfl
  rw [e, e]
  exact rest T3 _ l3 (.inr ⟨gs, bs, good, rfl⟩)
theorem body_law {G : Gam} (g : GK16 G) : Body G N_law P_law B_law spLaw := by
  intro vs S Q X h
  unfold spLaw at h
  split at h
  · rename_i w
    obtain ⟨⟨ns, hl, hw⟩, h⟩ := h
    refine ⟨rfl, ?_⟩
    simp only [N_law, B_law]
    refine wCs_step fun nx hn => ?_
    refine loop_made (fun v T => ∃ (z : Addr) (ms : List Int), v = .ref z ∧ S.le T ∧ T z = some (.lst (List.map Val.int ms))) ?_ ?_
    · simp_wf
      refine ⟨_, hw, fun z hz => ?_⟩
      exact ⟨z, _, rfl, Sto.le.new .refl hz, by rw [Sto.upd_same]; exact congrArg (fun x => some (MO.lst x)) cut_vI⟩
    · rintro u V ⟨z, ms, rfl, lV, hz⟩
      refine ⟨z, _, rfl, .lst hz, ?_⟩
      refine forW_inv (fun r ρ V => (∀ x ∈ r, ∃ i, x = .int i) ∧ S.le V ∧ rdL V z (List.map Val.int ms) ∧ ∃ o1 o2 o3 o4 o5 o6 o7 o8, ρ = [some (.ref w), o1, o2, o3, o4, o5, o6, o7, o8]) (fun r ρ V h => h.2.2.1) ?_ ?_ _ _ _ ⟨?_, lV, .lst hz, _, _, _, _, _, _, _, _, rfl⟩
      · rintro ρ V ⟨_, lV, _, o1, o2, o3, o4, o5, o6, o7, o8, rfl⟩
        subst hn
        simp_wf
        exact ⟨S, lV, h⟩
      · rintro x r ρ V ⟨hr, lV, hz, o1, o2, o3, o4, o5, o6, o7, o8, rfl⟩ D' hn1 hc1 hrt hbk hxc
        obtain ⟨i, rfl⟩ := hr x List.mem_cons_self
        simp only [r_nm, List.set_cons_zero, List.set_cons_succ]
        exact turn16 g fun T o2 o3 o4 o5 o6 o7 o8 lT => hn1 _ _ ⟨fun y hy => hr y (List.mem_cons_of_mem _ hy), lV.trans lT, rd_le hz lT, _, _, _, _, _, _, _, _, rfl⟩
      · intro x hx
        obtain ⟨i, _, rfl⟩ := List.mem_map.mp hx
        exact ⟨i, rfl⟩
  · exact h.elim
theorem lawB_of16 {G : Gam} {N P : List Str} {B : List C} (h : Body G N P B spLaw) : Body G N P B spLawB := fun vs S Q X hb => h vs S Q X (by
  unfold spLawB at hb
  unfold spLaw
  split at hb
  · obtain ⟨⟨ns, h1, _, h2⟩, h3⟩ := hb
    exact ⟨⟨ns, h1, h2⟩, h3⟩
  · exact hb.elim)
end M


set_option maxHeartbeats 0
namespace M
open PySem PySem.Spec PyProof.Rows L2
end M
namespace M
open MH PySem PySem.Spec PyProof.Rows L2
theorem sc_Link_init : FnScope N_Link_init P_Link_init d_Link_init.scope := ⟨rfl, rfl, rfl, by decide +kernel, rfl, by decide +kernel, by decide +kernel⟩
theorem mc_Link_init : mCs N_Link_init d_Link_init.scope [] B_Link_init d_Link_init.body = true := by decide +kernel
theorem sc_Parting_init : FnScope N_Parting_init P_Parting_init d_Parting_init.scope := ⟨rfl, rfl, rfl, by decide +kernel, rfl, by decide +kernel, by decide +kernel⟩
theorem mc_Parting_init : mCs N_Parting_init d_Parting_init.scope [] B_Parting_init d_Parting_init.body = true := by decide +kernel
theorem sc_Walk_init : FnScope N_Walk_init P_Walk_init d_Walk_init.scope := ⟨rfl, rfl, rfl, by decide +kernel, rfl, by decide +kernel, by decide +kernel⟩
theorem mc_Walk_init : mCs N_Walk_init d_Walk_init.scope [] B_Walk_init d_Walk_init.body = true := by decide +kernel
theorem sc_Walk_other_end : FnScope N_Walk_other_end P_Walk_other_end d_Walk_other_end.scope := ⟨rfl, rfl, rfl, by decide +kernel, rfl, by decide +kernel, by decide +kernel⟩
theorem mc_Walk_other_end : mCs N_Walk_other_end d_Walk_other_end.scope [] B_Walk_other_end d_Walk_other_end.body = true := by decide +kernel
theorem sc_Walk_way_back : FnScope N_Walk_way_back P_Walk_way_back d_Walk_way_back.scope := ⟨rfl, rfl, rfl, by decide +kernel, rfl, by decide +kernel, by decide +kernel⟩
theorem mc_Walk_way_back : mCs N_Walk_way_back d_Walk_way_back.scope [] B_Walk_way_back d_Walk_way_back.body = true := by decide +kernel
theorem sc_Walk_odd_ring : FnScope N_Walk_odd_ring P_Walk_odd_ring d_Walk_odd_ring.scope := ⟨rfl, rfl, rfl, by decide +kernel, rfl, by decide +kernel, by decide +kernel⟩
theorem mc_Walk_odd_ring : mCs N_Walk_odd_ring d_Walk_odd_ring.scope [] B_Walk_odd_ring d_Walk_odd_ring.body = true := by decide +kernel
theorem sc_Walk_go : FnScope N_Walk_go P_Walk_go d_Walk_go.scope := ⟨rfl, rfl, rfl, by decide +kernel, rfl, by decide +kernel, by decide +kernel⟩
theorem mc_Walk_go : mCs N_Walk_go d_Walk_go.scope [] B_Walk_go d_Walk_go.body = true := by decide +kernel
theorem sc_Walk_begin : FnScope N_Walk_begin P_Walk_begin d_Walk_begin.scope := ⟨rfl, rfl, rfl, by decide +kernel, rfl, by decide +kernel, by decide +kernel⟩
theorem mc_Walk_begin : mCs N_Walk_begin d_Walk_begin.scope [] B_Walk_begin d_Walk_begin.body = true := by decide +kernel
theorem sc_is_int : FnScope N_is_int P_is_int d_is_int.scope := ⟨rfl, rfl, rfl, by decide +kernel, rfl, by decide +kernel, by decide +kernel⟩
theorem mc_is_int : mCs N_is_int d_is_int.scope [] B_is_int d_is_int.body = true := by decide +kernel
theorem sc_is_point : FnScope N_is_point P_is_point d_is_point.scope := ⟨rfl, rfl, rfl, by decide +kernel, rfl, by decide +kernel, by decide +kernel⟩
theorem mc_is_point : mCs N_is_point d_is_point.scope [] B_is_point d_is_point.body = true := by decide +kernel
theorem sc_parted : FnScope N_parted P_parted d_parted.scope := ⟨rfl, rfl, rfl, by decide +kernel, rfl, by decide +kernel, by decide +kernel⟩
theorem mc_parted : mCs N_parted d_parted.scope [] B_parted d_parted.body = true := by decide +kernel
theorem sc_made_wish : FnScope N_made_wish P_made_wish d_made_wish.scope := ⟨rfl, rfl, rfl, by decide +kernel, rfl, by decide +kernel, by decide +kernel⟩
theorem mc_made_wish : mCs N_made_wish d_made_wish.scope ["NoWishes"] B_made_wish d_made_wish.body = true := by decide +kernel
theorem sc_made_wishes : FnScope N_made_wishes P_made_wishes d_made_wishes.scope := ⟨rfl, rfl, rfl, by decide +kernel, rfl, by decide +kernel, by decide +kernel⟩
theorem mc_made_wishes : mCs N_made_wishes d_made_wishes.scope ["NoWishes"] B_made_wishes d_made_wishes.body = true := by decide +kernel
theorem sc_keeps : FnScope N_keeps P_keeps d_keeps.scope := ⟨rfl, rfl, rfl, by decide +kernel, rfl, by decide +kernel, by decide +kernel⟩
theorem mc_keeps : mCs N_keeps d_keeps.scope [] B_keeps d_keeps.body = true := by decide +kernel
theorem sc_grouped_points : FnScope N_grouped_points P_grouped_points d_grouped_points.scope := ⟨rfl, rfl, rfl, by decide +kernel, rfl, by decide +kernel, by decide +kernel⟩
theorem mc_grouped_points : mCs N_grouped_points d_grouped_points.scope [] B_grouped_points d_grouped_points.body = true := by decide +kernel
theorem sc_grouped : FnScope N_grouped P_grouped d_grouped.scope := ⟨rfl, rfl, rfl, by decide +kernel, rfl, by decide +kernel, by decide +kernel⟩
theorem mc_grouped : mCs N_grouped d_grouped.scope [] B_grouped d_grouped.body = true := by decide +kernel
theorem sc_Ltruth : FnScope N_Ltruth P_Ltruth d_Ltruth.scope := ⟨rfl, rfl, rfl, by decide +kernel, rfl, by decide +kernel, by decide +kernel⟩
theorem mc_Ltruth : mCs N_Ltruth d_Ltruth.scope [] B_Ltruth d_Ltruth.body = true := by decide +kernel
theorem sc_LstreamE : FnScope N_LstreamE P_LstreamE d_LstreamE.scope := ⟨rfl, rfl, rfl, by decide +kernel, rfl, by decide +kernel, by decide +kernel⟩
theorem mc_LstreamE : mCs N_LstreamE d_LstreamE.scope [] B_LstreamE d_LstreamE.body = true := by decide +kernel
theorem sc_Lnx : FnScope N_Lnx P_Lnx d_Lnx.scope := ⟨rfl, rfl, rfl, by decide +kernel, rfl, by decide +kernel, by decide +kernel⟩
theorem mc_Lnx : mCs N_Lnx d_Lnx.scope [] B_Lnx d_Lnx.body = true := by decide +kernel
theorem sc_Lw16 : FnScope N_Lw16 P_Lw16 d_Lw16.scope := ⟨rfl, rfl, rfl, by decide +kernel, rfl, by decide +kernel, by decide +kernel⟩
theorem mc_Lw16 : mCs N_Lw16 d_Lw16.scope [] B_Lw16 d_Lw16.body = true := by decide +kernel
theorem sc_LsidesE : FnScope N_LsidesE P_LsidesE d_LsidesE.scope := ⟨rfl, rfl, rfl, by decide +kernel, rfl, by decide +kernel, by decide +kernel⟩
theorem mc_LsidesE : mCs N_LsidesE d_LsidesE.scope [] B_LsidesE d_LsidesE.body = true := by decide +kernel
theorem sc_Lkeeps : FnScope N_Lkeeps P_Lkeeps d_Lkeeps.scope := ⟨rfl, rfl, rfl, by decide +kernel, rfl, by decide +kernel, by decide +kernel⟩
theorem mc_Lkeeps : mCs N_Lkeeps d_Lkeeps.scope [] B_Lkeeps d_Lkeeps.body = true := by decide +kernel
theorem sc_Lfollows : FnScope N_Lfollows P_Lfollows d_Lfollows.scope := ⟨rfl, rfl, rfl, by decide +kernel, rfl, by decide +kernel, by decide +kernel⟩
theorem mc_Lfollows : mCs N_Lfollows d_Lfollows.scope [] B_Lfollows d_Lfollows.body = true := by decide +kernel
theorem sc_law : FnScope N_law P_law d_law.scope := ⟨rfl, rfl, rfl, by decide +kernel, rfl, by decide +kernel, by decide +kernel⟩
theorem mc_law : mCs N_law d_law.scope [] B_law d_law.body = true := by decide +kernel
def cstL : List (Str × Val) := [("MOST_WISHES", .int 120)]
def excL : List Str := ["NoWishes"]
def foL : List (Str × Str) := [("Link", "one"), ("Link", "other"), ("Link", "apart"), ("Walk", "links"), ("Walk", "found"), ("Walk", "came_by"), ("Walk", "at_point"), ("Parting", "groups"), ("Parting", "bits"), ("Parting", "ring")]
def G0 (K : PySem.W.Frag) : Gam := { fn := fun _ => none, cst := fun x => cstL.lookup x, new := fun _ => none, mt := fun _ _ => none, fo := fun C f => foL.contains (C, f), ecls := fun x => if excL.contains x = true then some (He.ga K x) else none }
section
variable {P : Program} {w : World} {K : PySem.W.Frag} {mg : Str → Option Value} {base h : Heap}
theorem blt0 (c : He.SaysD fa fn K) (X : K.In h) (GG : h.Ns mainGlobals mg) : ∀ x ∈ bltNames, mg x = none := by
    intro x hx
    simp only [bltNames, List.mem_cons, List.not_mem_nil, or_false] at hx
    rcases hx with rfl | rfl | rfl | rfl | rfl | rfl | rfl | rfl | rfl | rfl | rfl | rfl | rfl | rfl | rfl | rfl | rfl | rfl | rfl
    · exact He.free_ok X GG (c.fact 16 rfl)
    · exact He.free_ok X GG (c.fact 17 rfl)
    · exact He.free_ok X GG (c.fact 18 rfl)
    · exact He.free_ok X GG (c.fact 19 rfl)
    · exact He.free_ok X GG (c.fact 20 rfl)
    · exact He.free_ok X GG (c.fact 21 rfl)
    · exact He.free_ok X GG (c.fact 22 rfl)
    · exact He.free_ok X GG (c.fact 23 rfl)
    · exact He.free_ok X GG (c.fact 24 rfl)
    · exact He.free_ok X GG (c.fact 25 rfl)
    · exact He.free_ok X GG (c.fact 26 rfl)
    · exact He.free_ok X GG (c.fact 27 rfl)
    · exact He.free_ok X GG (c.fact 28 rfl)
    · exact He.free_ok X GG (c.fact 29 rfl)
    · exact He.free_ok X GG (c.fact 30 rfl)
    · exact He.free_ok X GG (c.fact 31 rfl)
    · exact He.free_ok X GG (c.fact 32 rfl)
    · exact He.free_ok X GG (c.fact 33 rfl)
    · exact He.free_ok X GG (c.fact 34 rfl)

theorem base0 (c : He.SaysD fa fn K) (X : K.In h) (GG : h.Ns mainGlobals mg) (ct : tc.all (tupM K) = true) : Base K mg (G0 K) := ⟨(fun C f h => by
    have h : foL.contains (C, f) = true := h
    rw [List.contains_iff_mem] at h
    simp only [foL, List.mem_cons, List.not_mem_nil, or_false, Prod.mk.injEq] at h
    rcases h with ⟨rfl, rfl⟩ | ⟨rfl, rfl⟩ | ⟨rfl, rfl⟩ | ⟨rfl, rfl⟩ | ⟨rfl, rfl⟩ | ⟨rfl, rfl⟩ | ⟨rfl, rfl⟩ | ⟨rfl, rfl⟩ | ⟨rfl, rfl⟩ | ⟨rfl, rfl⟩
    · exact ⟨He.cls_ok (c.fact 35 rfl), He.noat_ok (c.fact 49 rfl)⟩
    · exact ⟨He.cls_ok (c.fact 35 rfl), He.noat_ok (c.fact 50 rfl)⟩
    · exact ⟨He.cls_ok (c.fact 35 rfl), He.noat_ok (c.fact 51 rfl)⟩
    · exact ⟨He.cls_ok (c.fact 39 rfl), He.noat_ok (c.fact 52 rfl)⟩
    · exact ⟨He.cls_ok (c.fact 39 rfl), He.noat_ok (c.fact 53 rfl)⟩
    · exact ⟨He.cls_ok (c.fact 39 rfl), He.noat_ok (c.fact 54 rfl)⟩
    · exact ⟨He.cls_ok (c.fact 39 rfl), He.noat_ok (c.fact 55 rfl)⟩
    · exact ⟨He.cls_ok (c.fact 37 rfl), He.noat_ok (c.fact 56 rfl)⟩
    · exact ⟨He.cls_ok (c.fact 37 rfl), He.noat_ok (c.fact 57 rfl)⟩
    · exact ⟨He.cls_ok (c.fact 37 rfl), He.noat_ok (c.fact 58 rfl)⟩
), (fun x v h => by
    have h2 := lookup_mem (l := cstL) h
    simp only [cstL, List.mem_cons, List.not_mem_nil, or_false, Prod.mk.injEq] at h2
    rcases h2 with ⟨rfl, rfl⟩
    · obtain ⟨t, ht⟩ := He.int_ok X GG (c.fact 59 rfl)
      exact ⟨.int 120, _, ht, ⟨t, rfl⟩, fun H => by simp only [RepV]⟩
), blt0 c X GG, rfl, (fun _ _ b h => by have h : (none : Option Bool) = some b := h; cases h), (fun _ _ b h => by have h : (none : Option Bool) = some b := h; cases h), (fun c C h => by
    have h : (if excL.contains c = true then some (He.ga K c) else none) = some C := h
    split at h
    · exact (Option.some.inj h).symm
    · cases h)⟩
theorem rk_NoWishes (c : He.SaysD fa fn K) (X : K.In h) (GG : h.Ns mainGlobals mg) : RaisK K mg (G0 K).ecls "NoWishes" (He.ga K "NoWishes") := by
  obtain ⟨a, b, d, e⟩ := He.exc_ok (c.fact 60 rfl)
  have e0 : (G0 K).ecls "NoWishes" = some (He.ga K "NoWishes") := by
    show (if excL.contains "NoWishes" = true then some (He.ga K "NoWishes") else none) = _
    exact if_pos (by decide +kernel)
  exact ⟨e0, He.glo_ok X GG (c.fact 61 rfl), b, d, e, _, _, _, _, PySem.F.excBase_ValueError, a⟩
def tab0 : Tabs := {}
theorem tab_0 (c : He.SaysD fa fn K) (X : K.In h) (GG : h.Ns mainGlobals mg) (ct : tc.all (tupM K) = true) : TT P w K mg base (G0 K).ecls 0 tab0 := .nil
def tab1 : Tabs := { tab0 with new := ("Link", spLinkI) :: tab0.new }
theorem tab_1 (c : He.SaysD fa fn K) (X : K.In h) (GG : h.Ns mainGlobals mg) (ct : tc.all (tupM K) = true) : TT P w K mg base (G0 K).ecls 2 tab1 :=
  .init (G := G0 K) (base0 c X GG ct) (tab_0 c X GG ct) c X GG (d := d_Link_init) 0 rfl 36 rfl 41 rfl rfl rfl rfl sc_Link_init (fun _ h => by cases h) mc_Link_init (fun _ _ _ _ _ _ _ us hl => match us, hl with | [_, _, _, _], _ => rfl) (body_Link_init ⟨rfl, rfl, rfl, rfl, rfl, rfl, rfl, rfl, rfl, rfl⟩)
def tab2 : Tabs := { tab1 with new := ("Parting", spPartI) :: tab1.new }
theorem tab_2 (c : He.SaysD fa fn K) (X : K.In h) (GG : h.Ns mainGlobals mg) (ct : tc.all (tupM K) = true) : TT P w K mg base (G0 K).ecls 4 tab2 :=
  .init (G := G0 K) (base0 c X GG ct) (tab_1 c X GG ct) c X GG (d := d_Parting_init) 1 rfl 38 rfl 42 rfl rfl rfl rfl sc_Parting_init (fun _ h => by cases h) mc_Parting_init (fun _ _ _ _ _ _ _ us hl => match us, hl with | [_, _], _ => rfl) (body_Parting_init ⟨rfl, rfl, rfl, rfl, rfl, rfl, rfl, rfl, rfl, rfl⟩)
def tab3 : Tabs := { tab2 with new := ("Walk", spWalkI) :: tab2.new }
theorem tab_3 (c : He.SaysD fa fn K) (X : K.In h) (GG : h.Ns mainGlobals mg) (ct : tc.all (tupM K) = true) : TT P w K mg base (G0 K).ecls 6 tab3 :=
  .init (G := G0 K) (base0 c X GG ct) (tab_2 c X GG ct) c X GG (d := d_Walk_init) 2 rfl 40 rfl 43 rfl rfl rfl rfl sc_Walk_init (fun _ h => by cases h) mc_Walk_init (fun _ _ _ _ _ _ _ us hl => match us, hl with | [_, _, _], _ => rfl) (body_Walk_init ⟨rfl, rfl, rfl, rfl, rfl, rfl, rfl, rfl, rfl, rfl⟩ rfl)
def tab4 : Tabs := { tab3 with mt := (("Walk", "other_end"), spOther) :: tab3.mt }
theorem tab_4 (c : He.SaysD fa fn K) (X : K.In h) (GG : h.Ns mainGlobals mg) (ct : tc.all (tupM K) = true) : TT P w K mg base (G0 K).ecls 7 tab4 :=
  .meth (G := G0 K) (base0 c X GG ct) (tab_3 c X GG ct) c (d := d_Walk_other_end) 3 rfl 39 rfl 44 rfl rfl rfl rfl sc_Walk_other_end (fun _ h => by cases h) mc_Walk_other_end (fun _ _ _ _ _ _ _ us hl => match us, hl with | [_, _, _], _ => rfl) (body_other_end ⟨rfl, rfl, rfl, rfl, rfl, rfl, rfl, rfl, rfl, rfl⟩)
def tab5 : Tabs := { tab4 with mt := (("Walk", "way_back"), spWay) :: tab4.mt }
theorem tab_5 (c : He.SaysD fa fn K) (X : K.In h) (GG : h.Ns mainGlobals mg) (ct : tc.all (tupM K) = true) : TT P w K mg base (G0 K).ecls 8 tab5 :=
  .meth (G := G0 K) (base0 c X GG ct) (tab_4 c X GG ct) c (d := d_Walk_way_back) 4 rfl 39 rfl 45 rfl rfl rfl rfl sc_Walk_way_back (fun _ h => by cases h) mc_Walk_way_back (fun _ _ _ _ _ _ _ us hl => match us, hl with | [_, _], _ => rfl) (body_way_back ⟨rfl, rfl, rfl, rfl, rfl, rfl, rfl, rfl, rfl, rfl⟩ rfl)
def tab6 : Tabs := { tab5 with mt := (("Walk", "odd_ring"), spRing) :: tab5.mt }
theorem tab_6 (c : He.SaysD fa fn K) (X : K.In h) (GG : h.Ns mainGlobals mg) (ct : tc.all (tupM K) = true) : TT P w K mg base (G0 K).ecls 9 tab6 :=
  .meth (G := G0 K) (base0 c X GG ct) (tab_5 c X GG ct) c (d := d_Walk_odd_ring) 5 rfl 39 rfl 46 rfl rfl rfl rfl sc_Walk_odd_ring (fun _ h => by cases h) mc_Walk_odd_ring (fun _ _ _ _ _ _ _ us hl => match us, hl with | [_, _], _ => rfl) (body_odd_ring ⟨rfl, rfl, rfl, rfl, rfl, rfl, rfl, rfl, rfl, rfl⟩ rfl)
def tab7 : Tabs := { tab6 with mt := (("Walk", "go"), spGo) :: tab6.mt }
theorem tab_7 (c : He.SaysD fa fn K) (X : K.In h) (GG : h.Ns mainGlobals mg) (ct : tc.all (tupM K) = true) : TT P w K mg base (G0 K).ecls 10 tab7 :=
  .meth (G := G0 K) (base0 c X GG ct) (tab_6 c X GG ct) c (d := d_Walk_go) 6 rfl 39 rfl 47 rfl rfl rfl rfl sc_Walk_go (fun _ h => by cases h) mc_Walk_go (fun _ _ _ _ _ _ _ us hl => match us, hl with | [_, _, _, _], _ => rfl) (body_go ⟨rfl, rfl, rfl, rfl, rfl, rfl, rfl, rfl, rfl, rfl⟩ rfl rfl)
def tab8 : Tabs := { tab7 with mt := (("Walk", "begin"), spBegin) :: tab7.mt }
theorem tab_8 (c : He.SaysD fa fn K) (X : K.In h) (GG : h.Ns mainGlobals mg) (ct : tc.all (tupM K) = true) : TT P w K mg base (G0 K).ecls 11 tab8 :=
  .meth (G := G0 K) (base0 c X GG ct) (tab_7 c X GG ct) c (d := d_Walk_begin) 7 rfl 39 rfl 48 rfl rfl rfl rfl sc_Walk_begin (fun _ h => by cases h) mc_Walk_begin (fun _ _ _ _ _ _ _ us hl => match us, hl with | [_, _, _], _ => rfl) (body_begin ⟨rfl, rfl, rfl, rfl, rfl, rfl, rfl, rfl, rfl, rfl⟩ rfl)
def tab9 : Tabs := { tab8 with fn := ("is_int", spInt) :: tab8.fn }
theorem tab_9 (c : He.SaysD fa fn K) (X : K.In h) (GG : h.Ns mainGlobals mg) (ct : tc.all (tupM K) = true) : TT P w K mg base (G0 K).ecls 12 tab9 :=
  .cons (G := G0 K) (base0 c X GG ct) (tab_8 c X GG ct) c X GG (d := d_is_int) 8 rfl 0 rfl rfl rfl rfl sc_is_int (fun _ h => by cases h) mc_is_int (fun _ _ _ _ _ _ _ us hl => match us, hl with | [_], _ => rfl) body_is_int
def tab10 : Tabs := { tab9 with fn := ("is_point", spPt) :: tab9.fn }
theorem tab_10 (c : He.SaysD fa fn K) (X : K.In h) (GG : h.Ns mainGlobals mg) (ct : tc.all (tupM K) = true) : TT P w K mg base (G0 K).ecls 13 tab10 :=
  .cons (G := G0 K) (base0 c X GG ct) (tab_9 c X GG ct) c X GG (d := d_is_point) 9 rfl 1 rfl rfl rfl rfl sc_is_point (fun _ h => by cases h) mc_is_point (fun _ _ _ _ _ _ _ us hl => match us, hl with | [_, _], _ => rfl) (body_is_point rfl)
def tab11 : Tabs := { tab10 with fn := ("parted", spParted) :: tab10.fn }
theorem tab_11 (c : He.SaysD fa fn K) (X : K.In h) (GG : h.Ns mainGlobals mg) (ct : tc.all (tupM K) = true) : TT P w K mg base (G0 K).ecls 14 tab11 :=
  .cons (G := G0 K) (base0 c X GG ct) (tab_10 c X GG ct) c X GG (d := d_parted) 10 rfl 2 rfl rfl rfl rfl sc_parted (fun _ h => by cases h) mc_parted (fun _ _ _ _ _ _ _ us hl => match us, hl with | [_, _], _ => rfl) (body_parted ⟨rfl, rfl, rfl, rfl, rfl, rfl, rfl, rfl, rfl, rfl⟩ rfl rfl)
def tab12 : Tabs := { tab11 with fn := ("made_wish", spMWish) :: tab11.fn }
theorem tab_12 (c : He.SaysD fa fn K) (X : K.In h) (GG : h.Ns mainGlobals mg) (ct : tc.all (tupM K) = true) : TT P w K mg base (G0 K).ecls 15 tab12 :=
  .cons (G := G0 K) (base0 c X GG ct) (tab_11 c X GG ct) c X GG (d := d_made_wish) 11 rfl 3 rfl rfl rfl rfl sc_made_wish (fun x hx => by
    simp only [List.mem_cons, List.not_mem_nil, or_false] at hx
    rcases hx with rfl
    · exact ⟨_, rk_NoWishes c X GG⟩) mc_made_wish (fun _ _ _ _ _ _ _ us hl => match us, hl with | [_, _], _ => rfl) (body_made_wish rfl rfl)
def tab13 : Tabs := { tab12 with fn := ("made_wishes", spMWishes) :: tab12.fn }
theorem tab_13 (c : He.SaysD fa fn K) (X : K.In h) (GG : h.Ns mainGlobals mg) (ct : tc.all (tupM K) = true) : TT P w K mg base (G0 K).ecls 16 tab13 :=
  .cons (G := G0 K) (base0 c X GG ct) (tab_12 c X GG ct) c X GG (d := d_made_wishes) 12 rfl 4 rfl rfl rfl rfl sc_made_wishes (fun x hx => by
    simp only [List.mem_cons, List.not_mem_nil, or_false] at hx
    rcases hx with rfl
    · exact ⟨_, rk_NoWishes c X GG⟩) mc_made_wishes (fun _ _ _ _ _ _ _ us hl => match us, hl with | [_, _], _ => rfl) (body_made_wishes rfl rfl)
def tab14 : Tabs := { tab13 with fn := ("keeps", spKeeps) :: tab13.fn }
theorem tab_14 (c : He.SaysD fa fn K) (X : K.In h) (GG : h.Ns mainGlobals mg) (ct : tc.all (tupM K) = true) : TT P w K mg base (G0 K).ecls 17 tab14 :=
  .cons (G := G0 K) (base0 c X GG ct) (tab_13 c X GG ct) c X GG (d := d_keeps) 13 rfl 5 rfl rfl rfl rfl sc_keeps (fun _ h => by cases h) mc_keeps (fun _ _ _ _ _ _ _ us hl => match us, hl with | [_, _, _], _ => rfl) (body_keeps rfl)
def tab15 : Tabs := { tab14 with fn := ("grouped_points", spGrpP) :: tab14.fn }
theorem tab_15 (c : He.SaysD fa fn K) (X : K.In h) (GG : h.Ns mainGlobals mg) (ct : tc.all (tupM K) = true) : TT P w K mg base (G0 K).ecls 18 tab15 :=
  .cons (G := G0 K) (base0 c X GG ct) (tab_14 c X GG ct) c X GG (d := d_grouped_points) 14 rfl 6 rfl rfl rfl rfl sc_grouped_points (fun _ h => by cases h) mc_grouped_points (fun _ _ _ _ _ _ _ us hl => match us, hl with | [_, _], _ => rfl) (body_grouped_points ⟨rfl, rfl, rfl, rfl, rfl, rfl, rfl, rfl, rfl, rfl⟩ rfl rfl)
def tab16 : Tabs := { tab15 with fn := ("grouped", spGrp) :: tab15.fn }
theorem tab_16 (c : He.SaysD fa fn K) (X : K.In h) (GG : h.Ns mainGlobals mg) (ct : tc.all (tupM K) = true) : TT P w K mg base (G0 K).ecls 19 tab16 :=
  .cons (G := G0 K) (base0 c X GG ct) (tab_15 c X GG ct) c X GG (d := d_grouped) 15 rfl 7 rfl rfl rfl rfl sc_grouped (fun _ h => by cases h) mc_grouped (fun _ _ _ _ _ _ _ us hl => match us, hl with | [_, _], _ => rfl) (body_grouped rfl rfl)
def tab17 : Tabs := { tab16 with fn := ("_law_truth", spTruth) :: tab16.fn }
theorem tab_17 (c : He.SaysD fa fn K) (X : K.In h) (GG : h.Ns mainGlobals mg) (ct : tc.all (tupM K) = true) : TT P w K mg base (G0 K).ecls 20 tab17 :=
  .cons (G := G0 K) (base0 c X GG ct) (tab_16 c X GG ct) c X GG (d := d_Ltruth) 16 rfl 8 rfl rfl rfl rfl sc_Ltruth (fun _ h => by cases h) mc_Ltruth (fun _ _ _ _ _ _ _ us hl => match us, hl with | [_, _], _ => rfl) body_Ltruth
def tab18 : Tabs := { tab17 with fn := ("_law_stream", spStreamE) :: tab17.fn }
theorem tab_18 (c : He.SaysD fa fn K) (X : K.In h) (GG : h.Ns mainGlobals mg) (ct : tc.all (tupM K) = true) : TT P w K mg base (G0 K).ecls 21 tab18 :=
  .cons (G := G0 K) (base0 c X GG ct) (tab_17 c X GG ct) c X GG (d := d_LstreamE) 17 rfl 9 rfl rfl rfl rfl sc_LstreamE (fun _ h => by cases h) mc_LstreamE (fun _ _ _ _ _ _ _ us hl => match us, hl with | [_, _], _ => rfl) body_LstreamE
def tab19 : Tabs := { tab18 with fn := ("_law_next", spNx) :: tab18.fn }
theorem tab_19 (c : He.SaysD fa fn K) (X : K.In h) (GG : h.Ns mainGlobals mg) (ct : tc.all (tupM K) = true) : TT P w K mg base (G0 K).ecls 22 tab19 :=
  .cons (G := G0 K) (base0 c X GG ct) (tab_18 c X GG ct) c X GG (d := d_Lnx) 18 rfl 10 rfl rfl rfl rfl sc_Lnx (fun _ h => by cases h) mc_Lnx (fun _ _ _ _ _ _ _ us hl => match us, hl with | [_], _ => rfl) body_Lnx
def tab20 : Tabs := { tab19 with fn := ("_law_wishes", spW16) :: tab19.fn }
theorem tab_20 (c : He.SaysD fa fn K) (X : K.In h) (GG : h.Ns mainGlobals mg) (ct : tc.all (tupM K) = true) : TT P w K mg base (G0 K).ecls 23 tab20 :=
  .cons (G := G0 K) (base0 c X GG ct) (tab_19 c X GG ct) c X GG (d := d_Lw16) 19 rfl 11 rfl rfl rfl rfl sc_Lw16 (fun _ h => by cases h) mc_Lw16 (fun _ _ _ _ _ _ _ us hl => match us, hl with | [_, _], _ => rfl) (body_Lw16 rfl)
def tab21 : Tabs := { tab20 with fn := ("_law_sides", spSidesE) :: tab20.fn }
theorem tab_21 (c : He.SaysD fa fn K) (X : K.In h) (GG : h.Ns mainGlobals mg) (ct : tc.all (tupM K) = true) : TT P w K mg base (G0 K).ecls 24 tab21 :=
  .cons (G := G0 K) (base0 c X GG ct) (tab_20 c X GG ct) c X GG (d := d_LsidesE) 20 rfl 12 rfl rfl rfl rfl sc_LsidesE (fun _ h => by cases h) mc_LsidesE (fun _ _ _ _ _ _ _ us hl => match us, hl with | [_], _ => rfl) body_LsidesE
def tab22 : Tabs := { tab21 with fn := ("_law_keeps", spLkeeps) :: tab21.fn }
theorem tab_22 (c : He.SaysD fa fn K) (X : K.In h) (GG : h.Ns mainGlobals mg) (ct : tc.all (tupM K) = true) : TT P w K mg base (G0 K).ecls 25 tab22 :=
  .cons (G := G0 K) (base0 c X GG ct) (tab_21 c X GG ct) c X GG (d := d_Lkeeps) 21 rfl 13 rfl rfl rfl rfl sc_Lkeeps (fun _ h => by cases h) mc_Lkeeps (fun _ _ _ _ _ _ _ us hl => match us, hl with | [_, _], _ => rfl) body_Lkeeps
def tab23 : Tabs := { tab22 with fn := ("_law_follows", spFol) :: tab22.fn }
theorem tab_23 (c : He.SaysD fa fn K) (X : K.In h) (GG : h.Ns mainGlobals mg) (ct : tc.all (tupM K) = true) : TT P w K mg base (G0 K).ecls 26 tab23 :=
  .cons (G := G0 K) (base0 c X GG ct) (tab_22 c X GG ct) c X GG (d := d_Lfollows) 22 rfl 14 rfl rfl rfl rfl sc_Lfollows (fun _ h => by cases h) mc_Lfollows (fun _ _ _ _ _ _ _ us hl => match us, hl with | [_, _, _], _ => rfl) body_Lfollows
theorem ends (c : He.SaysD fa fn K) (X : K.In h) (GG : h.Ns mainGlobals mg) (ct : tc.all (tupM K) = true) {f : Addr} (hf : mg "law" = some (.ref f)) : ∃ (fd : FuncData) (ec : Str → Option Addr), (∀ (s : Shared) (us : List Value), us.length = 1 → BindsTo s fd ⟨us, []⟩ (P_law.zip us)) ∧
    ∀ base : Heap, K.In base → base.Ns mainGlobals mg → FnOk P w K mg base (L2.CX P w) 27 f fd P_law (lSp K ec spLawB) := by
  obtain ⟨fd, F⟩ := c.def_ 23 (d := d_law) rfl
  have e := hf.symm.trans (He.glo_ok X GG (c.fact 15 (f := .glo "law") rfl))
  cases e
  have b := FunD.bindsA (ps := P_law) F fun _ _ _ _ _ _ us hl => match us, hl with | [_], _ => rfl
  exact ⟨fd, (G0 K).ecls, fun s us hl => b s us hl, fun base _ _ => defM (G := (G0 K).with tab23) F sc_law (TT.gok (base0 c X GG ct) (tab_23 c X GG ct)) (fun _ h => by cases h) mc_law (lawB_of16 (body_law ⟨rfl, rfl, rfl, rfl, rfl, rfl, rfl, rfl, rfl⟩)) (base0 c X GG ct).rp⟩
end
end M
open PySem PySem.W PySem.Calls PyProof.Rows
theorem PySem.Challenge.cw_heavycut_k16_whole_groups_against_all_si_holds : PySem.Challenge.rw_heavycut_k16_whole_groups_against_all_si.Holds := by
  w_on; o_law
  refine HandSHeadRun.head_any (r := OpenLaw.row PySem.Challenge.rw_heavycut_k16_whole_groups_against_all_si) (q := view (OpenLaw.row PySem.Challenge.rw_heavycut_k16_whole_groups_against_all_si).prog [27]) (H := M.hookT 4 MH.fa MH.fn MH.tc) (ob := M.obsT 4 MH.fa MH.fn MH.tc) (M := 6000) (loose := MH.nms) (d := HandSHeadRun.topDef (OpenLaw.row PySem.Challenge.rw_heavycut_k16_whole_groups_against_all_si).prog 27) (kwd := []) M.obsT_eq
    (by kernel_rfl) (fun s => by kernel_rfl) MH.run (by kernel_rfl) (by kernel_rfl) (by kernel_rfl) (by rfl) (by first | assumption | decide +kernel) (by decide +kernel) ⟨rfl, rfl, rfl, rfl, rfl, by decide +kernel⟩ ?hw ?hc
  case hw => w_witness2
  case hc =>
    refine M.law_T (k := 27) (x := "_law_script") rfl (by kernel_rfl) ⟨rfl, by decide, by decide⟩ ?F
    intro w mg f h K X GG c ct hf
    have e : (HandSHeadRun.topDef (OpenLaw.row PySem.Challenge.rw_heavycut_k16_whole_groups_against_all_si).prog 27).name = ("law" : PySem.Str) := by kernel_rfl
    rw [e] at hf
    exact M.ends c X GG ct hf

