import PyProof.Rows.All
import Wide.All
import OpenK.AllK
import Wide.FinOn
import HandS.ForMost
import HandS.IsInst
import HandS.Deep
import HandS.Wide
import HandS.Style
import HandS.TupAny
import HandS.TupMul
import HandS.Zip
import HandS.Rev
import HandS.Conv
import HandS.Exc
import HandS.ExcOwn
import HandS.WordsExc
import HandS.Star
import HandS.Defaults
import KE.GoesMore
import HandS.SortKw
import KE.DatumOrd
import HandS.TryOnly
import HandS.HeadHook1
import HandS.HeadHook2
import HandS.Ends
import HandS.Head0
import HandS.Head1
import HandS.Head2
import KE.KStateDown
import HandS.HeadEnd
import PySem.Challenge.RW_typetells_k10_known_programs
set_option Elab.async false
set_option linter.all false
set_option maxRecDepth 100000
set_option maxHeartbeats 0
/-! PiCore: a small pure language: values, store, terms with slots, and what they ask (a predicate transformer). -/
namespace Pi
open PySem

/-- a value: tuples are trees, what can change is a reference; fls: a list that is only read -/
inductive D where
  | non | bl (b : Bool) | int (i : Int) | str (x : Str) | tup (xs : List D) | ref (a : Nat) | fn (x : Str) | cls (x : Str) | fls (xs : List D)
/-- what can change -/
inductive O where
  | lst (xs : List D) | dct (kvs : List (Str × D))
abbrev Sto := Nat → Option O
def put (S : Sto) (a : Nat) (o : O) : Sto := fun b => if b = a then some o else S b
theorem put_same {S : Sto} {a : Nat} {o : O} : put S a o a = some o := by unfold put; rw [if_pos rfl]
theorem put_ne {S : Sto} {a b : Nat} {o : O} (h : b ≠ a) : put S a o b = S b := by unfold put; rw [if_neg h]
abbrev KE := D → Sto → Prop
abbrev KL := List D → Sto → Prop
/-- an exception: its class, what it was made of -/
abbrev XE := Str → D → Sto → Prop
abbrev Fr := List (Option D)
abbrev CallT := Str → List D → Sto → KE → XE → Prop

/-- a list may be read -/
abbrev IsL (S : Sto) (a : Nat) (xs : List D) : Prop := S a = some (.lst xs)

/-! ### data -/
mutual
inductive PyOf (S : Sto) : D → PyData → Prop
  | non : PyOf S .non .none
  | bl (b : Bool) : PyOf S (.bl b) (.bool b)
  | int (i : Int) : PyOf S (.int i) (.int i)
  | str (x : Str) : PyOf S (.str x) (.str x)
  | tup {xs : List D} {ps : List PyData} : PyOfs S xs ps → PyOf S (.tup xs) (.tuple ps)
  | lst {a : Nat} {xs : List D} {ps : List PyData} : IsL S a xs → PyOfs S xs ps → PyOf S (.ref a) (.list ps)
inductive PyOfs (S : Sto) : List D → List PyData → Prop
  | nil : PyOfs S [] []
  | cons {x : D} {xs : List D} {p : PyData} {ps : List PyData} : PyOf S x p → PyOfs S xs ps → PyOfs S (x :: xs) (p :: ps)
end

/-- d[k] = v of a dict with text keys -/
def setK (kvs : List (Str × D)) (k : Str) (v : D) : List (Str × D) :=
  if (kvs.any fun p => decide (p.1 = k)) = true then kvs.map (fun p => if p.1 = k then (p.1, v) else p) else kvs ++ [(k, v)]
def getK (kvs : List (Str × D)) (k : Str) : Option D := (kvs.find? fun p => decide (p.1 = k)).map (·.2)

/-! ### operators -/
inductive BOp where | add | sub | mul | fdv | mod | pow
inductive COp where | eq | ne | lt | le | gt | ge | isin | notin | is_ | isnt
  deriving DecidableEq
def SmallI (i : Int) : Prop := -(2 ^ 64) < i ∧ i < 2 ^ 64
def rep (n : Nat) (xs : List D) : List D := (List.replicate n xs).flatten
def bopW : BOp → D → D → Sto → KE → Prop
  | .add, .int i, .int j, S, Q => Q (.int (i + j)) S
  | .add, .str x, .str y, S, Q => x.length + y.length ≤ sizeLine ∧ Q (.str (x ++ y)) S
  | .add, .ref a, .ref b, S, Q => ∃ xs ys, S a = some (.lst xs) ∧ S b = some (.lst ys) ∧ xs.length + ys.length ≤ sizeLine ∧ ∀ p, S p = none → Q (.ref p) (put S p (.lst (xs ++ ys)))
  | .add, .tup xs, .tup ys, S, Q => xs.length + ys.length ≤ sizeLine ∧ Q (.tup (xs ++ ys)) S
  | .sub, .int i, .int j, S, Q => Q (.int (i - j)) S
  | .mul, .int i, .int j, S, Q => (SmallI i ∨ SmallI j ∨ L2.CMulW i j) ∧ Q (.int (i * j)) S
  | .mul, .tup xs, .int k, S, Q => -(2 ^ 63) ≤ k ∧ k ≤ 1000 ∧ xs.length ≤ 1000 ∧ Q (.tup (rep k.toNat xs)) S
  | .mul, .ref a, .int k, S, Q => ∃ xs, S a = some (.lst xs) ∧ -(2 ^ 63) ≤ k ∧ k < 2 ^ 63 ∧ xs.length * k.toNat ≤ sizeLine ∧ ∀ p, S p = none → Q (.ref p) (put S p (.lst (rep k.toNat xs)))
  | .fdv, .int i, .int j, S, Q => (0 < j ∧ (j < 1073741824 ∨ j.natAbs.log2 < 9000)) ∧ Q (.int (i / j)) S
  | .mod, .int i, .int j, S, Q => 0 < j ∧ Q (.int (i % j)) S
  | .pow, .int i, .int j, S, Q => (0 ≤ j ∧ j ≤ 1000000 ∧ i.natAbs < 2 ^ 64) ∧ Q (.int (i ^ j.toNat)) S
  | _, _, _, _, _ => False
/-- x op= y -/
def augW : BOp → D → D → (D → Prop) → Prop
  | .add, .int i, .int j, q => q (.int (i + j))
  | .sub, .int i, .int j, q => q (.int (i - j))
  | .mul, .int i, .int j, q => (SmallI i ∨ SmallI j ∨ L2.CMulW i j) ∧ q (.int (i * j))
  | _, _, _, _ => False
/-- the values of one kind that == compares at once -/
def eqW (x y : D) (S : Sto) (q : Bool → Prop) : Prop :=
  match x, y with
  | .int i, .int j => q (decide (i = j))
  | .str a, .str b => q (decide (a = b))
  | .bl a, .bl b => q (decide (a = b))
  | .non, .non => q true
  | .non, .int _ => q false | .int _, .non => q false | .non, .bl _ => q false | .bl _, .non => q false | .non, .str _ => q false | .str _, .non => q false
  | .int _, .str _ => q false | .str _, .int _ => q false | .bl _, .str _ => q false | .str _, .bl _ => q false
  | x, y => ∃ d e, PyOf S x d ∧ PyOf S y e ∧ SeqAt.shaped d = true ∧ SeqAt.shaped e = true ∧ q (PyData.eqv d e)
def ltW (f : Int → Int → Bool) : D → D → (Bool → Prop) → Prop
  | .int i, .int j, q => q (f i j)
  | _, _, _ => False
def inW (x y : D) (S : Sto) (q : Bool → Prop) : Prop :=
  match x, y with
  | .str c, .str z => ∃ n : Nat, c = ⟨#[n]⟩ ∧ q (decide (n ∈ z.cps.toList))
  | x, .ref a => (∃ xs d ds, IsL S a xs ∧ PyOf S x d ∧ PyOfs S xs ds ∧ SeqAt.shaped d = true ∧ SeqAt.shaped (.list ds) = true ∧ q (ds.any fun z => PyData.eqv z d)) ∨
      ∃ kvs k, S a = some (.dct kvs) ∧ x = .str k ∧ q (getK kvs k).isSome
  | _, _ => False
def isNon : D → Bool
  | .non => true
  | _ => false
def copW : COp → D → D → Sto → (Bool → Prop) → Prop
  | .eq, x, y, S, q => eqW x y S q
  | .ne, x, y, S, q => eqW x y S fun b => q (!b)
  | .lt, x, y, _, q => ltW (fun i j => decide (i < j)) x y q
  | .le, x, y, _, q => ltW (fun i j => decide (i ≤ j)) x y q
  | .gt, x, y, _, q => ltW (fun i j => decide (j < i)) x y q
  | .ge, x, y, _, q => ltW (fun i j => decide (j ≤ i)) x y q
  | .isin, x, y, S, q => inW x y S q
  | .notin, x, y, S, q => inW x y S fun b => q (!b)
  | .is_, x, .non, _, q => q (isNon x)
  | .isnt, x, .non, _, q => q (!isNon x)
  | _, _, _, _, _ => False

/-! ### subscripts -/
def cutD (xs : List D) (lo hi : Option Int) : List D := (xs.drop (HT.sIx xs.length 0 lo)).take (HT.sIx xs.length xs.length hi - HT.sIx xs.length 0 lo)
def idxW : D → D → Sto → KE → Prop
  | .tup xs, .int i, S, Q => ∃ v, L2.atI xs i = some v ∧ Q v S
  | .ref a, .int i, S, Q => ∃ xs v, IsL S a xs ∧ L2.atI xs i = some v ∧ Q v S
  | .ref a, .str k, S, Q => ∃ kvs v, S a = some (.dct kvs) ∧ getK kvs k = some v ∧ Q v S
  | .str z, .int i, S, Q => z.length ≤ sizeLine ∧ ∃ c, L2.atI z.cps.toList i = some c ∧ Q (.str ⟨#[c]⟩) S
  | _, _, _, _ => False
def slcW : D → Option Int → Option Int → Sto → KE → Prop
  | .tup xs, lo, hi, S, Q => Q (.tup (cutD xs lo hi)) S
  | .ref a, lo, hi, S, Q => ∃ xs, IsL S a xs ∧ ∀ p, S p = none → Q (.ref p) (put S p (.lst (cutD xs lo hi)))
  | .str z, lo, hi, S, Q => z.length ≤ sizeLine ∧ Q (.str (L2.cutS z lo hi)) S
  | _, _, _, _, _ => False
def stoW : D → D → D → Sto → (Sto → Prop) → Prop
  | .ref a, .str k, v, S, q => ∃ kvs, S a = some (.dct kvs) ∧ kvs.length < 1000 ∧ q (put S a (.dct (setK kvs k v)))
  | .ref a, .int i, v, S, q => ∃ xs j, S a = some (.lst xs) ∧ L2.ixN xs.length i = some j ∧ q (put S a (.lst (xs.set j v)))
  | _, _, _, _, _ => False

/-! ### built-ins -/
inductive Ty where | str | tuple | int | bool | list | dict
  deriving DecidableEq
def tyOf (S : Sto) : D → Option Ty
  | .bl _ => some .bool
  | .int _ => some .int
  | .str _ => some .str
  | .tup _ => some .tuple
  | .fls _ => some .list
  | .ref a => match S a with
    | some (.lst _) => some .list
    | some (.dct _) => some .dict
    | none => none
  | _ => none
def isTy (t : Ty) (u : Ty) : Bool := t = u || (t = .bool && u = .int)
/-- isinstance: None is of no type here; what cannot be told is not asked -/
def isiW (x : D) (ts : List Ty) (S : Sto) (q : Bool → Prop) : Prop :=
  match x with
  | .non => q false
  | x => ∃ t, tyOf S x = some t ∧ q (ts.any (isTy t))
inductive Bi where | len | int | abs | max | min | tuple | list | all | any | sum | repr | lrange
def allB : List D → Option Bool
  | [] => some true
  | .bl b :: r => (allB r).map (b && ·)
  | _ => none
def anyB : List D → Option Bool
  | [] => some false
  | .bl b :: r => (anyB r).map (b || ·)
  | _ => none
def intsB : List D → Option (List Int)
  | [] => some []
  | .int i :: r => (intsB r).map (i :: ·)
  | _ => none
def biW : Bi → List D → Sto → KE → Prop
  | .len, [.str z], S, Q => z.length ≤ sizeLine ∧ Q (.int z.length) S
  | .len, [.tup xs], S, Q => Q (.int xs.length) S
  | .len, [.fls xs], S, Q => Q (.int xs.length) S
  | .len, [.ref a], S, Q => (∃ xs, IsL S a xs ∧ Q (.int xs.length) S)
  | .int, [.int i], S, Q => Q (.int i) S
  | .int, [.bl b], S, Q => Q (.int (if b then 1 else 0)) S
  | .abs, [.int i], S, Q => Q (.int (if i < 0 then -i else i)) S
  | .max, [.int i, .int j], S, Q => Q (.int (if j > i then j else i)) S
  | .min, [.int i, .int j], S, Q => Q (.int (if j < i then j else i)) S
  | .max, [.ref a], S, Q => ∃ xs ns, IsL S a xs ∧ intsB xs = some ns ∧ 0 < ns.length ∧ ∀ m, m ∈ ns → (∀ y, y ∈ ns → y ≤ m) → Q (.int m) S
  | .min, [.ref a], S, Q => ∃ xs ns, IsL S a xs ∧ intsB xs = some ns ∧ 0 < ns.length ∧ ∀ m, m ∈ ns → (∀ y, y ∈ ns → m ≤ y) → Q (.int m) S
  | .tuple, [.ref a], S, Q => ∃ xs, IsL S a xs ∧ Q (.tup xs) S
  | .tuple, [.tup xs], S, Q => Q (.tup xs) S
  | .list, [.ref a], S, Q => ∃ xs, IsL S a xs ∧ ∀ p, S p = none → Q (.ref p) (put S p (.lst xs))
  | .list, [.tup xs], S, Q => ∀ p, S p = none → Q (.ref p) (put S p (.lst xs))
  | .list, [.str z], S, Q => z.length ≤ 1000 ∧ ∀ p, S p = none → Q (.ref p) (put S p (.lst (z.cps.toList.map fun c => .str ⟨#[c]⟩)))
  | .all, [.ref a], S, Q => ∃ xs b, IsL S a xs ∧ allB xs = some b ∧ Q (.bl b) S
  | .any, [.ref a], S, Q => ∃ xs b, IsL S a xs ∧ anyB xs = some b ∧ Q (.bl b) S
  | .sum, [.ref a], S, Q => ∃ xs ns, IsL S a xs ∧ intsB xs = some ns ∧ Q (.int ns.sum) S
  | .repr, [x], S, Q => ∃ d, PyOf S x d ∧ d.showable = true ∧ d.hasDict = false ∧ d.depth ≤ 64 ∧ d.shown.length ≤ sizeLine ∧ Q (.str d.shown) S
  | _, _, _, _ => False
/-- max(.., default=d) -/
def mxdW : D → D → Sto → KE → Prop
  | .ref a, d, S, Q => ∃ xs ns, IsL S a xs ∧ intsB xs = some ns ∧ (ns = [] → Q d S) ∧ (ns ≠ [] → ∀ m, m ∈ ns → (∀ y, y ∈ ns → y ≤ m) → Q (.int m) S)
  | _, _, _, _ => False
inductive Mt where | append | extend | pop | popAt | join
def textsB : List D → Option (List Str)
  | [] => some []
  | .str i :: r => (textsB r).map (i :: ·)
  | _ => none
def mtW : Mt → D → List D → Sto → KE → Prop
  | .append, .ref a, [v], S, Q => ∃ xs, S a = some (.lst xs) ∧ xs.length < sizeLine ∧ Q .non (put S a (.lst (xs ++ [v])))
  | .extend, .ref a, [.ref b], S, Q => ∃ xs ys, S a = some (.lst xs) ∧ S b = some (.lst ys) ∧ xs.length + ys.length ≤ sizeLine ∧ Q .non (put S a (.lst (xs ++ ys)))
  | .pop, .ref a, [], S, Q => ∃ xs v, S a = some (.lst xs) ∧ xs[xs.length - 1]? = some v ∧ Q v (put S a (.lst xs.dropLast))
  | .popAt, .ref a, [.int i], S, Q => ∃ xs k v, S a = some (.lst xs) ∧ -(2 ^ 63) ≤ i ∧ i < 2 ^ 63 ∧ seqIndex? i xs.length = some k ∧ xs[k]? = some v ∧ Q v (put S a (.lst (xs.eraseIdx k)))
  | .join, .str z, [.ref a], S, Q => ∃ xs ys, IsL S a xs ∧ textsB xs = some ys ∧ (ys.map Str.length).sum + z.length * ys.length ≤ 16777216 ∧ Q (.str (Txt.join z ys)) S
  | _, _, _, _, _ => False

/-- whose method it may be -/
def rcvW : Mt → D → Sto → Prop
  | .join, .str _, _ => True
  | .join, _, _ => False
  | _, .ref a, S => ∃ xs, IsL S a xs
  | _, _, _ => False
/-! ### terms -/
mutual
inductive IE where
  | var (i : Nat)
  | lit (d : D)
  | glo (x : Str) (d : D)
  | bin (op : BOp) (a b : IE)
  | neg (a : IE)
  | cmp (op : COp) (a b : IE)
  | chn (op op' : COp) (a b c : IE)
  | inv (a : IE)
  | boo (isAnd : Bool) (es : IEs)
  | ife (t a b : IE)
  | tup (es : IEs)
  | lst (es : IEs)
  | dis (ks : List Str) (es : IEs)
  | cal (f : Str) (es : IEs)
  | cak (f : Str) (es : IEs) (ks : List Str) (vs : IEs) (rs : List Str)
  | bui (b : Bi) (es : IEs)
  | mxd (a d : IE)
  | isi (a : IE) (ts : List Ty)
  | met (m : Mt) (a : IE) (es : IEs)
  | idx (a i : IE)
  | slc (a : IE) (lo hi : IEs)
  | lc (elt : IE) (own : List Nat) (tg : List Nat) (tup : Bool) (it : II) (ifs : IEs)
  | lcc (elt : IE) (own : List Nat) (tg : List Nat) (tup : Bool) (it : II) (vs : List Nat) (tg1 : List Nat) (tup1 : Bool) (it1 : II)
inductive IEs where
  | nil
  | cons (e : IE) (r : IEs)
  | star (e : IE) (r : IEs)
inductive II where
  | of (e : IE)
  | rng (es : IEs)
  | enu (e : IE)
  | zip (a b : IE)
end
mutual
inductive IS where
  | asg (tg : List Nat) (tup : Bool) (e : IE)
  | par (tg : List Nat) (es : IEs)
  | sto (o i e : IE)
  | aug (i : Nat) (op : BOp) (e : IE)
  | exp (e : IE)
  | iff (c : IE) (a b : ISs)
  | whl (c : IE) (b : ISs)
  | for_ (tg : List Nat) (tup : Bool) (it : II) (b : ISs)
  | ret (e : IE)
  | retN
  | brk
  | cnt
  | pas
  | rai (c : Str) (es : IEs)
inductive ISs where
  | nil
  | cons (s : IS) (r : ISs)
end

/-! ### what they ask -/
structure Src where
  items : List D
  ok : Sto → Prop
structure End where
  nx : Fr → Sto → Prop
  rt : KE
  bk : Fr → Sto → Prop := fun _ _ => False
  ct : Fr → Sto → Prop := fun _ _ => False
def wipeF (φ : Fr) : List Nat → Fr
  | [] => φ
  | v :: vs => (wipeF φ vs).set v none
def setF (φ : Fr) : List Nat → List D → Fr
  | i :: is, d :: ds => setF (φ.set i (some d)) is ds
  | _, _ => φ
/-- a target takes an item -/
def tgW (tg : List Nat) (tup : Bool) (d : D) (S : Sto) (φ : Fr) (q : Fr → Prop) : Prop :=
  if tup then ∃ xs, (d = .tup xs ∨ ∃ a, d = .ref a ∧ IsL S a xs) ∧ xs.length = tg.length ∧ q (setF φ tg xs) else ∃ i, tg = [i] ∧ q (φ.set i (some d))
def loopW {α : Type} (ok : Sto → Prop) (step : D → α → Sto → (α → Sto → Prop) → Prop) (fin : α → Sto → Prop) : List D → α → Sto → Prop
  | [], a, S => ok S ∧ fin a S
  | d :: r, a, S => ok S ∧ step d a S fun a1 S1 => loopW ok step fin r a1 S1
def whlW (c : Fr → Sto → KE → Prop) (b : End → Fr → Sto → Prop) (D : End) : Nat → Fr → Sto → Prop
  | 0, _, _ => False
  | n + 1, φ, S => c φ S fun d S1 => ∃ k, d = .bl k ∧ (if k = true then b { D with nx := whlW c b D n, ct := whlW c b D n, bk := D.nx } φ S1 else D.nx φ S1)
/-- what a for walks -/
def srcW (d : D) (S : Sto) (q : Src → Prop) : Prop :=
  match d with
  | .tup xs => q ⟨xs, fun _ => True⟩
  | .fls xs => q ⟨xs, fun _ => True⟩
  | .str z => q ⟨z.cps.toList.map fun c => .str ⟨#[c]⟩, fun _ => True⟩
  | .ref a => ∃ xs, IsL S a xs ∧ q ⟨xs, fun S' => IsL S' a xs⟩
  | _ => False
def seqW (d : D) (S : Sto) (q : List D → (Sto → Prop) → Prop) : Prop :=
  match d with
  | .tup xs => q xs fun _ => True
  | .ref a => ∃ xs, IsL S a xs ∧ q xs fun S' => IsL S' a xs
  | _ => False
def numbered : Nat → List D → List D
  | _, [] => []
  | n, x :: r => .tup [.int n, x] :: numbered (n + 1) r
def zipped (xs ys : List D) : List D := (xs.zip ys).map fun p => .tup [p.1, p.2]
def enuW (d : D) (S : Sto) (q : Src → Prop) : Prop :=
  match d with
  | .ref a => ∃ xs, IsL S a xs ∧ q ⟨numbered 0 xs, fun S' => IsL S' a xs⟩
  | .tup xs => q ⟨numbered 0 xs, fun _ => True⟩
  | _ => False
def zipW (d e : D) (S : Sto) (q : Src → Prop) : Prop :=
  match d, e with
  | .ref a, .ref b => ∃ xs ys, IsL S a xs ∧ IsL S b ys ∧ q ⟨zipped xs ys, fun S' => IsL S' a xs ∧ IsL S' b ys⟩
  | .tup xs, .tup ys => q ⟨zipped xs ys, fun _ => True⟩
  | _, _ => False
def intsF (lo : Int) (n : Nat) : List D := (List.range n).map fun i => .int (lo + (i : Nat))
def Big (i : Int) : Prop := -(2 ^ 62) ≤ i ∧ i < 2 ^ 62
def rngW : List D → (Src → Prop) → Prop
  | [.int j], q => Big j ∧ q ⟨intsF 0 j.toNat, fun _ => True⟩
  | [.int i, .int j], q => (Big i ∧ Big j) ∧ q ⟨intsF i (j - i).toNat, fun _ => True⟩
  | _, _ => False
def dispK : List (Str × D) → List Str → List D → List (Str × D)
  | kvs, k :: ks, v :: vs => dispK (setK kvs k v) ks vs
  | kvs, _, _ => kvs
/-- the values of keywords, in the parameters' order -/
def arr (ks : List Str) (ds : List D) (rs : List Str) : List D := rs.map fun r => ((ks.zip ds).lookup r).getD .non
abbrev XF : XE := fun _ _ _ => False
mutual
def wE (C : CallT) : IE → Fr → Sto → KE → XE → Prop
  | .var i, φ, S, Q, _ => ∃ d, φ[i]? = some (some d) ∧ Q d S
  | .lit d, _, S, Q, _ => Q d S
  | .glo _ d, _, S, Q, _ => Q d S
  | .bin op a b, φ, S, Q, E => wE C a φ S (fun x S1 => wE C b φ S1 (fun y S2 => bopW op x y S2 Q) E) E
  | .neg a, φ, S, Q, E => wE C a φ S (fun x S1 => ∃ i, x = .int i ∧ Q (.int (-i)) S1) E
  | .cmp op a b, φ, S, Q, E => wE C a φ S (fun x S1 => wE C b φ S1 (fun y S2 => copW op x y S2 fun k => Q (.bl k) S2) E) E
  | .chn op op' a b c, φ, S, Q, E => wE C a φ S (fun x S1 => wE C b φ S1 (fun y S2 => copW op x y S2 fun k =>
      if k = true then wE C c φ S2 (fun z S3 => copW op' y z S3 fun k' => Q (.bl k') S3) E else Q (.bl false) S2) E) E
  | .inv a, φ, S, Q, E => wE C a φ S (fun x S1 => ∃ k, x = .bl k ∧ Q (.bl (!k)) S1) E
  | .boo k es, φ, S, Q, E => wB C k es φ S Q E
  | .ife t a b, φ, S, Q, E => wE C t φ S (fun x S1 => ∃ k, x = .bl k ∧ if k = true then wE C a φ S1 Q E else wE C b φ S1 Q E) E
  | .tup es, φ, S, Q, E => wL C es φ S (fun ds S1 => ds.length ≤ sizeLine ∧ Q (.tup ds) S1) E
  | .lst es, φ, S, Q, E => wL C es φ S (fun ds S1 => ds.length ≤ sizeLine ∧ ∀ p, S1 p = none → Q (.ref p) (put S1 p (.lst ds))) E
  | .dis ks es, φ, S, Q, E => wL C es φ S (fun ds S1 => ds.length = ks.length ∧ ∀ p, S1 p = none → Q (.ref p) (put S1 p (.dct (dispK [] ks ds)))) E
  | .cal f es, φ, S, Q, E => wL C es φ S (fun ds S1 => C f ds S1 Q E) E
  | .cak f es ks vs rs, φ, S, Q, E => wL C es φ S (fun ds S1 => wL C vs φ S1 (fun es S2 => es.length = ks.length ∧ C f (ds ++ arr ks es rs) S2 Q E) E) E
  | .bui b es, φ, S, Q, E => wL C es φ S (fun ds S1 => biW b ds S1 Q) E
  | .mxd a e, φ, S, Q, E => wE C a φ S (fun x S1 => wE C e φ S1 (fun y S2 => mxdW x y S2 Q) E) E
  | .isi a ts, φ, S, Q, E => wE C a φ S (fun x S1 => isiW x ts S1 fun k => Q (.bl k) S1) E
  | .met m a es, φ, S, Q, E => wE C a φ S (fun x S1 => rcvW m x S1 ∧ wL C es φ S1 (fun ds S2 => mtW m x ds S2 Q) E) E
  | .idx a i, φ, S, Q, E => wE C a φ S (fun x S1 => wE C i φ S1 (fun y S2 => idxW x y S2 Q) E) E
  | .slc a lo hi, φ, S, Q, E => wE C a φ S (fun x S1 => wO C lo φ S1 (fun l S2 => wO C hi φ S2 (fun h S3 => slcW x l h S3 Q) E) E) E
  | .lc elt own tg tup it ifs, φ, S, Q, E => wI C it φ S (fun src S1 => loopW src.ok (fun d acc S2 N => tgW tg tup d S2 (wipeF φ own) fun φ2 =>
        wB C true ifs φ2 S2 (fun x S3 => ∃ k, x = .bl k ∧ if k = true then wE C elt φ2 S3 (fun y S4 => acc.length < sizeLine ∧ N (acc ++ [y]) S4) XF else N acc S3) XF)
      (fun acc S5 => ∀ p, S5 p = none → Q (.ref p) (put S5 p (.lst acc))) src.items [] S1) E
  | .lcc elt own tg tup it vs tg1 tup1 it1, φ, S, Q, E => wI C it φ S (fun src S1 => loopW src.ok (fun d acc S2 N => tgW tg tup d S2 (wipeF φ own) fun φ2 =>
        wI C it1 φ2 S2 (fun src1 S3 => loopW src1.ok (fun d1 acc S4 N1 => tgW tg1 tup1 d1 S4 (wipeF φ2 vs) fun φ3 => wE C elt φ3 S4 (fun y S5 => acc.length < sizeLine ∧ N1 (acc ++ [y]) S5) XF) N src1.items acc S3) XF)
      (fun acc S5 => ∀ p, S5 p = none → Q (.ref p) (put S5 p (.lst acc))) src.items [] S1) E
def wL (C : CallT) : IEs → Fr → Sto → KL → XE → Prop
  | .nil, _, S, Q, _ => Q [] S
  | .cons e r, φ, S, Q, E => wE C e φ S (fun d S1 => wL C r φ S1 (fun ds S2 => Q (d :: ds) S2) E) E
  | .star e r, φ, S, Q, E => wE C e φ S (fun d S1 => seqW d S1 fun xs _ => wL C r φ S1 (fun ds S2 => Q (xs ++ ds) S2) E) E
/-- a part of a slice -/
def wO (C : CallT) : IEs → Fr → Sto → (Option Int → Sto → Prop) → XE → Prop
  | .nil, _, S, Q, _ => Q none S
  | .cons e _, φ, S, Q, E => wE C e φ S (fun d S1 => ∃ i, d = .int i ∧ Q (some i) S1) E
  | .star _ _, _, _, _, _ => False
/-- and, or; no part: True, False -/
def wB (C : CallT) (k : Bool) : IEs → Fr → Sto → KE → XE → Prop
  | .nil, _, S, Q, _ => Q (.bl k) S
  | .cons e .nil, φ, S, Q, E => wE C e φ S Q E
  | .cons e r, φ, S, Q, E => wE C e φ S (fun x S1 => ∃ c, x = .bl c ∧ if c = k then wB C k r φ S1 Q E else Q (.bl c) S1) E
  | .star _ _, _, _, _, _ => False
def wI (C : CallT) : II → Fr → Sto → (Src → Sto → Prop) → XE → Prop
  | .of e, φ, S, R, E => wE C e φ S (fun d S1 => srcW d S1 fun s => R s S1) E
  | .rng es, φ, S, R, E => wL C es φ S (fun ds S1 => rngW ds fun s => R s S1) E
  | .enu e, φ, S, R, E => wE C e φ S (fun d S1 => enuW d S1 fun s => R s S1) E
  | .zip a b, φ, S, R, E => wE C a φ S (fun x S1 => wE C b φ S1 (fun y S2 => zipW x y S2 fun s => R s S2) E) E
end
abbrev XS := Str → D → Fr → Sto → Prop
mutual
def wS (C : CallT) : IS → End → XS → Fr → Sto → Prop
  | .asg tg tup e, D, E, φ, S => wE C e φ S (fun d S1 => tgW tg tup d S1 φ fun φ1 => D.nx φ1 S1) fun c a S1 => E c a φ S1
  | .par tg es, D, E, φ, S => wL C es φ S (fun ds S1 => ds.length = tg.length ∧ D.nx (setF φ tg ds) S1) fun c a S1 => E c a φ S1
  | .sto o i e, D, E, φ, S => wE C e φ S (fun v S1 => wE C o φ S1 (fun x S2 => wE C i φ S2 (fun y S3 => stoW x y v S3 fun S4 => D.nx φ S4) fun c a S' => E c a φ S') fun c a S' => E c a φ S') fun c a S' => E c a φ S'
  | .aug i op e, D, E, φ, S => ∃ x, φ[i]? = some (some x) ∧ wE C e φ S (fun y S1 => augW op x y fun z => D.nx (φ.set i (some z)) S1) fun c a S' => E c a φ S'
  | .exp e, D, E, φ, S => wE C e φ S (fun _ S1 => D.nx φ S1) fun c a S' => E c a φ S'
  | .iff c a b, D, E, φ, S => wE C c φ S (fun d S1 => ∃ k, d = .bl k ∧ if k = true then wSs C a D E φ S1 else wSs C b D E φ S1) fun c a S' => E c a φ S'
  | .whl c b, D, E, φ, S => ∃ n, whlW (fun φ S Q => wE C c φ S Q fun c a S' => E c a φ S') (fun D φ S => wSs C b D E φ S) D n φ S
  | .for_ tg tup it b, D, E, φ, S => wI C it φ S (fun src S1 => loopW src.ok (fun d φ S2 N => tgW tg tup d S2 φ fun φ1 => wSs C b { D with nx := N, ct := N, bk := D.nx } E φ1 S2) D.nx src.items φ S1) fun c a S' => E c a φ S'
  | .ret e, D, E, φ, S => wE C e φ S D.rt fun c a S' => E c a φ S'
  | .retN, D, _, _, S => D.rt .non S
  | .brk, D, _, φ, S => D.bk φ S
  | .cnt, D, _, φ, S => D.ct φ S
  | .pas, D, _, φ, S => D.nx φ S
  | .rai c es, _, E, φ, S => wL C es φ S (fun ds S1 => ∃ x, ds = [.str x] ∧ E c (.str x) φ S1) fun c a S' => E c a φ S'
def wSs (C : CallT) : ISs → End → XS → Fr → Sto → Prop
  | .nil, D, _, φ, S => D.nx φ S
  | .cons s r, D, E, φ, S => wS C s { D with nx := fun φ1 S1 => wSs C r D E φ1 S1 } E φ S
end

/-- a def: how many slots, how many parameters, its body -/
structure FD where
  ps : List Str
  n : Nat
  body : ISs
abbrev Tab := List (Str × FD)
def startF (n : Nat) (ds : List D) : Fr := ds.map some ++ List.replicate (n - ds.length) none
def wC (Φ : Tab) : Nat → CallT
  | 0 => fun _ _ _ _ _ => False
  | k + 1 => fun f ds S Q E => ∃ fd, Φ.lookup f = some fd ∧ ds.length = fd.ps.length ∧ wSs (wC Φ k) fd.body { nx := fun _ S' => Q .non S', rt := Q } (fun c a _ S' => E c a S') (startF fd.n ds) S
end Pi

/-! PiMono: what is asked grows with what is wanted. -/
namespace Pi
open PySem
theorem eqW_mono {x y : D} {S : Sto} {q r : Bool → Prop} (h : ∀ b, q b → r b) (a : eqW x y S q) : eqW x y S r := by
  unfold eqW at a ⊢
  split at a <;> first
    | exact h _ a
    | (obtain ⟨d, e, h1, h2, h3, h4, h5⟩ := a; exact ⟨d, e, h1, h2, h3, h4, h _ h5⟩)
theorem ltW_mono {f : Int → Int → Bool} {x y : D} {q r : Bool → Prop} (h : ∀ b, q b → r b) (a : ltW f x y q) : ltW f x y r := by
  unfold ltW at a ⊢
  split at a
  · exact h _ a
  · exact a.elim
theorem inW_mono {x y : D} {S : Sto} {q r : Bool → Prop} (h : ∀ b, q b → r b) (a : inW x y S q) : inW x y S r := by
  unfold inW at a ⊢
  split at a
  · obtain ⟨n, h1, h2⟩ := a; exact ⟨n, h1, h _ h2⟩
  · rcases a with ⟨xs, d, ds, h1, h2, h3, h4, h5, h6⟩ | ⟨kvs, k, h1, h2, h3⟩
    · exact .inl ⟨xs, d, ds, h1, h2, h3, h4, h5, h _ h6⟩
    · exact .inr ⟨kvs, k, h1, h2, h _ h3⟩
  · exact a.elim
theorem copW_mono {op : COp} {x y : D} {S : Sto} {q r : Bool → Prop} (h : ∀ b, q b → r b) (a : copW op x y S q) : copW op x y S r := by
  cases op with
  | eq => exact eqW_mono h a
  | ne => exact eqW_mono (fun b z => h _ z) a
  | lt => exact ltW_mono h a
  | le => exact ltW_mono h a
  | gt => exact ltW_mono h a
  | ge => exact ltW_mono h a
  | isin => exact inW_mono h a
  | notin => exact inW_mono (fun b z => h _ z) a
  | is_ => cases y <;> first | exact False.elim a | exact h _ a
  | isnt => cases y <;> first | exact False.elim a | exact h _ a
end Pi

/-! PiRel: how the pure values and stores lie in the hand layer's heaps. -/
namespace Pi
open PySem L2
/-- a list that is only read -/
def SqF (K : PySem.W.Frag) (H : Hp) (a : Addr) (vs : List V) : Prop := SqL K H a vs ∧ ((∃ o, H a = some (.frz o (.lst vs))) ∨ ∀ H', SqL K H' a vs)
section
variable (K : PySem.W.Frag) (mg : Str → Option Value)
mutual
inductive Rp (H : Hp) : V → D → Prop
  | non : Rp H .non .non
  | bl (b : Bool) : Rp H (.bl b) (.bl b)
  | int (i : Int) : Rp H (.int i) (.int i)
  | str (x : Str) : Rp H (.str x) (.str x)
  | tup {a : Addr} {vs : List V} {ds : List D} : SqT K H a vs → Rps H vs ds → Rp H (.ref a) (.tup ds)
  | ref (a : Addr) : Rp H (.ref a) (.ref a)
  | fn {x : Str} {f : Addr} : mg x = some (.ref f) → Rp H (.ref f) (.fn x)
  | cls {x : Str} {f : Addr} : mg x = some (.ref f) → Rp H (.ref f) (.cls x)
  | fls {a : Addr} {vs : List V} {ds : List D} : SqF K H a vs → Rps H vs ds → Rp H (.ref a) (.fls ds)
inductive Rps (H : Hp) : List V → List D → Prop
  | nil : Rps H [] []
  | cons {v : V} {vs : List V} {d : D} {ds : List D} : Rp H v d → Rps H vs ds → Rps H (v :: vs) (d :: ds)
end
def KVr (H : Hp) (kv : List (Key × V)) (kd : List (Str × D)) : Prop := Paired (fun p q => p.1 = Sum.inr q.1 ∧ Rp K mg H p.2 q.2) kv kd
def SRo (H : Hp) (a : Addr) : O → Prop
  | .lst ds => ∃ vs, H a = some (.lst vs) ∧ Rps K mg H vs ds
  | .dct kd => ∃ kv, H a = some (.dK kv) ∧ KVr K mg H kv kd
def SR (S : Sto) (H : Hp) : Prop := ∀ a o, S a = some o → SRo K mg H a o
/-- what is tracked and no part of the store stays, and stays so -/
def Ev (S : Sto) (H : Hp) (S' : Sto) (H' : Hp) : Prop := ∀ a o, H a = some o → S a = none → H' a = some o ∧ S' a = none
theorem Ev.refl {S : Sto} {H : Hp} : Ev S H S H := fun _ _ h s => ⟨h, s⟩
theorem Ev.trans {S S1 S2 : Sto} {H H1 H2 : Hp} (a : Ev S H S1 H1) (b : Ev S1 H1 S2 H2) : Ev S H S2 H2 := fun c o h s => let ⟨h1, s1⟩ := a c o h s; b c o h1 s1
/-- tuples stay, and lists that are only read -/
def Tk (H H' : Hp) : Prop := (∀ a xs, SqT K H a xs → SqT K H' a xs) ∧ ∀ a xs, SqF K H a xs → SqF K H' a xs
variable {K mg}
theorem Tk.refl {H : Hp} : Tk K H H := ⟨fun _ _ h => h, fun _ _ h => h⟩
theorem Tk.trans {H H1 H2 : Hp} (a : Tk K H H1) (b : Tk K H1 H2) : Tk K H H2 := ⟨fun c xs h => b.1 c xs (a.1 c xs h), fun c xs h => b.2 c xs (a.2 c xs h)⟩
mutual
theorem Rp.mono {H H' : Hp} (t : Tk K H H') : ∀ {d : D} {v : V}, Rp K mg H v d → Rp K mg H' v d
  | .non, _, h => by cases h; exact .non
  | .bl b, _, h => by cases h; exact .bl b
  | .int b, _, h => by cases h; exact .int b
  | .str b, _, h => by cases h; exact .str b
  | .tup ds, _, h => by cases h with | tup q r => exact .tup (t.1 _ _ q) (Rps.mono t r)
  | .ref a, _, h => by cases h; exact .ref a
  | .fn x, _, h => by cases h with | fn q => exact .fn q
  | .cls x, _, h => by cases h with | cls q => exact .cls q
  | .fls ds, _, h => by cases h with | fls q r => exact .fls (t.2 _ _ q) (Rps.mono t r)
theorem Rps.mono {H H' : Hp} (t : Tk K H H') : ∀ {ds : List D} {vs : List V}, Rps K mg H vs ds → Rps K mg H' vs ds
  | [], _, h => by cases h; exact .nil
  | d :: ds, _, h => by cases h with | cons q r => exact .cons (Rp.mono t q) (Rps.mono t r)
end
theorem KVr.mono {H H' : Hp} (t : Tk K H H') {kv : List (Key × V)} {kd : List (Str × D)} (h : KVr K mg H kv kd) : KVr K mg H' kv kd := Paired.mapP h fun _ _ z => ⟨z.1, z.2.mono t⟩
/-- no store's object -/
def NoS (H : Hp) (a : Addr) : Prop := (∃ xs, Rd H a (.tup xs)) ∨ (∃ o xs, H a = some (.frz o (.lst xs))) ∨ H a = none
theorem SR.noS {S : Sto} {H : Hp} (s : SR K mg S H) {a : Addr} (h : NoS H a) : S a = none := by
  cases e : S a with
  | none => rfl
  | some o =>
    exfalso
    have q := s a o e
    have r : ∃ vs, H a = some (.lst vs) ∨ ∃ kv, H a = some (.dK kv) := by
      cases o with
      | lst ds => obtain ⟨vs, z, _⟩ := q; exact ⟨vs, .inl z⟩
      | dct kd => obtain ⟨vs, z, _⟩ := q; exact ⟨[], .inr ⟨vs, z⟩⟩
    obtain ⟨vs, r⟩ := r
    rcases h with ⟨xs, h | ⟨ob, h⟩⟩ | ⟨ob, xs, h⟩ | h <;> rcases r with r | ⟨kv, r⟩ <;> (rw [h] at r; cases r)
theorem SR.free {S : Sto} {H : Hp} (s : SR K mg S H) {p : Addr} (h : H p = none) : S p = none := s.noS (.inr (.inr h))
theorem Ev.tk {S S' : Sto} {H H' : Hp} (e : Ev S H S' H') (s : SR K mg S H) : Tk K H H' := by
  refine ⟨fun a xs h => ?_, fun a xs h => ?_⟩
  · rcases h with h | h
    · have n := s.noS (.inl ⟨xs, h⟩)
      rcases h with h | ⟨o, h⟩
      · exact .inl (.inl (e _ _ h n).1)
      · exact .inl (.inr ⟨o, (e _ _ h n).1⟩)
    · exact .inr h
  · obtain ⟨h1, h2⟩ := h
    rcases h2 with ⟨o, h2⟩ | h2
    · have n := s.noS (.inr (.inl ⟨o, xs, h2⟩))
      have z := (e _ _ h2 n).1
      exact ⟨.inl (.inr ⟨o, z⟩), .inl ⟨o, z⟩⟩
    · exact ⟨h2 H', .inr h2⟩
/-- frames -/
def FR (K : PySem.W.Frag) (mg : Str → Option Value) (H : Hp) (σ : L2.St) (φ : Fr) : Prop := φ.length = σ.length ∧ ∀ (i : Nat) d, φ[i]? = some (some d) → ∃ v, σ[i]? = some (some v) ∧ Rp K mg H v d
theorem FR.mono {H H' : Hp} {σ : L2.St} {φ : Fr} (f : FR K mg H σ φ) (t : Tk K H H') : FR K mg H' σ φ := ⟨f.1, fun i d e => let ⟨v, h, r⟩ := f.2 i d e; ⟨v, h, r.mono t⟩⟩
theorem FR.set {H : Hp} {σ : L2.St} {φ : Fr} (f : FR K mg H σ φ) {i : Nat} {v : V} {d : D} (r : Rp K mg H v d) : FR K mg H (σ.set i (some v)) (φ.set i (some d)) := by
  refine ⟨by rw [List.length_set, List.length_set]; exact f.1, fun j e h => ?_⟩
  by_cases q : i = j
  · subst q
    by_cases l : i < φ.length
    · rw [List.getElem?_set_self l] at h
      cases h
      exact ⟨v, List.getElem?_set_self (by rw [← f.1]; exact l), r⟩
    · rw [List.getElem?_eq_none (by rw [List.length_set]; omega)] at h
      cases h
  · rw [List.getElem?_set_ne q] at h
    rw [List.getElem?_set_ne q]
    exact f.2 j e h
theorem FR.none {H : Hp} {σ : L2.St} {φ : Fr} (f : FR K mg H σ φ) {i : Nat} : FR K mg H (σ.set i Option.none) (φ.set i Option.none) := by
  refine ⟨by rw [List.length_set, List.length_set]; exact f.1, fun j e h => ?_⟩
  by_cases q : i = j
  · subst q
    by_cases l : i < φ.length
    · rw [List.getElem?_set_self l] at h
      cases h
    · rw [List.getElem?_eq_none (by rw [List.length_set]; omega)] at h
      cases h
  · rw [List.getElem?_set_ne q] at h
    rw [List.getElem?_set_ne q]
    exact f.2 j e h
theorem FR.wipe {H : Hp} {σ : L2.St} {φ : Fr} (f : FR K mg H σ φ) : ∀ vs : List Nat, FR K mg H (wipe σ vs) (wipeF φ vs)
  | [] => f
  | v :: vs => (FR.wipe f vs).none
theorem Rps.len {H : Hp} : ∀ {vs : List V} {ds : List D}, Rps K mg H vs ds → vs.length = ds.length
  | _, _, .nil => rfl
  | _, _, .cons _ t => by rw [List.length_cons, List.length_cons, Rps.len t]
theorem Rps.get {H : Hp} : ∀ {vs : List V} {ds : List D}, Rps K mg H vs ds → ∀ {i : Nat} {d : D}, ds[i]? = some d → ∃ v, vs[i]? = some v ∧ Rp K mg H v d
  | _, _, .nil, i, d, h => by simp at h
  | _, _, .cons r t, 0, d, h => by simp at h; subst h; exact ⟨_, rfl, r⟩
  | _, _, .cons r t, i + 1, d, h => by
    obtain ⟨v, q, z⟩ := Rps.get t (i := i) (by simpa using h)
    exact ⟨v, by simpa using q, z⟩
theorem Rps.app {H : Hp} : ∀ {vs : List V} {ds : List D} {ws : List V} {es : List D}, Rps K mg H vs ds → Rps K mg H ws es → Rps K mg H (vs ++ ws) (ds ++ es)
  | _, _, _, _, .nil, s => s
  | _, _, _, _, .cons r t, s => .cons r (Rps.app t s)
theorem Rps.take {H : Hp} : ∀ {vs : List V} {ds : List D} (n : Nat), Rps K mg H vs ds → Rps K mg H (vs.take n) (ds.take n)
  | _, _, 0, _ => by simp; exact .nil
  | _, _, n + 1, .nil => by simp; exact .nil
  | _, _, n + 1, .cons r t => .cons r (Rps.take n t)
theorem Rps.drop {H : Hp} : ∀ {vs : List V} {ds : List D} (n : Nat), Rps K mg H vs ds → Rps K mg H (vs.drop n) (ds.drop n)
  | _, _, 0, h => h
  | _, _, n + 1, .nil => .nil
  | _, _, n + 1, .cons _ t => Rps.drop n t
theorem Rps.set {H : Hp} {v : V} {d : D} (r : Rp K mg H v d) : ∀ {vs : List V} {ds : List D} (i : Nat), Rps K mg H vs ds → Rps K mg H (vs.set i v) (ds.set i d)
  | _, _, _, .nil => .nil
  | _, _, 0, .cons _ t => .cons r t
  | _, _, i + 1, .cons q t => .cons q (Rps.set r i t)
theorem Rps.erase {H : Hp} : ∀ {vs : List V} {ds : List D} (i : Nat), Rps K mg H vs ds → Rps K mg H (vs.eraseIdx i) (ds.eraseIdx i)
  | _, _, _, .nil => .nil
  | _, _, 0, .cons _ t => t
  | _, _, i + 1, .cons q t => .cons q (Rps.erase i t)
theorem Rps.dropLast {H : Hp} {vs : List V} {ds : List D} (h : Rps K mg H vs ds) : Rps K mg H vs.dropLast ds.dropLast := by
  rw [List.dropLast_eq_take, List.dropLast_eq_take, h.len]
  exact h.take _
theorem Rps.rep {H : Hp} {vs : List V} {ds : List D} (h : Rps K mg H vs ds) : ∀ n : Nat, Rps K mg H (List.replicate n vs).flatten (Pi.rep n ds)
  | 0 => .nil
  | n + 1 => by
    unfold Pi.rep
    rw [List.replicate_succ, List.replicate_succ, List.flatten_cons, List.flatten_cons]
    exact h.app (Rps.rep h n)
theorem Rps.cut {H : Hp} {vs : List V} {ds : List D} (h : Rps K mg H vs ds) (lo hi : Option Int) : Rps K mg H (cutV vs lo hi) (cutD ds lo hi) := by
  unfold cutV cutD
  rw [h.len]
  exact (h.drop _).take _
theorem Rps.atI {H : Hp} {vs : List V} {ds : List D} (h : Rps K mg H vs ds) {i : Int} {d : D} (e : L2.atI ds i = some d) : ∃ v, L2.atI vs i = some v ∧ Rp K mg H v d := by
  unfold L2.atI at e ⊢
  rw [h.len]
  cases q : ixN ds.length i with
  | none => rw [q] at e; cases e
  | some j =>
    rw [q] at e
    exact h.get (i := j) (by simpa using e)
/-- a store's list may be read -/
theorem SR.isL {S : Sto} {H : Hp} (s : SR K mg S H) {a : Addr} {xs : List D} (h : IsL S a xs) : ∃ vs, H a = some (.lst vs) ∧ Rps K mg H vs xs := s _ _ h
theorem tk_upd {H : Hp} {p : Addr} {o : HO} (h : ∀ xs, ¬ Rd H p (.tup xs)) (h2 : ∀ ob xs, H p ≠ some (.frz ob (.lst xs))) : Tk K H (upd H p o) := by
  refine ⟨fun a xs t => ?_, fun a xs t => ?_⟩
  · rcases t with t | t
    · have ne : a ≠ p := fun e => by subst e; exact h _ t
      rcases t with t | ⟨ob, t⟩
      · exact .inl (.inl (by rw [upd_ne ne]; exact t))
      · exact .inl (.inr ⟨ob, by rw [upd_ne ne]; exact t⟩)
    · exact .inr t
  · obtain ⟨h1, q⟩ := t
    rcases q with ⟨ob, q⟩ | q
    · have ne : a ≠ p := fun e => by subst e; exact h2 _ _ q
      have z : upd H p o a = some (.frz ob (.lst xs)) := by rw [upd_ne ne]; exact q
      exact ⟨.inl (.inr ⟨ob, z⟩), .inl ⟨ob, z⟩⟩
    · exact ⟨q _, .inr q⟩
theorem tk_new {H : Hp} {p : Addr} {o : HO} (h : H p = none) : Tk K H (upd H p o) :=
  tk_upd (fun xs t => by rcases t with t | ⟨o, t⟩ <;> (rw [h] at t; cases t)) fun ob xs t => by rw [h] at t; cases t
theorem SRo.mono {H H' : Hp} {a : Addr} {o : O} (q : SRo K mg H a o) (t : Tk K H H') (e : H' a = H a) : SRo K mg H' a o := by
  cases o with
  | lst ds => obtain ⟨vs, z, r⟩ := q; exact ⟨vs, by rw [e]; exact z, r.mono t⟩
  | dct ds => obtain ⟨vs, z, r⟩ := q; exact ⟨vs, by rw [e]; exact z, r.mono t⟩
/-- something new, no part of the store -/
theorem SR.new {S : Sto} {H : Hp} (s : SR K mg S H) {p : Addr} {o : HO} (h : H p = none) : SR K mg S (upd H p o) ∧ Ev S H S (upd H p o) := by
  have n := s.free h
  refine ⟨fun a u e => ?_, fun a u e f => ⟨?_, f⟩⟩
  · have ne : a ≠ p := fun z => by subst z; rw [n] at e; cases e
    exact (s a u e).mono (tk_new h) (upd_ne ne)
  · have ne : a ≠ p := fun z => by subst z; rw [h] at e; cases e
    rw [upd_ne ne]; exact e
/-- something new of the store -/
theorem SR.alloc {S : Sto} {H : Hp} (s : SR K mg S H) {p : Addr} {o : HO} {u : O} (h : H p = none) (q : SRo K mg (upd H p o) p u) : SR K mg (put S p u) (upd H p o) ∧ Ev S H (put S p u) (upd H p o) := by
  refine ⟨fun a w e => ?_, fun a w e f => ?_⟩
  · by_cases z : a = p
    · subst z
      rw [put_same] at e
      cases e
      exact q
    · rw [put_ne z] at e
      exact (s a w e).mono (tk_new h) (upd_ne z)
  · have ne : a ≠ p := fun z => by subst z; rw [h] at e; cases e
    rw [upd_ne ne, put_ne ne]
    exact ⟨e, f⟩
/-- the store's own object changes -/
theorem SR.write {S : Sto} {H : Hp} (s : SR K mg S H) {p : Addr} {o : HO} {u0 u : O} (h : S p = some u0) (q : Tk K H (upd H p o) → SRo K mg (upd H p o) p u) : SR K mg (put S p u) (upd H p o) ∧ Ev S H (put S p u) (upd H p o) ∧ Tk K H (upd H p o) := by
  have t : Tk K H (upd H p o) := tk_upd (fun xs z => by rw [s.noS (.inl ⟨xs, z⟩)] at h; cases h) fun ob xs z => by rw [s.noS (.inr (.inl ⟨ob, xs, z⟩))] at h; cases h
  refine ⟨fun a w e => ?_, fun a w e f => ?_, t⟩
  · by_cases z : a = p
    · subst z
      rw [put_same] at e
      cases e
      exact q t
    · rw [put_ne z] at e
      exact (s a w e).mono t (upd_ne z)
  · have ne : a ≠ p := fun z => by subst z; rw [h] at f; cases f
    rw [upd_ne ne, put_ne ne]
    exact ⟨e, f⟩
end
end Pi

/-! PiMul: tuple * int, also nothing and once. -/
namespace Pi
open PySem L2 PyProof.Rows
open AutoSeq1 (wpAny_loadPart')
abbrev tupO (ws : Array Value) (n : Nat) (dd : Option Addr) (sl : Array (Option Value)) : Obj := ⟨.type "tuple", dd, .seq ws n, sl⟩
theorem mul_same (t : Addr) (ws : Array Value) (n : Nat) (dd : Option Addr) (sl : Array (Option Value)) (i : Int) (u : Tok) (h0 : (decide (i < -(2 ^ 63)) || decide (i ≥ 2 ^ 63)) = false) (h1 : (ws.isEmpty || i == 1) = true) :
    Meets (Builtin.«tuple.__mul__» ⟨[.ref t, .int i u], []⟩) (fun _ R st => st.heap.get? t = some (tupO ws n dd sl) ∧ R (.ok (.ret (.ref t))) st) :=
  .of_wp fun prog w A R st hyp => by
    obtain ⟨hp, g, d, tk, os⟩ := st
    obtain ⟨at_, goal⟩ := hyp
    have f1 := AutoSeq1.idx_int
    wp_walk using wpAny_loadPart' at_
    repeat (first
      | (refine wpAny_ite_false (decide_eq_false (by rw [h0]; decide)) ?_; wp_walk using wpAny_loadPart' at_)
      | (refine wpAny_ite_true (decide_eq_true (by rw [h1])) ?_; wp_walk using wpAny_loadPart' at_))
    exact ⟨_, rfl, goal⟩
theorem mul_none (t : Addr) (ws : Array Value) (n : Nat) (dd : Option Addr) (sl : Array (Option Value)) (i : Int) (u : Tok) (h0 : (decide (i < -(2 ^ 63)) || decide (i ≥ 2 ^ 63)) = false) (h1 : (ws.isEmpty || i == 1) = false) (h2 : (decide (i ≤ 0) || ws.isEmpty) = true) :
    Meets (Builtin.«tuple.__mul__» ⟨[.ref t, .int i u], []⟩) (fun _ R st => st.heap.get? t = some (tupO ws n dd sl) ∧ R (.ok (.ret (.ref st.heap.objs.size))) { st with heap := st.heap.push { cls := .type "tuple", data := .seq #[] } }) :=
  .of_wp fun prog w A R st hyp => by
    obtain ⟨hp, g, d, tk, os⟩ := st
    obtain ⟨at_, goal⟩ := hyp
    have f1 := AutoSeq1.idx_int
    wp_walk using wpAny_loadPart' at_
    repeat (first
      | (refine wpAny_ite_false (decide_eq_false (by rw [h0]; decide)) ?_; wp_walk using wpAny_loadPart' at_)
      | (refine wpAny_ite_false (decide_eq_false (by rw [h1]; decide)) ?_; wp_walk using wpAny_loadPart' at_)
      | (refine wpAny_ite_true (decide_eq_true (by rw [h2])) ?_; wp_walk using wpAny_loadPart' at_))
    exact ⟨_, rfl, goal⟩
section
variable {X : Cx}
theorem op_repS {pins : List (Addr × Obj)} {s : Shared} {σ : L2.St} {H : Hp} {l : Addr} {i : Int} {v u : Value} {Q : VK} {xs : List V} (I : Inv X pins σ H s) (rx : RelV (.ref l) v) (ry : RelV (.int i) u) (hT : SqT X.K H l xs) (i0 : -(2 ^ 63) ≤ i) (i1 : i < 2 ^ 63)
    (hq1 : xs = [] ∨ i = 1 → Q (.ref l) H) (hq0 : xs ≠ [] → i ≤ 0 → ∀ p, H p = none → Q (.ref p) (upd H p (.tup []))) (hs : xs = [] ∨ i ≤ 1) : wpAny (model X.prog X.w) X.A (binaryOp .Mult v u) (EP X pins σ Q) X.xe s := by
  cases rx
  obtain ⟨t, rfl⟩ := ry
  obtain ⟨its, r, ⟨⟨cls, dd, data, sl⟩, ho, hc, n, hd⟩, hz⟩ := I.tuple hT
  simp only at hc hd
  subst hc hd
  have hle : its.length = xs.length := r.length.symm
  have c0 : (decide (i < -(2 ^ 63)) || decide (i ≥ 2 ^ 63)) = false := by
    rw [decide_eq_false (by omega), decide_eq_false (by omega)]
    rfl
  have emp : its.toArray.isEmpty = true ↔ xs = [] := by
    cases its with
    | nil => exact ⟨fun _ => List.eq_nil_of_length_eq_zero hle.symm, fun _ => rfl⟩
    | cons a b => exact ⟨fun z => (nomatch z), fun z => by rw [z] at hle; cases hle⟩
  refine wpAny_binaryOp_repeat_ref (T := "tuple") (U := "int") (by decide) ⟨_, ho, rfl⟩ (fun s' => typeIs_int s' i t) noFill_tuple_mul F.fills_int_mul F.slot_int_rmul repeat_tuple F.slot_int_index.lookup ?_
  refine call_meets F.slot_int_rmul (typeIs_int s i t) F.entry_int_rmul (F.args_int_rmul_2 _ _) (int_rmul_tuple i t l its.toArray n dd sl) ⟨ho, rfl, ⟨_, ho, rfl⟩, ?_⟩
  by_cases one : xs = [] ∨ i = 1
  · have c1 : (its.toArray.isEmpty || i == 1) = true := by
      rcases one with h | h
      · rw [emp.mpr h]; rfl
      · rw [h, Bool.or_eq_true]; exact .inr rfl
    exact call_meets F.slot_tuple_mul ⟨_, ho, rfl⟩ F.entry_tuple_mul (F.args_tuple_mul_2 _ _) (mul_same l its.toArray n dd sl i t c0 c1) ⟨ho, .ref l, H, I, rfl, hq1 one⟩
  · have ne : xs ≠ [] := fun h => one (.inl h)
    have e0 : its.toArray.isEmpty = false := by
      cases q : its.toArray.isEmpty with
      | false => rfl
      | true => exact absurd (emp.mp q) ne
    have c1 : (its.toArray.isEmpty || i == 1) = false := by
      rw [e0, Bool.false_or]
      exact beq_eq_false_iff_ne.mpr fun h => one (.inr h)
    have le : i ≤ 0 := by
      rcases hs with h | h
      · exact absurd h ne
      · have : i ≠ 1 := fun h => one (.inr h)
        omega
    have c2 : (decide (i ≤ 0) || its.toArray.isEmpty) = true := by rw [decide_eq_true le]; rfl
    refine call_meets F.slot_tuple_mul ⟨_, ho, rfl⟩ F.entry_tuple_mul (F.args_tuple_mul_2 _ _) (mul_none l its.toArray n dd sl i t c0 c1 c2) ⟨ho, ?_⟩
    refine ⟨.ref s.heap.objs.size, _, I.laid (t' := s.toks) (o := .tup []) (fun b ob q => Heap.get?_push_of_some _ q) (Nat.le_refl _) ?_, rfl, hq0 ne le _ (I.hok.fresh (Nat.le_refl _))⟩
    exact ⟨Nat.zero_le _, [], .nil, IsTup.new _ _⟩
end
end Pi

/-! PiOps: the operators and built-ins by values: what the pure side asks is what the hand layer's rules ask. -/
namespace Pi
open PySem L2
section
variable (K : PySem.W.Frag) (mg : Str → Option Value)
/-- how what is wanted on the pure side leads to what is wanted -/
def Lk (S : Sto) (H : Hp) (q : KE) (Q : VK) : Prop := ∀ z S' v H', q z S' → Ev S H S' H' → SR K mg S' H' → Rp K mg H' v z → Q v H'
def rD2 (w : D → D → Sto → KE → Prop) : R2 := fun x y H Q => ∃ S d e q, SR K mg S H ∧ Rp K mg H x d ∧ Rp K mg H y e ∧ w d e S q ∧ Lk K mg S H q Q
def rD1 (w : List D → Sto → KE → Prop) : List V → Hp → VK → Prop := fun xs H Q => ∃ S ds q, SR K mg S H ∧ Rps K mg H xs ds ∧ w ds S q ∧ Lk K mg S H q Q
def rDm (w : D → List D → Sto → KE → Prop) : V → List V → Hp → VK → Prop := fun x xs H Q => ∃ S d ds q, SR K mg S H ∧ Rp K mg H x d ∧ Rps K mg H xs ds ∧ w d ds S q ∧ Lk K mg S H q Q
variable {K mg}
theorem Lk.here {S : Sto} {H : Hp} {q : KE} {Q : VK} (l : Lk K mg S H q Q) (s : SR K mg S H) {z : D} {v : V} (h : q z S) (r : Rp K mg H v z) : Q v H := l z S v H h Ev.refl s r
/-- a new list -/
theorem Lk.newL {S : Sto} {H : Hp} {q : KE} {Q : VK} (l : Lk K mg S H q Q) (s : SR K mg S H) {xs : List D} {vs : List V} (h : ∀ p, S p = none → q (.ref p) (put S p (.lst xs))) (r : Rps K mg H vs xs) : ∀ p, H p = none → Q (.ref p) (upd H p (.lst vs)) := fun p hp => by
  obtain ⟨s1, e1⟩ := s.alloc (u := .lst xs) (o := .lst vs) hp ⟨vs, upd_same, r.mono (tk_new hp)⟩
  exact l _ _ _ _ (h p (s.free hp)) e1 s1 (.ref p)
/-- a new tuple -/
theorem Lk.newT {S : Sto} {H : Hp} {q : KE} {Q : VK} (l : Lk K mg S H q Q) (s : SR K mg S H) {xs : List D} {vs : List V} (h : q (.tup xs) S) (r : Rps K mg H vs xs) : ∀ p, H p = none → Q (.ref p) (upd H p (.tup vs)) := fun p hp => by
  obtain ⟨s1, e1⟩ := s.new (o := .tup vs) hp
  exact l _ _ _ _ h e1 s1 (.tup (.inl (.inl upd_same)) (r.mono (tk_new hp)))
/-- a store's list is changed -/
theorem Lk.setL {S : Sto} {H : Hp} {q : KE} {Q : VK} (l : Lk K mg S H q Q) (s : SR K mg S H) {p : Addr} {u0 : O} {xs : List D} {vs : List V} {z : D} {v : V} (h0 : S p = some u0) (h : q z (put S p (.lst xs))) (r : Rps K mg H vs xs) (rz : Rp K mg H v z) : Q v (upd H p (.lst vs)) := by
  obtain ⟨s1, e1, t1⟩ := s.write (u := .lst xs) (o := .lst vs) h0 fun t => ⟨vs, upd_same, r.mono t⟩
  exact l _ _ _ _ h e1 s1 (rz.mono t1)
def BOp.py : BOp → Operator
  | .add => .Add | .sub => .Sub | .mul => .Mult | .fdv => .FloorDiv | .mod => .Mod | .pow => .Pow
def COp.py : COp → CmpOp
  | .eq => .Eq | .ne => .NotEq | .lt => .Lt | .le => .LtE | .gt => .Gt | .ge => .GtE | .isin => .In | .notin => .NotIn | .is_ => .Is | .isnt => .IsNot
end
section
variable {X : Cx}
theorem Rps.ne {K : PySem.W.Frag} {mg : Str → Option Value} {H : Hp} {vs : List V} {ds : List D} (r : Rps K mg H vs ds) : ds = [] ↔ vs = [] := by
  cases r with
  | nil => simp
  | cons _ _ => simp
theorem op_bop (op : BOp) : OpR X (binaryOp op.py) (rD2 X.K X.mg (bopW op)) := by
  intro pins s σ H x y v u Q I rx ry ⟨S, d, e, q, sr, rd, re, hb, l⟩
  unfold bopW at hb
  split at hb
  · cases rd; cases re
    exact op_add pins s σ H _ _ v u Q I rx ry ⟨_, _, rfl, rfl, l.here sr hb (.int _)⟩
  · cases rd; cases re
    exact op_add_str pins s σ H _ _ v u Q I rx ry ⟨_, _, rfl, rfl, hb.1, l.here sr hb.2 (.str _)⟩
  · cases rd; cases re
    obtain ⟨xs, ys, ha, hb1, hz, hq⟩ := hb
    obtain ⟨vs, h1, r1⟩ := sr.isL ha
    obtain ⟨ws, h2, r2⟩ := sr.isL hb1
    exact op_cat pins s σ H _ _ v u Q I rx ry ⟨_, _, vs, ws, rfl, rfl, h1, h2, by rw [r1.len, r2.len]; exact hz, l.newL sr hq (r1.app r2)⟩
  · cases rd with
    | tup h1 r1 =>
      cases re with
      | tup h2 r2 =>
        obtain ⟨hz, hq⟩ := hb
        refine op_catA pins s σ H _ _ v u Q I rx ry ⟨_, _, _, _, rfl, rfl, h1, h2, by rw [r1.len, r2.len]; exact hz, fun n => ?_, fun n1 n2 => ?_, fun n1 n2 => l.newT sr hq (r1.app r2)⟩
        · rw [r1.ne.mpr n, List.nil_append] at hq
          exact l.here sr hq (.tup h2 r2)
        · rw [r2.ne.mpr n2, List.append_nil] at hq
          exact l.here sr hq (.tup h1 r1)
  · cases rd; cases re
    exact op_sub pins s σ H _ _ v u Q I rx ry ⟨_, _, rfl, rfl, l.here sr hb (.int _)⟩
  · cases rd; cases re
    rcases hb.1 with h | h | h
    · exact op_mul pins s σ H _ _ v u Q I rx ry ⟨_, _, rfl, rfl, .inl h, l.here sr hb.2 (.int _)⟩
    · exact op_mul pins s σ H _ _ v u Q I rx ry ⟨_, _, rfl, rfl, .inr h, l.here sr hb.2 (.int _)⟩
    · exact op_mulW pins s σ H _ _ v u Q I rx ry ⟨_, _, rfl, rfl, h, l.here sr hb.2 (.int _)⟩
  · cases rd with
    | tup h1 r1 =>
      cases re
      obtain ⟨n2, n3, n4, hq⟩ := hb
      rename_i ds k a vs
      by_cases few : vs = [] ∨ k ≤ 1
      · refine op_repS I rx ry h1 n2 (by omega) (fun e => ?_) (fun ne le => ?_) few
        · have eq : rep k.toNat ds = ds := by
            rcases e with e | e
            · rw [r1.ne.mpr e]
              unfold rep
              induction k.toNat with
              | zero => rfl
              | succ n ih => rw [List.replicate_succ, List.flatten_cons, ih]; rfl
            · rw [e]
              show (List.replicate 1 ds).flatten = ds
              simp
          rw [eq] at hq
          exact l.here sr hq (.tup h1 r1)
        · have eq : rep k.toNat ds = [] := by
            rw [show k.toNat = 0 by omega]
            rfl
          rw [eq] at hq
          exact l.newT sr hq .nil
      · exact op_repT pins s σ H _ _ v u Q I rx ry ⟨_, _, _, rfl, rfl, h1, fun n => few (.inl n), by omega, n3, by rw [r1.len]; exact n4, l.newT sr hq (r1.rep _)⟩
  · cases rd; cases re
    obtain ⟨xs, ha, n1, n2, n3, hq⟩ := hb
    obtain ⟨vs, h1, r1⟩ := sr.isL ha
    exact op_rep pins s σ H _ _ v u Q I rx ry ⟨_, _, vs, rfl, rfl, h1, n1, n2, by rw [r1.len]; exact n3, l.newL sr hq (r1.rep _)⟩
  · cases rd; cases re
    rcases hb.1.2 with h | h
    · exact op_fdiv pins s σ H _ _ v u Q I rx ry ⟨_, _, rfl, rfl, ⟨hb.1.1, h⟩, l.here sr hb.2 (.int _)⟩
    · exact op_fdivW pins s σ H _ _ v u Q I rx ry ⟨_, _, rfl, rfl, ⟨hb.1.1, h⟩, l.here sr hb.2 (.int _)⟩
  · cases rd; cases re
    exact op_mod pins s σ H _ _ v u Q I rx ry ⟨_, _, rfl, rfl, hb.1, l.here sr hb.2 (.int _)⟩
  · cases rd; cases re
    exact op_pow pins s σ H _ _ v u Q I rx ry ⟨_, _, rfl, rfl, hb.1, l.here sr hb.2 (.int _)⟩
  · exact hb.elim
/-! ### comparisons -/
mutual
theorem PyOf.dp {K : PySem.W.Frag} {mg : Str → Option Value} {S : Sto} {H : Hp} (s : SR K mg S H) : ∀ {p : PyData} {d : D} {v : V}, PyOf S d p → Rp K mg H v d → Dp K H v p
  | .none, _, _, h, r => by cases h; cases r; exact .non
  | .bool b, _, _, h, r => by cases h; cases r; exact .bl b
  | .int b, _, _, h, r => by cases h; cases r; exact .int b
  | .str b, _, _, h, r => by cases h; cases r; exact .str b
  | .tuple ps, _, _, h, r => by
    cases h with
    | tup h =>
      cases r with
      | tup q r => exact .tup q (PyOfs.dp s h r)
  | .list ps, _, _, h, r => by
    cases h with
    | lst hl h =>
      cases r
      obtain ⟨vs, q, r⟩ := s.isL hl
      exact .lst (SqL.of q) (PyOfs.dp s h r)
  | .dict _, _, _, h, _ => by cases h
theorem PyOfs.dp {K : PySem.W.Frag} {mg : Str → Option Value} {S : Sto} {H : Hp} (s : SR K mg S H) : ∀ {ps : List PyData} {ds : List D} {vs : List V}, PyOfs S ds ps → Rps K mg H vs ds → DpAll K H vs ps
  | [], _, _, h, r => by cases h; cases r; exact .nil
  | p :: ps, _, _, h, r => by
    cases h with
    | cons h1 h2 =>
      cases r with
      | cons r1 r2 => exact .cons (PyOf.dp s h1 r1) (PyOfs.dp s h2 r2)
end
theorem op_eqP (hu : X.A.units + 64 < cLine) : OpR X (compareOp .Eq) (rD2 X.K X.mg fun d e S q => eqW d e S fun k => q (.bl k) S) := by
  intro pins s σ H x y v u Q I rx ry ⟨S, d, e, q, sr, rd, re, hb, l⟩
  have sc : ∀ {k : Bool}, q (.bl k) S → scal x y = true → decide (x = y) = k → wpAny (model X.prog X.w) X.A (compareOp .Eq v u) (EP X pins σ Q) X.xe s := fun {k} h1 h2 h3 => by
    subst h3
    exact op_eq pins s σ H x y v u Q I rx ry ⟨h2, l.here sr h1 (.bl _)⟩
  dsimp only at hb
  unfold eqW at hb
  split at hb
  · cases rd; cases re; exact sc hb rfl (by simp)
  · cases rd; cases re; exact sc hb rfl (by simp)
  · cases rd; cases re; exact sc hb rfl (by simp)
  · cases rd; cases re; exact sc hb rfl (by simp)
  · cases rd; cases re; exact sc hb rfl (by simp)
  · cases rd; cases re; exact sc hb rfl (by simp)
  · cases rd; cases re; exact sc hb rfl (by simp)
  · cases rd; cases re; exact sc hb rfl (by simp)
  · cases rd; cases re; exact sc hb rfl (by simp)
  · cases rd; cases re; exact sc hb rfl (by simp)
  · cases rd; cases re; exact sc hb rfl (by simp)
  · cases rd; cases re; exact sc hb rfl (by simp)
  · cases rd; cases re; exact sc hb rfl (by simp)
  · cases rd; cases re; exact sc hb rfl (by simp)
  · obtain ⟨a, b, h1, h2, h3, h4, hq⟩ := hb
    exact op_eqD hu pins s σ H x y v u Q I rx ry ⟨a, b, h1.dp sr rd, h2.dp sr re, h3, h4, l.here sr hq (.bl _)⟩
theorem op_neP (hu : X.A.units + 64 < cLine) : OpR X (compareOp .NotEq) (rD2 X.K X.mg fun d e S q => eqW d e S fun k => q (.bl (!k)) S) := by
  intro pins s σ H x y v u Q I rx ry ⟨S, d, e, q, sr, rd, re, hb, l⟩
  have sc : ∀ {k : Bool}, q (.bl (!k)) S → scal x y = true → decide (x = y) = k → wpAny (model X.prog X.w) X.A (compareOp .NotEq v u) (EP X pins σ Q) X.xe s := fun {k} h1 h2 h3 => by
    subst h3
    exact op_ne pins s σ H x y v u Q I rx ry ⟨h2, l.here sr h1 (.bl _)⟩
  dsimp only at hb
  unfold eqW at hb
  split at hb
  · cases rd; cases re; exact sc hb rfl (by simp)
  · cases rd; cases re; exact sc hb rfl (by simp)
  · cases rd; cases re; exact sc hb rfl (by simp)
  · cases rd; cases re; exact sc (k := true) hb rfl (by simp)
  · cases rd; cases re; exact sc (k := false) hb rfl (by simp)
  · cases rd; cases re; exact sc (k := false) hb rfl (by simp)
  · cases rd; cases re; exact sc (k := false) hb rfl (by simp)
  · cases rd; cases re; exact sc (k := false) hb rfl (by simp)
  · cases rd; cases re; exact sc (k := false) hb rfl (by simp)
  · cases rd; cases re; exact sc (k := false) hb rfl (by simp)
  · cases rd; cases re; exact sc (k := false) hb rfl (by simp)
  · cases rd; cases re; exact sc (k := false) hb rfl (by simp)
  · cases rd; cases re; exact sc (k := false) hb rfl (by simp)
  · cases rd; cases re; exact sc (k := false) hb rfl (by simp)
  · obtain ⟨a, b, h1, h2, h3, h4, hq⟩ := hb
    exact op_neD hu pins s σ H x y v u Q I rx ry ⟨a, b, h1.dp sr rd, h2.dp sr re, h3, h4, l.here sr hq (.bl _)⟩
theorem op_ltP {op : CmpOp} {f : Int → Int → Bool} (ho : OpR X (compareOp op) (rI0 fun i j => .bl (f i j))) : OpR X (compareOp op) (rD2 X.K X.mg fun d e S q => ltW f d e fun k => q (.bl k) S) := by
  intro pins s σ H x y v u Q I rx ry ⟨S, d, e, q, sr, rd, re, hb, l⟩
  dsimp only at hb
  unfold ltW at hb
  split at hb
  · cases rd; cases re
    exact ho pins s σ H _ _ v u Q I rx ry ⟨_, _, rfl, rfl, l.here sr hb (.bl _)⟩
  · exact hb.elim
end
end Pi

/-! PiOps2: in, is, subscripts, stores, built-in functions and methods by values. -/
namespace Pi
open PySem L2 PyProof.Rows
section
variable {K : PySem.W.Frag} {mg : Str → Option Value}
theorem KVr.get {H : Hp} {kv : List (Key × V)} {kd : List (Str × D)} (h : KVr K mg H kv kd) (k : Str) : (∀ d, getK kd k = some d → ∃ v, valV kv (Sum.inr k) = some v ∧ Rp K mg H v d) ∧ (valV kv (Sum.inr k)).isSome = (getK kd k).isSome := by
  unfold KVr at h
  induction h with
  | nil => exact ⟨fun d e => (by simp [getK] at e), rfl⟩
  | @cons p q ps qs r t ih =>
    by_cases e : q.1 = k
    · have e1 : p.1 = Sum.inr k := by rw [r.1, e]
      have g : getK (q :: qs) k = some q.2 := by simp [getK, List.find?_cons, e]
      refine ⟨fun d h => ⟨p.2, valV_pos e1, ?_⟩, by rw [valV_pos e1, g]; rfl⟩
      rw [g] at h; cases h
      exact r.2
    · have e1 : ¬ p.1 = Sum.inr k := fun z => e (by rw [r.1] at z; exact Sum.inr.inj z)
      have g : getK (q :: qs) k = getK qs k := by simp [getK, List.find?_cons, e]
      rw [valV_neg e1, g]
      exact ih
theorem KVr.len {H : Hp} {kv : List (Key × V)} {kd : List (Str × D)} (h : KVr K mg H kv kd) : kv.length = kd.length := Paired.length h
theorem KVr.any {H : Hp} {kv : List (Key × V)} {kd : List (Str × D)} (h : KVr K mg H kv kd) (k : Str) : (kv.any fun p => decide (p.1 = Sum.inr k)) = kd.any fun p => decide (p.1 = k) := by
  unfold KVr at h
  induction h with
  | nil => rfl
  | @cons p q ps qs r t ih =>
    rw [List.any_cons, List.any_cons, ih]
    congr 1
    rw [r.1]
    exact key_rr _ _
theorem KVr.put {H : Hp} {kv : List (Key × V)} {kd : List (Str × D)} (h : KVr K mg H kv kd) (k : Str) {v : V} {d : D} (r : Rp K mg H v d) : KVr K mg H (putK kv (Sum.inr k) v) (setK kd k d) := by
  unfold putK setK
  rw [h.any k]
  generalize (kd.any fun p => decide (p.1 = k)) = c
  cases c with
  | true =>
    rw [if_pos rfl, if_pos rfl]
    unfold KVr at h ⊢
    induction h with
    | nil => exact .nil
    | @cons p q ps qs rr t ih =>
      refine .cons ?_ ih
      dsimp only
      by_cases e : q.1 = k
      · rw [if_pos (show p.1 = Sum.inr k by rw [rr.1, e]), if_pos e]
        exact ⟨rr.1, r⟩
      · rw [if_neg (show ¬ p.1 = Sum.inr k from fun z => e (by rw [rr.1] at z; exact Sum.inr.inj z)), if_neg e]
        exact rr
  | false =>
    rw [if_neg Bool.false_ne_true, if_neg Bool.false_ne_true]
    unfold KVr at h ⊢
    induction h with
    | nil => exact .cons ⟨rfl, r⟩ .nil
    | cons rr t ih => exact .cons rr ih
theorem Lk.setD {S : Sto} {H : Hp} {p : Addr} {u0 : O} {kd : List (Str × D)} {kv : List (Key × V)} (s : SR K mg S H) (h0 : S p = some u0) (r : KVr K mg H kv kd) :
    SR K mg (Pi.put S p (.dct kd)) (upd H p (.dK kv)) ∧ Ev S H (Pi.put S p (.dct kd)) (upd H p (.dK kv)) ∧ Tk K H (upd H p (.dK kv)) := s.write (u := .dct kd) (o := .dK kv) h0 fun t => ⟨kv, upd_same, r.mono t⟩
end
section
variable {X : Cx}
theorem op_inP (hu : X.A.units + 65 < cLine) : OpR X (compareOp .In) (rD2 X.K X.mg fun d e S q => inW d e S fun k => q (.bl k) S) := by
  intro pins s σ H x y v u Q I rx ry ⟨S, d, e, q, sr, rd, re, hb, l⟩
  dsimp only at hb
  unfold inW at hb
  split at hb
  · cases rd; cases re
    obtain ⟨n, rfl, hq⟩ := hb
    exact op_in_sign pins s σ H _ _ v u Q I rx ry ⟨_, _, rfl, rfl, l.here sr hq (.bl _)⟩
  · cases re
    rcases hb with ⟨xs, p, ps, hl, h1, h2, h3, h4, hq⟩ | ⟨kvs, k, h1, rfl, hq⟩
    · obtain ⟨vs, g, r⟩ := sr.isL hl
      exact op_inD hu pins s σ H _ _ v u Q I rx ry ⟨p, ps, h1.dp sr rd, .lst (SqL.of g) (h2.dp sr r), h3, h4, l.here sr hq (.bl _)⟩
    · cases rd
      obtain ⟨kv, g, r⟩ := sr _ _ h1
      have hq' := l.here sr hq (.bl _)
      rw [← (r.get k).2] at hq'
      obtain rfl : u = Value.ref _ := ry
      exact d_in (by omega) I (DGet.k (k := Sum.inr k) g) rx fun s1 I1 => ⟨.bl (valV kv (Sum.inr k : Key)).isSome, H, I1, rfl, hq'⟩
  · exact hb.elim
theorem op_notinP (hu : X.A.units + 65 < cLine) : OpR X (compareOp .NotIn) (rD2 X.K X.mg fun d e S q => inW d e S fun k => q (.bl (!k)) S) := by
  intro pins s σ H x y v u Q I rx ry ⟨S, d, e, q, sr, rd, re, hb, l⟩
  dsimp only at hb
  unfold inW at hb
  split at hb
  · cases rd; cases re
    obtain ⟨n, rfl, hq⟩ := hb
    exact op_notIn_sign pins s σ H _ _ v u Q I rx ry ⟨_, _, rfl, rfl, l.here sr hq (.bl _)⟩
  · cases re
    rcases hb with ⟨xs, p, ps, hl, h1, h2, h3, h4, hq⟩ | ⟨kvs, k, h1, rfl, hq⟩
    · obtain ⟨vs, g, r⟩ := sr.isL hl
      exact op_notInD hu pins s σ H _ _ v u Q I rx ry ⟨p, ps, h1.dp sr rd, .lst (SqL.of g) (h2.dp sr r), h3, h4, l.here sr hq (.bl _)⟩
    · cases rd
      obtain ⟨kv, g, r⟩ := sr _ _ h1
      have hq' := l.here sr hq (.bl _)
      rw [← (r.get k).2] at hq'
      obtain rfl : u = Value.ref _ := ry
      exact d_notIn (by omega) I (DGet.k (k := Sum.inr k) g) rx fun s1 I1 => ⟨.bl (!(valV kv (Sum.inr k : Key)).isSome), H, I1, rfl, hq'⟩
  · exact hb.elim
theorem op_isP : OpR X (compareOp .Is) (rD2 X.K X.mg fun d e S q => copW .is_ d e S fun k => q (.bl k) S) := by
  intro pins s σ H x y v u Q I rx ry ⟨S, d, e, q, sr, rd, re, hb, l⟩
  cases e <;> first | exact False.elim hb | skip
  cases re
  have hb : q (.bl (isNon d)) S := hb
  refine op_isN pins s σ H _ _ v u Q I rx ry ⟨rfl, ?_⟩
  have e : (decide (x = .non)) = isNon d := by cases rd <;> simp [isNon]
  rw [e]
  exact l.here sr hb (.bl _)
theorem op_isntP : OpR X (compareOp .IsNot) (rD2 X.K X.mg fun d e S q => copW .isnt d e S fun k => q (.bl k) S) := by
  intro pins s σ H x y v u Q I rx ry ⟨S, d, e, q, sr, rd, re, hb, l⟩
  cases e <;> first | exact False.elim hb | skip
  cases re
  have hb : q (.bl (!isNon d)) S := hb
  refine op_notN pins s σ H _ _ v u Q I rx ry ⟨rfl, ?_⟩
  have e : (decide (x = .non)) = isNon d := by cases rd <;> simp [isNon]
  rw [e]
  exact l.here sr hb (.bl _)
theorem op_cop (op : COp) (hu : X.A.units + 65 < cLine) : OpR X (compareOp op.py) (rD2 X.K X.mg fun d e S q => copW op d e S fun k => q (.bl k) S) := by
  have hu' : X.A.units + 64 < cLine := by omega
  cases op with
  | eq => exact op_eqP hu'
  | ne => exact op_neP hu'
  | lt => exact op_ltP op_lt
  | le => exact op_ltP op_le
  | gt => exact op_ltP op_gt
  | ge => exact op_ltP op_ge
  | isin => exact op_inP hu
  | notin => exact op_notinP hu
  | is_ => exact op_isP
  | isnt => exact op_isntP
/-! ### subscripts -/
theorem ix_P (hu : X.A.units + 1 < cLine) : IxR X (rD2 X.K X.mg idxW) := by
  intro value slice pins s σ H x y v u Q I rx ry ⟨S, d, e, q, sr, rd, re, hb, l⟩ hs
  unfold idxW at hb
  split at hb
  · cases re
    cases rd with
    | tup g r =>
      obtain ⟨z, h1, hq⟩ := hb
      obtain ⟨w, h2, rw'⟩ := r.atI h1
      exact ix_tup value slice pins s σ H _ _ v u Q I rx ry ⟨_, _, _, w, rfl, rfl, g, h2, l.here sr hq rw'⟩ hs
  · cases re; cases rd
    obtain ⟨xs, z, h0, h1, hq⟩ := hb
    obtain ⟨vs, g, r⟩ := sr.isL h0
    obtain ⟨w, h2, rw'⟩ := r.atI h1
    exact ix_list value slice pins s σ H _ _ v u Q I rx ry ⟨_, _, _, w, rfl, rfl, SqL.of g, h2, l.here sr hq rw'⟩ hs
  · rename_i a k
    cases re; cases rd
    obtain ⟨kvs, z, h0, h1, hq⟩ := hb
    obtain ⟨kv, g, r⟩ := sr _ _ h0
    obtain ⟨w, h2, rw'⟩ := (r.get _).1 _ h1
    obtain rfl : v = Value.ref _ := rx
    have dg := DGet.k (k := (Sum.inr k : Key)) g
    rw [h2] at dg
    exact tail_any (dict_typeIs I dg) PySem.F.slot_dict_getitem.lookup (d_getItem hu I dg ry fun w' s3 I3 r3 => ⟨w, H, I3, r3, l.here sr hq rw'⟩) hs
  · cases re; cases rd
    obtain ⟨hz, c, h1, hq⟩ := hb
    exact ix_str value slice pins s σ H _ _ v u Q I rx ry ⟨_, _, c, rfl, rfl, hz, h1, l.here sr hq (.str _)⟩ hs
  · exact hb.elim
def rSl (K : PySem.W.Frag) (mg : Str → Option Value) : V → Option Int → Option Int → Hp → VK → Prop := fun x lo hi H Q => ∃ S d q, SR K mg S H ∧ Rp K mg H x d ∧ slcW d lo hi S q ∧ Lk K mg S H q Q
theorem cutD_whole {xs : List D} {lo hi : Option Int} (h : HT.sIx xs.length 0 lo = 0 ∧ HT.sIx xs.length xs.length hi = xs.length) : cutD xs lo hi = xs := by
  unfold cutD
  rw [h.1, h.2]
  simp
theorem sl_P : SlR X (rSl X.K X.mg) := by
  intro pins s σ H x v vl vu lo hi sl Q I rx hs pl pu ⟨S, d, q, sr, rd, hb, l⟩
  unfold slcW at hb
  split at hb
  · cases rd with
    | tup g r =>
      refine sl_tupA pins s σ H _ v vl vu lo hi sl Q I rx hs pl pu ⟨_, _, rfl, g, fun hw => ?_, fun _ => l.newT sr hb (r.cut lo hi)⟩
      rw [r.len] at hw
      rw [cutD_whole hw] at hb
      exact l.here sr hb (.tup g r)
  · cases rd
    obtain ⟨xs, h0, hq⟩ := hb
    obtain ⟨vs, g, r⟩ := sr.isL h0
    exact sl_list pins s σ H _ v vl vu lo hi sl Q I rx hs pl pu ⟨_, vs, rfl, SqL.of g, l.newL sr hq (r.cut lo hi)⟩
  · cases rd
    exact sl_str pins s σ H _ v vl vu lo hi sl Q I rx hs pl pu ⟨_, rfl, hb.1, l.here sr hb.2 (.str _)⟩
  · exact hb.elim
/-- o[i] = v -/
def rSto (K : PySem.W.Frag) (mg : Str → Option Value) : V → V → V → Hp → (Hp → Prop) → Prop := fun o i v H Q => ∃ S d e z q, SR K mg S H ∧ Rp K mg H o d ∧ Rp K mg H i e ∧ Rp K mg H v z ∧ stoW d e z S q ∧ ∀ S' H', q S' → Ev S H S' H' → SR K mg S' H' → Q H'
theorem set_P (hu : X.A.units + 1 < cLine) : PSet X (rSto X.K X.mg) := by
  intro pins s σ H o i v ov iv u Q I ro ri rv ⟨S, d, e, z, q, sr, rd, re, rz, hb, l⟩
  unfold stoW at hb
  split at hb
  · cases rd; cases re
    obtain ⟨kvs, h0, hn, hq⟩ := hb
    obtain ⟨kv, g, r⟩ := sr _ _ h0
    obtain rfl : ov = Value.ref _ := ro
    obtain ⟨s1, e1, t1⟩ := Lk.setD sr h0 (r.put _ rz)
    exact d_setItem hu I (DPut.k (k := Sum.inr _) g (by rw [r.len]; exact small1000 (by omega))) ri rv fun s3 I3 => ⟨_, I3, l _ _ hq e1 s1⟩
  · cases rd; cases re
    obtain ⟨xs, j, h0, h1, hq⟩ := hb
    obtain ⟨vs, g, r⟩ := sr.isL h0
    obtain ⟨s1, e1, t1⟩ := sr.write (u := .lst (xs.set j z)) (o := .lst (vs.set j v)) h0 fun t => ⟨_, upd_same, (r.set rz j).mono t⟩
    exact set_list pins s σ H _ _ _ ov iv u _ I ro ri rv ⟨_, vs, _, j, rfl, rfl, g, by rw [r.len]; exact h1, l _ _ hq e1 s1⟩
  · exact hb.elim
end
end Pi

/-! PiOps3: built-in functions, isinstance, methods by values. -/
namespace Pi
open PySem L2 PyProof.Rows
section
variable {K : PySem.W.Frag} {mg : Str → Option Value} {H : Hp}
theorem rps1 {xs : List V} {d : D} (r : Rps K mg H xs [d]) : ∃ x, xs = [x] ∧ Rp K mg H x d := by
  cases r with
  | cons a b => cases b; exact ⟨_, rfl, a⟩
theorem rps0 {xs : List V} (r : Rps K mg H xs []) : xs = [] := by cases r; rfl
theorem rps2 {xs : List V} {d e : D} (r : Rps K mg H xs [d, e]) : ∃ x y, xs = [x, y] ∧ Rp K mg H x d ∧ Rp K mg H y e := by
  cases r with
  | cons a b =>
    cases b with
    | cons b c => cases c; exact ⟨_, _, rfl, a, b⟩
theorem rps_ints : ∀ {ds : List D} {ns : List Int} {vs : List V}, intsB ds = some ns → Rps K mg H vs ds → vs = ns.map V.int
  | [], ns, vs, e, r => by simp [intsB] at e; subst e; cases r; rfl
  | .int i :: ds, ns, vs, e, r => by
    simp only [intsB, Option.map_eq_some_iff] at e
    obtain ⟨ms, h1, rfl⟩ := e
    cases r with
    | cons a b =>
      cases a
      rw [List.map_cons, rps_ints h1 b]
  | .non :: _, _, _, e, _ => by cases e
  | .bl _ :: _, _, _, e, _ => by cases e
  | .str _ :: _, _, _, e, _ => by cases e
  | .tup _ :: _, _, _, e, _ => by cases e
  | .ref _ :: _, _, _, e, _ => by cases e
  | .fn _ :: _, _, _, e, _ => by cases e
  | .cls _ :: _, _, _, e, _ => by cases e
  | .fls _ :: _, _, _, e, _ => by cases e
theorem rps_texts : ∀ {ds : List D} {ns : List Str} {vs : List V}, textsB ds = some ns → Rps K mg H vs ds → vs = ns.map V.str
  | [], ns, vs, e, r => by simp [textsB] at e; subst e; cases r; rfl
  | .str i :: ds, ns, vs, e, r => by
    simp only [textsB, Option.map_eq_some_iff] at e
    obtain ⟨ms, h1, rfl⟩ := e
    cases r with
    | cons a b =>
      cases a
      rw [List.map_cons, rps_texts h1 b]
  | .non :: _, _, _, e, _ => by cases e
  | .bl _ :: _, _, _, e, _ => by cases e
  | .int _ :: _, _, _, e, _ => by cases e
  | .tup _ :: _, _, _, e, _ => by cases e
  | .ref _ :: _, _, _, e, _ => by cases e
  | .fn _ :: _, _, _, e, _ => by cases e
  | .cls _ :: _, _, _, e, _ => by cases e
  | .fls _ :: _, _, _, e, _ => by cases e
theorem rps_all : ∀ {ds : List D} {b : Bool} {vs : List V}, allB ds = some b → Rps K mg H vs ds → ∃ bs : List Bool, vs = bs.map V.bl ∧ bs.all id = b
  | [], b, vs, e, r => by simp [allB] at e; subst e; cases r; exact ⟨[], rfl, rfl⟩
  | .bl i :: ds, b, vs, e, r => by
    simp only [allB, Option.map_eq_some_iff] at e
    obtain ⟨c, h1, rfl⟩ := e
    cases r with
    | cons a b =>
      cases a
      obtain ⟨bs, h2, h3⟩ := rps_all h1 b
      exact ⟨i :: bs, by rw [h2]; rfl, by rw [List.all_cons, h3]; rfl⟩
  | .non :: _, _, _, e, _ => by cases e
  | .int _ :: _, _, _, e, _ => by cases e
  | .str _ :: _, _, _, e, _ => by cases e
  | .tup _ :: _, _, _, e, _ => by cases e
  | .ref _ :: _, _, _, e, _ => by cases e
  | .fn _ :: _, _, _, e, _ => by cases e
  | .cls _ :: _, _, _, e, _ => by cases e
  | .fls _ :: _, _, _, e, _ => by cases e
theorem rps_any : ∀ {ds : List D} {b : Bool} {vs : List V}, anyB ds = some b → Rps K mg H vs ds → ∃ bs : List Bool, vs = bs.map V.bl ∧ bs.any id = b
  | [], b, vs, e, r => by simp [anyB] at e; subst e; cases r; exact ⟨[], rfl, rfl⟩
  | .bl i :: ds, b, vs, e, r => by
    simp only [anyB, Option.map_eq_some_iff] at e
    obtain ⟨c, h1, rfl⟩ := e
    cases r with
    | cons a b =>
      cases a
      obtain ⟨bs, h2, h3⟩ := rps_any h1 b
      exact ⟨i :: bs, by rw [h2]; rfl, by rw [List.any_cons, h3]; rfl⟩
  | .non :: _, _, _, e, _ => by cases e
  | .int _ :: _, _, _, e, _ => by cases e
  | .str _ :: _, _, _, e, _ => by cases e
  | .tup _ :: _, _, _, e, _ => by cases e
  | .ref _ :: _, _, _, e, _ => by cases e
  | .fn _ :: _, _, _, e, _ => by cases e
  | .cls _ :: _, _, _, e, _ => by cases e
  | .fls _ :: _, _, _, e, _ => by cases e
theorem rps_signs (z : List Nat) : Rps K mg H (z.map fun c => V.str ⟨#[c]⟩) (z.map fun c => D.str ⟨#[c]⟩) := by
  induction z with
  | nil => exact .nil
  | cons c r ih => exact .cons (.str _) ih
end
def Bi.val : Bi → Value
  | .len => .builtin "len" | .int => .type "int" | .abs => .builtin "abs" | .max => .builtin "max" | .min => .builtin "min" | .tuple => .type "tuple" | .list => .type "list"
  | .all => .builtin "all" | .any => .builtin "any" | .sum => .builtin "sum" | .repr => .builtin "repr" | .lrange => .type "range"
def Bi.nm : Bi → Str
  | .len => "len" | .int => "int" | .abs => "abs" | .max => "max" | .min => "min" | .tuple => "tuple" | .list => "list"
  | .all => "all" | .any => "any" | .sum => "sum" | .repr => "repr" | .lrange => "range"
theorem Bi.boot (b : Bi) : bootBuiltins b.nm = some b.val := by
  cases b <;> decide +kernel
section
variable {X : Cx}
theorem call_listS (hc : X.calm = true) : CallR X (.type "list") (fun xs H Q => ∃ z : Str, xs = [.str z] ∧ z.length ≤ sizeLine ∧ ∀ p, H p = none → Q (.ref p) (upd H p (.lst (z.cps.toList.map fun c => .str ⟨#[c]⟩)))) := by
  intro pins s σ H xs us Q I r ⟨z, e, hz, q⟩
  subst e
  obtain ⟨u, rfl, t, rfl⟩ := Vals.one r
  refine call_list_str (I.ok.hd hc) z t (fun h' tk acc' c' hk hS hacc => ?_) hz
  have hf : H s.heap.objs.size = none := I.hok.fresh (Nat.le_refl _)
  refine ⟨.ref s.heap.objs.size, _, I.laid (a := s.heap.objs.size) (t' := tk) hk (Nat.le_refl _) ?_, rfl, q _ hf⟩
  refine ⟨by rw [List.length_map, Array.length_toList]; exact hz, acc'.toList, c', ?_, by simpa using hS⟩
  have hl : acc'.toList.length = z.cps.toList.length := by rw [Array.length_toList, Array.length_toList]; exact hacc.1
  refine vals_of_at (by rw [List.length_map, hl]) fun j x u h1 h2 => ?_
  obtain ⟨c, t, e1, rfl⟩ := hacc.2 j u (by simpa using h2)
  rw [List.getElem?_map] at h1
  rw [show z.cps.toList[j]? = z.cps[j]? by simp, e1] at h1
  cases h1
  exact ⟨t, rfl⟩
theorem call_bi (b : Bi) (hc : X.calm = true) (hg : X.A.guards = some []) (hu : X.A.units + 200 < cLine) : CallR X b.val (rD1 X.K X.mg (biW b)) := by
  intro pins s σ H xs us Q I r ⟨S, ds, q, sr, rd, hb, l⟩
  unfold biW at hb
  split at hb
  · obtain ⟨x, rfl, rx⟩ := rps1 rd
    cases rx
    exact call_len_str pins s σ H _ us Q I r ⟨_, rfl, hb.1, l.here sr hb.2 (.int _)⟩
  · obtain ⟨x, rfl, rx⟩ := rps1 rd
    cases rx with
    | tup g r1 =>
      refine call_len_seq pins s σ H _ us Q I r ⟨_, _, rfl, .inr g, ?_⟩
      rw [r1.len]
      exact l.here sr hb (.int _)
  · obtain ⟨x, rfl, rx⟩ := rps1 rd
    cases rx with
    | fls g r1 =>
      refine call_len_seq pins s σ H _ us Q I r ⟨_, _, rfl, .inl g.1, ?_⟩
      rw [r1.len]
      exact l.here sr hb (.int _)
  · obtain ⟨x, rfl, rx⟩ := rps1 rd
    cases rx
    obtain ⟨ys, h0, hq⟩ := hb
    obtain ⟨vs, g, r1⟩ := sr.isL h0
    refine call_len_seq pins s σ H _ us Q I r ⟨_, _, rfl, .inl (SqL.of g), ?_⟩
    rw [r1.len]
    exact l.here sr hq (.int _)
  · obtain ⟨x, rfl, rx⟩ := rps1 rd
    cases rx
    exact call_int1 pins s σ H _ us Q I r (.inl ⟨_, rfl, l.here sr hb (.int _)⟩)
  · obtain ⟨x, rfl, rx⟩ := rps1 rd
    cases rx
    exact call_int1 pins s σ H _ us Q I r (.inr ⟨_, rfl, l.here sr hb (.int _)⟩)
  · obtain ⟨x, rfl, rx⟩ := rps1 rd
    cases rx
    exact call_abs pins s σ H _ us Q I r ⟨_, rfl, l.here sr hb (.int _)⟩
  · obtain ⟨x, y, rfl, rx, ry⟩ := rps2 rd
    cases rx; cases ry
    exact call_max2 hc pins s σ H _ us Q I r ⟨_, _, rfl, l.here sr hb (.int _)⟩
  · obtain ⟨x, y, rfl, rx, ry⟩ := rps2 rd
    cases rx; cases ry
    exact call_min2 hc pins s σ H _ us Q I r ⟨_, _, rfl, l.here sr hb (.int _)⟩
  · obtain ⟨x, rfl, rx⟩ := rps1 rd
    cases rx
    obtain ⟨ys, ns, h0, h1, h2, hq⟩ := hb
    obtain ⟨vs, g, r1⟩ := sr.isL h0
    have e := rps_ints h1 r1
    subst e
    exact cr_max hc pins s σ H _ us Q I r ⟨_, ns, rfl, SqL.of g, h2, fun m h3 h4 => l.here sr (hq m h3 h4) (.int _)⟩
  · obtain ⟨x, rfl, rx⟩ := rps1 rd
    cases rx
    obtain ⟨ys, ns, h0, h1, h2, hq⟩ := hb
    obtain ⟨vs, g, r1⟩ := sr.isL h0
    have e := rps_ints h1 r1
    subst e
    exact cr_min hc pins s σ H _ us Q I r ⟨_, ns, rfl, SqL.of g, h2, fun m h3 h4 => l.here sr (hq m h3 h4) (.int _)⟩
  · obtain ⟨x, rfl, rx⟩ := rps1 rd
    cases rx
    obtain ⟨ys, h0, hq⟩ := hb
    obtain ⟨vs, g, r1⟩ := sr.isL h0
    exact call_tuple_of pins s σ H _ us Q I r ⟨_, _, rfl, .inl ⟨SqL.of g, l.newT sr hq r1⟩⟩
  · obtain ⟨x, rfl, rx⟩ := rps1 rd
    cases rx with
    | tup g r1 => exact call_tupleT pins s σ H _ us Q I r ⟨_, _, rfl, g, l.here sr hb (.tup g r1)⟩
  · obtain ⟨x, rfl, rx⟩ := rps1 rd
    cases rx
    obtain ⟨ys, h0, hq⟩ := hb
    obtain ⟨vs, g, r1⟩ := sr.isL h0
    exact call_list_of pins s σ H _ us Q I r ⟨_, _, rfl, .inl (SqL.of g), l.newL sr hq r1⟩
  · obtain ⟨x, rfl, rx⟩ := rps1 rd
    cases rx with
    | tup g r1 => exact call_list_of pins s σ H _ us Q I r ⟨_, _, rfl, .inr g, l.newL sr hb r1⟩
  · obtain ⟨x, rfl, rx⟩ := rps1 rd
    cases rx
    exact call_listS hc pins s σ H _ us Q I r ⟨_, rfl, Nat.le_trans hb.1 (by rw [sizeLine_eq]; decide), l.newL sr hb.2 (rps_signs _)⟩
  · obtain ⟨x, rfl, rx⟩ := rps1 rd
    cases rx
    obtain ⟨ys, b, h0, h1, hq⟩ := hb
    obtain ⟨vs, g, r1⟩ := sr.isL h0
    obtain ⟨bs, e, eb⟩ := rps_all h1 r1
    subst e
    exact cr_all hc pins s σ H _ us Q I r ⟨_, bs, rfl, SqL.of g, by rw [eb]; exact l.here sr hq (.bl _)⟩
  · obtain ⟨x, rfl, rx⟩ := rps1 rd
    cases rx
    obtain ⟨ys, b, h0, h1, hq⟩ := hb
    obtain ⟨vs, g, r1⟩ := sr.isL h0
    obtain ⟨bs, e, eb⟩ := rps_any h1 r1
    subst e
    exact cr_any hc pins s σ H _ us Q I r ⟨_, bs, rfl, SqL.of g, by rw [eb]; exact l.here sr hq (.bl _)⟩
  · obtain ⟨x, rfl, rx⟩ := rps1 rd
    cases rx
    obtain ⟨ys, ns, h0, h1, hq⟩ := hb
    obtain ⟨vs, g, r1⟩ := sr.isL h0
    have e := rps_ints h1 r1
    subst e
    exact cr_sum hc pins s σ H _ us Q I r ⟨_, ns, rfl, SqL.of g, l.here sr hq (.int _)⟩
  · obtain ⟨x, rfl, rx⟩ := rps1 rd
    obtain ⟨p, h1, h2, h3, h4, h5, hq⟩ := hb
    obtain ⟨u, rfl, ru⟩ := Vals.one r
    have dp := h1.dp sr rx
    obtain ⟨as, rr⟩ := Dp.reads I p x u dp ru
    have fin := l.here sr hq (.str p.shown)
    show wpAny _ _ (call (.builtin "repr") [u]) _ _ _
    cases rr with
    | none =>
      simp only [PyData.shown] at fin
      exact PySem.P.repr_of_none ⟨.str _, H, I.tok _, ⟨_, rfl⟩, fin⟩
    | bool b =>
      simp only [PyData.shown] at fin
      exact PySem.P.repr_of_bool ⟨.str _, H, I.tok _, ⟨_, rfl⟩, fin⟩
    | int i t =>
      simp only [PyData.shown] at fin
      exact PySem.P.repr_of_int (by simpa [PyData.showable] using h2) ⟨.str _, H, I.tok _, ⟨_, rfl⟩, fin⟩
    | str z t =>
      simp only [PyData.shown] at fin h5
      exact PySem.P.repr_of_str ⟨.str _, H, I.tok _, ⟨_, rfl⟩, fin⟩ h5
    | list a1 a2 a3 a4 =>
      exact repr_of_reads' (.list a1 a2 a3 a4) h2 (PyData.noDict_hsm h3) hg (by omega) (fun _ _ e => e) (fun h' u tk hk => ⟨.str _, H, I.kept hk, ⟨_, rfl⟩, fin⟩) h5
    | tuple a1 a2 a3 a4 =>
      exact repr_of_reads' (.tuple a1 a2 a3 a4) h2 (PyData.noDict_hsm h3) hg (by omega) (fun _ _ e => e) (fun h' u tk hk => ⟨.str _, H, I.kept hk, ⟨_, rfl⟩, fin⟩) h5
    | dict a1 a2 a3 a4 a5 => cases dp
  · exact hb.elim
/-! ### isinstance -/
def Ty.nm : Ty → String
  | .str => "str" | .tuple => "tuple" | .int => "int" | .bool => "bool" | .list => "list" | .dict => "dict"
theorem Ty.boot (b : Ty) : bootBuiltins (Str.ofString b.nm) = some (.type b.nm) := by
  cases b <;> decide +kernel
theorem kit_isTy (K : PySem.W.Frag) (t u : Ty) : PySem.W.kitOne K (.type t.nm) (.type u.nm) = some (isTy t u) := by
  apply kit_ty
  cases t <;> cases u <;> decide +kernel
theorem kit_none (K : PySem.W.Frag) (u : Ty) : PySem.W.kitOne K (.type "NoneType") (.type u.nm) = some false := by
  apply kit_ty
  cases u <;> decide +kernel
theorem kit_any (K : PySem.W.Frag) (t : Ty) : ∀ us : List Ty, PySem.W.kitAny K (.type t.nm) (us.map fun u => .type u.nm) = some (us.any (isTy t))
  | [] => rfl
  | u :: us => by
    rw [List.map_cons]
    refine kitAny_cons (kit_isTy K t u) (fun e => ?_) (fun e => ?_)
    · rw [kit_any K t us, List.any_cons, e, Bool.false_or]
    · rw [List.any_cons, e, Bool.true_or]
theorem kit_anyN (K : PySem.W.Frag) : ∀ us : List Ty, PySem.W.kitAny K (.type "NoneType") (us.map fun u => .type u.nm) = some false
  | [] => rfl
  | u :: us => kitAny_cons (kit_none K u) (fun _ => kit_anyN K us) (fun e => by cases e)
theorem ty_of {K : PySem.W.Frag} {mg : Str → Option Value} {S : Sto} {H : Hp} (sr : SR K mg S H) {x : V} {d : D} {t : Ty} (r : Rp K mg H x d) (h : tyOf S d = some t) : TyX K H x (.type t.nm) := by
  cases r with
  | non => cases h
  | bl b => cases h; exact .base (.bl b)
  | int b => cases h; exact .base (.int b)
  | str b => cases h; exact .base (.str b)
  | tup g _ =>
    cases h
    rcases g with (g | ⟨o, g⟩) | ⟨o, its, n, g, c, _⟩
    · exact .base (.tup g)
    · exact .fTuple g
    · exact .kTuple g c
  | fls g _ =>
    cases h
    rcases g.1 with (g | ⟨o, g⟩) | ⟨o, its, n, g, c, _⟩
    · exact .base (.lst g)
    · exact .base (.frz g)
    · exact .kList g c
  | ref a =>
    simp only [tyOf] at h
    cases e : S a with
    | none => rw [e] at h; cases h
    | some o =>
      rw [e] at h
      cases o with
      | lst xs => cases h; obtain ⟨vs, g, _⟩ := sr _ _ e; exact .base (.lst g)
      | dct xs => cases h; obtain ⟨vs, g, _⟩ := sr _ _ e; exact .base (.dK g)
  | fn _ => cases h
  | cls _ => cases h
/-- isinstance(x, T), isinstance(x, (T1, ..)): what both ask -/
theorem isi_some {K : PySem.W.Frag} {mg : Str → Option Value} {S : Sto} {H : Hp} (sr : SR K mg S H) {x : V} {d : D} {ts : List Ty} {q : Bool → Prop} (r : Rp K mg H x d) (h : isiW d ts S q) :
    ∃ t b, TyX K H x t ∧ q b ∧ PySem.W.kitAny K t (ts.map fun u => .type u.nm) = some b := by
  cases d with
  | non => cases r; exact ⟨_, _, .base .non, h, kit_anyN K ts⟩
  | _ =>
    obtain ⟨t, h1, h2⟩ := h
    exact ⟨_, _, ty_of sr r h1, h2, kit_any K t ts⟩
/-! ### methods -/
def Mt.id : Mt → String
  | .append => "list.append" | .extend => "list.extend" | .pop => "list.pop" | .popAt => "list.pop" | .join => "str.join"
def Mt.nm : Mt → Str
  | .append => "append" | .extend => "extend" | .pop => "pop" | .popAt => "pop" | .join => "join"
def Mt.ty : Mt → String
  | .join => "str" | _ => "list"
theorem Mt.slot (m : Mt) : Slot m.ty m.nm m.id := by
  cases m
  · exact PySem.F.slot_list_append
  · exact PySem.F.slot_list_extend
  · exact PySem.F.slot_list_pop
  · exact PySem.F.slot_list_pop
  · exact PySem.F.slot_str_join
theorem Mt.typ (m : Mt) : typeOf (.builtin m.id) = pure (.type "method_descriptor") := by
  cases m
  · exact PySem.F.type_list_append
  · exact PySem.F.type_list_extend
  · exact PySem.F.type_list_pop
  · exact PySem.F.type_list_pop
  · exact PySem.F.type_str_join
theorem Mt.plain (m : Mt) : PlainAttrs m.ty := by
  cases m
  · exact PySem.F.plainAttrs_list
  · exact PySem.F.plainAttrs_list
  · exact PySem.F.plainAttrs_list
  · exact PySem.F.plainAttrs_list
  · exact PySem.F.plainAttrs_str
theorem mt_P (m : Mt) : MtR X m.id (rDm X.K X.mg (mtW m)) := by
  intro pins s σ H x xs v us Q I rx rs ⟨S, d, ds, q, sr, rd, rds, hb, l⟩
  unfold mtW at hb
  split at hb
  · cases rd
    obtain ⟨y, rfl, ry⟩ := rps1 rds
    obtain ⟨ys, h0, hz, hq⟩ := hb
    obtain ⟨vs, g, r1⟩ := sr.isL h0
    exact mt_append pins s σ H _ _ v us Q I rx rs ⟨_, vs, y, rfl, rfl, g, by rw [r1.len]; exact hz, l.setL sr h0 hq (r1.app (.cons ry .nil)) .non⟩
  · cases rd
    obtain ⟨y, rfl, ry⟩ := rps1 rds
    cases ry
    obtain ⟨ys, zs, h0, h1, hz, hq⟩ := hb
    obtain ⟨vs, g, r1⟩ := sr.isL h0
    obtain ⟨ws, g2, r2⟩ := sr.isL h1
    exact mt_extend pins s σ H _ _ v us Q I rx rs ⟨_, _, vs, ws, rfl, rfl, g, g2, by rw [r1.len, r2.len]; exact hz, l.setL sr h0 hq (r1.app r2) .non⟩
  · cases rd
    cases rps0 rds
    obtain ⟨ys, z, h0, h1, hq⟩ := hb
    obtain ⟨vs, g, r1⟩ := sr.isL h0
    obtain ⟨w, h2, rw'⟩ := r1.get h1
    exact mt_pop pins s σ H _ _ v us Q I rx rs ⟨_, vs, w, rfl, rfl, g, by rw [r1.len]; exact h2, l.setL sr h0 hq r1.dropLast rw'⟩
  · cases rd
    obtain ⟨y, rfl, ry⟩ := rps1 rds
    cases ry
    obtain ⟨ys, k, z, h0, n1, n2, n3, h1, hq⟩ := hb
    obtain ⟨vs, g, r1⟩ := sr.isL h0
    obtain ⟨w, h2, rw'⟩ := r1.get h1
    exact mt_popAt pins s σ H _ _ v us Q I rx rs ⟨_, vs, _, k, w, rfl, rfl, g, n1, n2, by rw [r1.len]; exact n3, h2, l.setL sr h0 hq (r1.erase k) rw'⟩
  · cases rd
    obtain ⟨y, rfl, ry⟩ := rps1 rds
    cases ry
    obtain ⟨ys, zs, h0, h1, hz, hq⟩ := hb
    obtain ⟨vs, g, r1⟩ := sr.isL h0
    have e := rps_texts h1 r1
    subst e
    exact mt_join pins s σ H _ _ v us Q I rx rs ⟨_, _, zs, rfl, rfl, .inl (SqL.of g), by rw [Nat.mul_comm]; exact hz, l.here sr hq (.str _)⟩
  · exact hb.elim
end
end Pi

/-! PiFn: a def's promise where no repr is under way (guards), its body, its call. -/
namespace Pi
open PySem L2 PyProof.Rows
structure FnG (P : Program) (w : World) (K : PySem.W.Frag) (mg : Str → Option Value) (base : Heap) (k : Nat) (f : Addr) (fd : FuncData) (ps : List Str) (sp : Sp) : Prop where
  len : ∀ vs H Q E, sp vs H Q E → vs.length = ps.length
  run : ∀ (A : Around) (outer : List Env) (s : Shared) (H : Hp) (args : Args) (us : List Value) (vs : List V) (Q : VK) (E : XK), Room k A → A.guards = some [] → Env0 P w K mg base A outer s H → BindsTo s fd args (ps.zip us) → Vals vs us → sp vs H Q E →
    codeAny (model P w) A (.call (.ref f) args) (CR (L2.CX P w) outer P w H s Q E) s
section
variable {X : Cx} {k : Nat} {f : Addr} {fd : FuncData} {ps : List Str} {sp : Sp} {W : WX}
theorem run_fnG {pins : List (Addr × Obj)} {σ : L2.St} {H : Hp} {s : Shared} {Q : VK} {us : List Value} {kw : List (Str × Value)} {bs : List Value} {vs : List V} (F : FnG X.prog X.w X.K X.mg X.base k f fd ps sp) (hr : Room k X.A) (hg : X.A.guards = some [])
    (tk : Takes X W) (I : Inv X pins σ H s) (hb : bs.length = ps.length → BindsTo s fd ⟨us, kw⟩ (ps.zip bs)) (r : Vals vs bs) (h : sp vs H Q fun cls d H' => W cls d σ H') : wpAny (model X.prog X.w) X.A (call (.ref f) us kw) (EP X pins σ Q) X.xe s := by
  refine wpAny_call (codeAny_mono (F.run X.A X.stack s H ⟨us, kw⟩ bs vs Q _ hr hg I.env0 (hb (by rw [← r.length]; exact F.len _ _ _ _ h)) r h) fun r s' hq => ?_)
  cases r with
  | error e => exact tk e s' (XE.of_call I (fun cls d H' h => h) hq)
  | ok fl =>
    cases fl with
    | ret u => exact I.after hq
    | next => exact False.elim hq
    | brk => exact False.elim hq
    | cont => exact False.elim hq
end
theorem guards_deeper {A : Around} {env : Env} (h : A.guards = some []) : (A.deeper env).guards = some [] := h
/-- THE RULE: a def of the text, by its body -/
theorem fnG_of {P : Program} {w : World} {K : PySem.W.Frag} {mg : Str → Option Value} {base : Heap} {k : Nat} {f : Addr} {name qual : Str} {params : Arguments} {body : List Stmt} {scope : Scope} {dV kV doc pm cdv ct oc : Value} {an od : Option Addr}
    {osl : Array (Option Value)} {N ps : List Str} {sp : Sp} (lk : K.lookup f = some ⟨oc, od, .func (PySem.W.fnOf name qual params body scope dV kV doc pm an cdv ct), osl⟩) (hcd : PySem.W.codeIn K cdv qual = true) (S : FnScope N ps scope)
    (len : ∀ vs H Q E, sp vs H Q E → vs.length = ps.length)
    (hbody : ∀ (A : Around) (outer : List Env) (s : Shared) (H : Hp) (vs : List V) (Q : VK) (E : XK), Room k (A.deeper (envOfC qual scope s.heap.objs.size f cdv)) → A.guards = some [] → sp vs H Q E →
      ∃ t, PSs (cxOf (L2.CX P w) P w K mg base N qual scope f cdv A outer s H E) body t ∧ t { nx := fun _ H' => Q .non H', rt := Q } (start N vs) H) :
    FnG P w K mg base (k + 1) f (PySem.W.fnOf name qual params body scope dV kV doc pm an cdv ct) ps sp := by
  refine ⟨len, fun A outer s H args us vs Q E hr hgu e0 hb r hsp => ?_⟩
  have alen := len vs H Q E hsp
  have stays : ∀ b o, base.get? b = some o → s.heap.get? b = some o := fun b o e => (e0.bs b o e).1
  have inS := e0.mod.kin.keeps stays
  have nolim := e0.mod.nolimit.keeps stays
  have kinds : ∀ y ∈ ps.zip us, scope.names.lookup y.1 = some .local ∨ (scope.names.lookup y.1 = some .cell ∧ ((cellsFrom (s.heap.objs.size + 1) scope.names []).lookup y.1).isSome = true) := by
    rintro ⟨n, v⟩ hy
    exact (S.par n (List.of_mem_zip hy).1).imp id fun q => ⟨q, PySem.W.cellsFrom_some _ _ _ (.inl q)⟩
  apply codeAny_call_function hr.depth (inS _ _ lk) rfl S.co S.gen rfl (PySem.W.codeRec_of inS hcd)
  apply hb
  apply wpAny_newFunctionEnv_cells S.kind kinds
  intro env he s1 x
  cases he
  refine ⟨nolim.keeps x.toInCall.keep, codeAny_func ?_⟩
  obtain ⟨t, ht, hq⟩ := hbody A outer s H vs Q E (hr.deeper _) hgu hsp
  have J := inv_start (CX := L2.CX P w) (E := E) S hr.hd e0 alen r x
  refine wpAny_mono (ht.run [] s1 _ H _ J hq) (fun fl s' hs => ?_) (fun _ _ hs => hs)
  cases fl with
  | brk => exact hs.elim fun _ h => h.elim fun _ h => h.2.elim
  | cont => exact hs.elim fun _ h => h.elim fun _ h => h.2.elim
  | next => obtain ⟨_, G, J', q⟩ := hs; exact ⟨.non, G, J'.os, J'.bare, J'.base, J'.hok, rfl, q⟩
  | ret u => obtain ⟨v, _, G, J', rv, q⟩ := hs; exact ⟨v, G, J'.os, J'.bare, J'.base, J'.hok, rv, q⟩
end Pi

/-! PiChk: does a term match a piece of the row's syntax (a Bool, for the kernel). -/
namespace Pi
open PySem L2
/-- what is known where the syntax stands -/
structure SC where
  N : List Str
  sc : Scope
  fn : Str → Bool
  free : List Str
  con : List (Str × D)
  tab : Tab
  exc : List Str
  kwp : List (Str × Nat × List Str × List Str)
def visB (sc : Scope) (x : Str) : Bool := match sc.names.lookup x with
  | some .local => true | some .cell => true | some .free => true | _ => false
def locB (sc : Scope) (x : Str) : Bool := match sc.names.lookup x with
  | some .local => true | some .cell => true | _ => false
def lclB (sc : Scope) (x : Str) : Bool := match sc.names.lookup x with
  | some .local => true | _ => false
def glB (sc : Scope) (x : Str) : Bool := match sc.names.lookup x with
  | some .globalImplicit => true | _ => false
def okName (x : Str) : Bool := !decide (x = ("__debug__" : Str)) && !decide (x = ("__classdict__" : Str)) && !decide (x = ("__name__" : Str))
def atN (s : SC) (i : Nat) (x : Str) : Bool := decide (s.N[i]? = some x)
def stB (s : SC) (x : Str) : Bool := locB s.sc x && (s.fn x || lclB s.sc x)
def litB : D → Const → Bool
  | .non, .none => true
  | .bl b, .bool c => b == c
  | .int i, .int j => decide (i = j)
  | .str x, .str y => decide (x = y)
  | _, _ => false
def eqLit : D → D → Bool
  | .non, .non => true
  | .bl b, .bl c => b == c
  | .int i, .int j => decide (i = j)
  | .str x, .str y => decide (x = y)
  | _, _ => false
def conB (s : SC) (x : Str) (d : D) : Bool := match s.con.lookup x with
  | some e => eqLit d e
  | none => (match d with
    | .fn y => decide (x = y) && (s.tab.lookup x).isSome
    | _ => false)
def freeB (s : SC) (x : Str) : Bool := s.free.contains x
def notIf : Expr → Bool
  | .IfExp .. => false | _ => true
def notSet : Expr → Bool
  | .Set .. => false | _ => true
def notStar : Expr → Bool
  | .Starred .. => false | _ => true
def notSlice : Expr → Bool
  | .Slice .. => false | _ => true
def notComp : Expr → Bool
  | .ListComp .. => false | .SetComp .. => false | .DictComp .. => false | _ => true
/-- no super() -/
def baseB : Expr → Bool
  | .Call (.Name _ _) [] [] _ => false | _ => true
def tyOneB (s : SC) (t : Ty) : Expr → Bool
  | .Name x _ => decide (x = Str.ofString t.nm) && glB s.sc x && freeB s x && okName x
  | _ => false
def tyAllB (s : SC) : List Ty → List Expr → Bool
  | [], [] => true
  | t :: ts, e :: es => tyOneB s t e && tyAllB s ts es
  | _, _ => false
def tysB (s : SC) (ts : List Ty) : Expr → Bool
  | .Name x p => (match ts with
    | [t] => tyOneB s t (.Name x p)
    | _ => false)
  | .Tuple es _ _ => decide (ts.length ≤ 8) && tyAllB s ts es
  | _ => false
def nameAt (s : SC) (i : Nat) : Expr → Bool
  | .Name x _ => atN s i x && stB s x && okName x
  | _ => false
def namesAt (s : SC) : List Nat → List Expr → Bool
  | [], [] => true
  | i :: is, e :: es => nameAt s i e && namesAt s is es
  | _, _ => false
def tgB (s : SC) (tg : List Nat) (tup : Bool) (e : Expr) : Bool :=
  if tup then (match e with
    | .Tuple es _ _ => namesAt s tg es
    | _ => false)
  else (match tg with
    | [i] => nameAt s i e
    | _ => false)
def isTupE : Expr → Bool
  | .Tuple .. => true | _ => false
def ownP (s : SC) (own : List Nat) : List (Str × Nat) := own.filterMap fun i => (s.N[i]?).map fun x => (x, i)
def SC.blk (s : SC) (scope : Scope) : SC := { s with sc := relS scope s.sc, fn := fun x => scope.names.lookup x == some .cell }
def keysB : List Str → List (Option Expr) → Bool
  | [], [] => true
  | k :: ks, some (.Constant (.str x) _ _) :: es => decide (k = x) && keysB ks es
  | _, _ => false
def kwB : List Str → List Keyword → Bool
  | [], [] => true
  | k :: ks, ⟨some x, _, _⟩ :: es => decide (k = x) && kwB ks es
  | _, _ => false
mutual
def okE (s : SC) : IE → Expr → Bool
  | .var i, .Name x _ => atN s i x && visB s.sc x && okName x
  | .lit d, .Constant c _ _ => litB d c
  | .glo x d, .Name y _ => decide (x = y) && glB s.sc y && conB s y d && okName y
  | .bin op a b, .BinOp l o r _ => decide (o = op.py) && okE s a l && okE s b r
  | .neg a, .UnaryOp .USub e _ => okE s a e
  | .cmp op a b, .Compare l [o] [r] _ => decide (o = op.py) && okE s a l && okE s b r && notSet r
  | .chn op op' a b c, .Compare l [o, o'] [r, t] _ => decide (o = op.py) && decide (o' = op'.py) && okE s a l && okE s b r && okE s c t && notSet r && notSet t
  | .inv a, .UnaryOp .Not e _ => okE s a e && notIf e
  | .boo k es, .BoolOp o fs _ => decide (o = (if k then BoolOp.And else BoolOp.Or)) && okB s es fs
  | .ife t a b, .IfExp u x y _ => okE s t u && okE s a x && okE s b y && notIf u
  | .tup es, .Tuple fs _ _ => okL s es fs
  | .lst es, .List fs _ => okL s es fs
  | .dis ks es, .Dict keys vals _ => keysB ks keys && okP s es vals && decide (keys.length = vals.length) && decide (0 < keys.length) && decide (keys.length ≤ 15)
  | .cal f es, .Call (.Name x _) args [] _ => decide (x = f) && glB s.sc x && okName x && (s.tab.lookup x).isSome && okP s es args
  | .cak f es ks vs rs, .Call (.Name x _) args kws _ => decide (x = f) && glB s.sc x && okName x && (s.tab.lookup x).isSome && decide ((f, args.length, ks, rs) ∈ s.kwp) && okP s es args && kwB ks kws && okK s vs kws && decide (0 < kws.length)
  | .bui b es, .Call (.Name x _) args [] _ => decide (x = b.nm) && glB s.sc x && okName x && freeB s x && okP s es args && decide (0 < args.length)
  | .mxd a d, .Call (.Name x _) [e] [⟨some n, v, _⟩] _ => decide (x = ("max" : Str)) && decide (n = ("default" : Str)) && glB s.sc x && okName x && freeB s x && okE s a e && notStar e && okE s d v
  | .isi a ts, .Call (.Name x _) [e, t] [] _ => decide (x = ("isinstance" : Str)) && glB s.sc x && okName x && freeB s x && okE s a e && notStar e && tysB s ts t
  | .met m a es, .Call (.Attribute o nm apos) args [] cpos => decide (nm = m.nm) && (apos.endLine == cpos.line) && baseB o && okE s a o && okP s es args && decide (args.length < 20)
  | .idx a i, .Subscript v k _ => okE s a v && okE s i k && notSlice k
  | .slc a lo hi, .Subscript v (.Slice l h none _) _ => okE s a v && okO s lo l && okO s hi h
  | .lc elt own tg tup it ifs, .ListComp e [⟨t, i, fs, isa⟩] scope _ => decide (isa = 0) && okI s it i tup && notSet i && blkC s.N s.sc scope (ownP s own) && decide ((ownP s own).map (·.2) = own) && decide (scope.kind = .function) &&
      tgB (s.blk scope) tg tup t && tg.all own.contains && okE (s.blk scope) elt e && (match fs with
        | [] => (match ifs with
          | .nil => true
          | _ => false)
        | [f] => okB (s.blk scope) ifs [f]
        | _ => false)
  | .lcc elt own tg tup it vs tg1 tup1 it1, .ListComp e [⟨t, i, fs, isa⟩, ⟨t1, i1, fs1, isa1⟩] scope _ => decide (isa = 0) && decide (isa1 = 0) && fs.isEmpty && fs1.isEmpty && okI s it i tup && notSet i && blkC s.N s.sc scope (ownP s own) && decide ((ownP s own).map (·.2) = own) && decide (scope.kind = .function) &&
      tgB (s.blk scope) tg tup t && tg.all own.contains && okI (s.blk scope) it1 i1 tup1 && notSet i1 && tgB (s.blk scope) tg1 tup1 t1 && tg1.all vs.contains && vs.all own.contains && okE (s.blk scope) elt e
  | _, _ => false
/-- a display's parts (stars let in) -/
def okL (s : SC) : IEs → List Expr → Bool
  | .nil, [] => true
  | .cons a r, e :: es => okE s a e && notStar e && okL s r es
  | .star a r, .Starred e _ :: es => okE s a e && okL s r es
  | _, _ => false
/-- arguments, no star -/
def okP (s : SC) : IEs → List Expr → Bool
  | .nil, [] => true
  | .cons a r, e :: es => okE s a e && notStar e && okP s r es
  | _, _ => false
def okB (s : SC) : IEs → List Expr → Bool
  | .cons a .nil, [e] => okE s a e && notIf e
  | .cons a r, e :: e' :: es => okE s a e && notIf e && okB s r (e' :: es)
  | _, _ => false
def okO (s : SC) : IEs → Option Expr → Bool
  | .nil, none => true
  | .cons a .nil, some e => okE s a e
  | _, _ => false
def okK (s : SC) : IEs → List Keyword → Bool
  | .nil, [] => true
  | .cons a r, ⟨_, e, _⟩ :: es => okE s a e && okK s r es
  | _, _ => false
def okI (s : SC) : II → Expr → Bool → Bool
  | .of a, e, _ => okE s a e && (match e with
    | .Call (.Name x _) _ _ _ => !decide (x = ("range" : Str)) && !decide (x = ("enumerate" : Str)) && !decide (x = ("zip" : Str))
    | _ => true)
  | .rng es, .Call (.Name x _) args [] _, _ => decide (x = ("range" : Str)) && glB s.sc x && freeB s x && okP s es args && (match args with
    | [_] => true | [_, _] => true | _ => false)
  | .enu a, .Call (.Name x _) [e] [] _, tup => tup && decide (x = ("enumerate" : Str)) && glB s.sc x && freeB s x && okE s a e && notStar e
  | .zip a b, .Call (.Name x _) [e, f] [] _, tup => tup && decide (x = ("zip" : Str)) && glB s.sc x && freeB s x && okE s a e && okE s b f && notStar e && notStar f
  | _, _, _ => false
end
/-- an assignment whose comprehension swaps with its target -/
def swB (s : SC) (v : Expr) (x : Str) (pos : Pos) : Bool := match v with
  | .ListComp _ _ cs p => lclB s.sc x && (pos.line == p.line) && !(cs.names.any fun (n, k) => n == x && (k == .local || k == .cell))
  | _ => false
def lcsB : Expr → Bool
  | .ListComp .. => true | _ => false
/-- a, b = x, y with plain locals, stored from the right -/
def parB (s : SC) (ts vs : List Expr) : Bool := (decide (ts.length = 2) || decide (ts.length = 3)) && decide (vs.length = ts.length) && vs.all notStar &&
  (match ts with
  | .Name x p :: .Name y q :: [] => lclB s.sc x && lclB s.sc y && (q.line == p.line) && !decide (x = y)
  | .Name x p :: .Name y q :: .Name z r :: [] => lclB s.sc x && lclB s.sc y && lclB s.sc z && (q.line == p.line) && (r.line == p.line) && !decide (x = y) && !decide (x = z) && !decide (y = z)
  | _ => false) && !(vs.all (foldedForSure 8)) && !(vs.all (constantsAlone 8))
/-- no swap of the stores -/
def noSwap (s : SC) (ts vs : List Expr) : Bool := (!(decide (ts.length = 2) || decide (ts.length = 3)) || !decide (vs.length = ts.length)) || vs.all (foldedForSure 8) && vs.all notStar ||
  (vs.all notStar && ts.any fun | .Name x _ => !lclB s.sc x | _ => true)
def asgB (s : SC) (t v : Expr) : Bool := match v with
  | .Tuple vs _ _ => (match t with
    | .Tuple ts _ _ => noSwap s ts vs
    | _ => true)
  | .SetComp .. => false
  | .DictComp .. => false
  | _ => true
mutual
def okS (s : SC) : IS → Stmt → Bool
  | .asg tg tup e, .Assign [t] v _ => tgB s tg tup t && okE s e v && asgB s t v
  | .par tg es, .Assign [.Tuple ts _ _] (.Tuple vs _ _) _ => namesAt s tg ts && okP s es vs && parB s ts vs && decide tg.Nodup
  | .sto o i e, .Assign [.Subscript p q _] v _ => okE s o p && okE s i q && okE s e v && notSlice q && notComp v
  | .aug i op e, .AugAssign (.Name x _) o v _ => atN s i x && stB s x && okName x && decide (o = op.py) && okE s e v
  | .exp e, .Expr v _ => okE s e v && notComp v
  | .iff c a b, .If t x y _ => okE s c t && notIf t && okSs s a x && okSs s b y
  | .whl c b, .While t x [] _ => okE s c t && notIf t && okSs s b x
  | .for_ tg tup it b, .For t i x [] _ => tgB s tg tup t && okI s it i tup && notSet i && okSs s b x
  | .ret e, .Return (some v) _ => okE s e v
  | .retN, .Return none _ => true
  | .brk, .Break _ => true
  | .cnt, .Continue _ => true
  | .pas, .Pass _ => true
  | .rai c (.cons (.lit (.str m)) .nil), .Raise (some (.Call (.Name x _) [.Constant (.str n) _ _] [] _)) none _ => decide (c = x) && decide (m = n) && glB s.sc x && okName x && decide (x ∈ s.exc)
  | _, _ => false
def okSs (s : SC) : ISs → List Stmt → Bool
  | .nil, [] => true
  | .cons a r, e :: es => okS s a e && okSs s r es
  | _, _ => false
end
end Pi

/-! PiAd: expressions: from the parts' readings to the whole's. -/
namespace Pi
open PySem L2 PyProof.Rows
def RX (mg : Str → Option Value) (c : Str) (cls : Value) (dx : Option Addr) : Prop := ∃ a, mg c = some (.ref a) ∧ cls = .ref a ∧ dx = none
section
variable (K : PySem.W.Frag) (mg : Str → Option Value)
/-- how the pure side's exceptions lead to what is wished -/
def LX (W : WX) (S : Sto) (H : Hp) (φ : Fr) (E : XE) : Prop := ∀ c a S' cls dx σ' H', E c a S' → Ev S H S' H' → SR K mg S' H' → FR K mg H' σ' φ → RX mg c cls dx → W cls dx σ' H'
def tE (W : WX) (C : CallT) (e : IE) : TE := fun σ H Q => ∃ φ S q E, FR K mg H σ φ ∧ SR K mg S H ∧ wE C e φ S q E ∧ Lk K mg S H q Q ∧ LX K mg W S H φ E
def LkL (S : Sto) (H : Hp) (q : KL) (Q : List V → Hp → Prop) : Prop := ∀ z S' v H', q z S' → Ev S H S' H' → SR K mg S' H' → Rps K mg H' v z → Q v H'
def tL (W : WX) (C : CallT) (e : IEs) : TA := fun σ H Q => ∃ φ S q E, FR K mg H σ φ ∧ SR K mg S H ∧ wL C e φ S q E ∧ LkL K mg S H q Q ∧ LX K mg W S H φ E
def LkB (S : Sto) (H : Hp) (q : KE) (Q : Bool → Hp → Prop) : Prop := ∀ z S' H', q z S' → Ev S H S' H' → SR K mg S' H' → ∃ b, z = .bl b ∧ Q b H'
def tT (W : WX) (C : CallT) (e : IE) : TT := fun σ H Q => ∃ φ S q E, FR K mg H σ φ ∧ SR K mg S H ∧ wE C e φ S q E ∧ LkB K mg S H q Q ∧ LX K mg W S H φ E
def tBv (W : WX) (C : CallT) (k : Bool) (e : IEs) : TE := fun σ H Q => ∃ φ S q E, FR K mg H σ φ ∧ SR K mg S H ∧ wB C k e φ S q E ∧ Lk K mg S H q Q ∧ LX K mg W S H φ E
def tBt (W : WX) (C : CallT) (k : Bool) (e : IEs) : TT := fun σ H Q => ∃ φ S q E, FR K mg H σ φ ∧ SR K mg S H ∧ wB C k e φ S q E ∧ LkB K mg S H q Q ∧ LX K mg W S H φ E
def tOo (W : WX) (C : CallT) (e : IEs) : TO := fun σ H Q => ∃ φ S q E, FR K mg H σ φ ∧ SR K mg S H ∧ wO C e φ S q E ∧ (∀ z S' H', q z S' → Ev S H S' H' → SR K mg S' H' → Q z H') ∧ LX K mg W S H φ E
/-- what an iterator yields: these items, while the store is ok -/
structure JOk (J : It) (H0 : Hp) (src : Src) : Prop where
  go : ∀ i S H, i < src.items.length → Tk K H0 H → SR K mg S H → src.ok S → J.go i H
  yld : ∀ i S H x H' d, src.items[i]? = some d → Tk K H0 H → SR K mg S H → src.ok S → J.yld i H x H' → Ev S H S H' ∧ SR K mg S H' ∧ Rp K mg H' x d
  stop : ∀ i S H, src.items.length ≤ i → i = src.items.length → Tk K H0 H → SR K mg S H → src.ok S → J.stop i H
def tI (W : WX) (C : CallT) (e : II) : TI := fun σ H R => ∃ φ S q E, FR K mg H σ φ ∧ SR K mg S H ∧ wI C e φ S q E ∧ (∀ src S' H' J, q src S' → Ev S H S' H' → SR K mg S' H' → JOk K mg J H' src → R J H') ∧ LX K mg W S H φ E
variable {K mg}
theorem Lk.after {S S1 : Sto} {H H1 : Hp} {q : KE} {Q : VK} (l : Lk K mg S H q Q) (e : Ev S H S1 H1) : Lk K mg S1 H1 q Q := fun z S' v H' h e' s r => l z S' v H' h (e.trans e') s r
theorem LkL.after {S S1 : Sto} {H H1 : Hp} {q : KL} {Q : List V → Hp → Prop} (l : LkL K mg S H q Q) (e : Ev S H S1 H1) : LkL K mg S1 H1 q Q := fun z S' v H' h e' s r => l z S' v H' h (e.trans e') s r
theorem LkB.after {S S1 : Sto} {H H1 : Hp} {q : KE} {Q : Bool → Hp → Prop} (l : LkB K mg S H q Q) (e : Ev S H S1 H1) : LkB K mg S1 H1 q Q := fun z S' H' h e' s => l z S' H' h (e.trans e') s
theorem LX.after {W : WX} {S S1 : Sto} {H H1 : Hp} {φ : Fr} {E : XE} (l : LX K mg W S H φ E) (e : Ev S H S1 H1) : LX K mg W S1 H1 φ E := fun c a S' cls dx σ' H' h e' s f r => l c a S' cls dx σ' H' h (e.trans e') s f r
theorem LX.none {W : WX} {S : Sto} {H : Hp} {φ : Fr} : LX K mg W S H φ XF := fun _ _ _ _ _ _ _ h => h.elim
end
structure Amb (s : SC) (C : CallT) (k : Nat) (X : Cx) : Prop where
  N : X.N = s.N
  nd : s.N.Nodup
  sc : X.env.scope = s.sc
  kd : s.sc.kind = .function
  calm : X.calm = true
  gu : X.A.guards = some []
  rm : Room k X.A
  fn : ∀ x, s.fn x = true → X.fn x = true
  free : ∀ x, s.free.contains x = true → X.mg x = none
  con : ∀ x d, s.con.lookup x = some d → ∃ u v, X.mg x = some u ∧ RelV v u ∧ ∀ H, Rp X.K X.mg H v d
  cl : ∀ f fd ds S q e, s.tab.lookup f = some fd → C f ds S q e → ds.length = fd.ps.length
  cal : ∀ f fd, s.tab.lookup f = some fd → ∃ fa fdt, X.mg f = some (.ref fa) ∧ PySem.W.keepIn X.K (.ref fa) = true ∧ (∀ us : List Value, us.length = fd.ps.length → bindArgs fdt ⟨us, []⟩ = pure (fd.ps.zip us)) ∧
    FnG X.prog X.w X.K X.mg X.base k fa fdt fd.ps (fun vs H Q E => vs.length = fd.ps.length ∧ ∃ S ds q e, SR X.K X.mg S H ∧ Rps X.K X.mg H vs ds ∧ C f ds S q e ∧ Lk X.K X.mg S H q Q ∧
      ∀ c a S' cls dx H', e c a S' → Ev S H S' H' → SR X.K X.mg S' H' → RX X.mg c cls dx → E cls dx H') ∧
    ∀ n ks rs, (f, n, ks, rs) ∈ s.kwp → n + rs.length = fd.ps.length ∧ (∀ r ∈ rs, r ∈ ks) ∧ ∀ us ws : List Value, us.length = n → ws.length = ks.length → bindArgs fdt ⟨us, ks.zip ws⟩ = pure (fd.ps.zip (us ++ rs.map fun r => ((ks.zip ws).lookup r).getD .none))
  exc : ∀ c, c ∈ s.exc → ∃ a, X.mg c = some (.ref a) ∧ PySem.W.excIn X.K a [.type "ValueError", .type "Exception", .type "BaseException", .type "object"] "ValueError.__new__" = true ∧ PySem.W.keepIn X.K (.ref a) = true ∧
    PySem.W.subIn X.K (.ref a) (.type "BaseException") = some true ∧ PySem.W.typeIn X.K (.ref a) = some (.type "type")
section
variable {s : SC} {C : CallT} {k : Nat} {X : Cx} {W : WX}
theorem Amb.vis (A : Amb s C k X) {x : Str} (h : visB s.sc x = true) : Vis X.env.scope x := by
  rw [A.sc]
  unfold visB at h
  split at h
  · exact .inl (by assumption)
  · exact .inr (.inl (by assumption))
  · exact .inr (.inr (by assumption))
  · cases h
theorem Amb.loc (A : Amb s C k X) {x : Str} (h : locB s.sc x = true) : Loc X.env.scope x := by
  rw [A.sc]
  unfold locB at h
  split at h
  · exact .inl (by assumption)
  · exact .inr (by assumption)
  · cases h
theorem Amb.lcl (A : Amb s C k X) {x : Str} (h : lclB s.sc x = true) : X.env.scope.names.lookup x = some .local := by
  rw [A.sc]
  unfold lclB at h
  split at h
  · assumption
  · cases h
theorem Amb.gl (A : Amb s C k X) {x : Str} (h : glB s.sc x = true) : Gl X x := by
  show X.env.scope.names.lookup x = _
  rw [A.sc]
  unfold glB at h
  split at h
  · assumption
  · cases h
theorem Amb.st (A : Amb s C k X) {x : Str} (h : stB s x = true) : Loc X.env.scope x ∧ (X.fn x = true ∨ X.env.scope.names.lookup x = some .local) := by
  unfold stB at h
  rw [Bool.and_eq_true, Bool.or_eq_true] at h
  exact ⟨A.loc h.1, h.2.imp (A.fn x) A.lcl⟩
theorem Amb.ix (A : Amb s C k X) {i : Nat} {x : Str} (h : atN s i x = true) : X.N[i]? = some x := by
  rw [A.N]
  exact of_decide_eq_true h
theorem okName_ok {x : Str} (h : okName x = true) : (x == ("__debug__" : Str)) = false ∧ (x == ("__classdict__" : Str)) = false ∧ x ≠ "__name__" := by
  unfold okName at h
  simp only [Bool.and_eq_true, Bool.not_eq_true', decide_eq_false_iff_not] at h
  exact ⟨beq_eq_false_iff_ne.mpr h.1.1, beq_eq_false_iff_ne.mpr h.1.2, h.2⟩
theorem Amb.hu (A : Amb s C k X) : X.A.units + 200 < cLine := by have := A.rm.un; omega
theorem pe_imp {e : Expr} {t t' : TE} (h : PE X e t) (i : ∀ σ H Q, t' σ H Q → t σ H Q) : PE X e t' := ⟨fun pins s σ H Q I q => h.run pins s σ H Q I (i σ H Q q)⟩
theorem pt_imp {e : Expr} {t t' : TT} (h : PT X e t) (i : ∀ σ H Q, t' σ H Q → t σ H Q) : PT X e t' := ⟨fun pins s σ H Q I q => h.run pins s σ H Q I (i σ H Q q)⟩
theorem pw_imp {e : Expr} {t t' : TT} (h : PW X e t) (i : ∀ σ H Q, t' σ H Q → t σ H Q) : PW X e t' := ⟨fun wh pins s σ H Q I q => h.run wh pins s σ H Q I (i σ H Q q)⟩
theorem pa_imp {e : List Expr} {t t' : TA} (h : PA X e t) (i : ∀ σ H Q, t' σ H Q → t σ H Q) : PA X e t' := ⟨fun pos pins s σ H Q I q => h.run pos pins s σ H Q I (i σ H Q q)⟩
abbrev pE (X : Cx) (W : WX) (C : CallT) (e : IE) (x : Expr) : Prop := PE X x (tE X.K X.mg W C e)
abbrev pL (X : Cx) (W : WX) (C : CallT) (e : IEs) (x : List Expr) : Prop := PA X x (tL X.K X.mg W C e)
/-- two parts, then an operation -/
theorem tE_two {K : PySem.W.Frag} {mg : Str → Option Value} {C : CallT} {a b : IE} {w : D → D → Sto → KE → Prop} {σ : L2.St} {H : Hp} {Q : VK} {φ : Fr} {S : Sto} {q : KE} {E : XE} (fr : FR K mg H σ φ) (sr : SR K mg S H)
    (h : wE C a φ S (fun x S1 => wE C b φ S1 (fun y S2 => w x y S2 q) E) E) (l : Lk K mg S H q Q) (lx : LX K mg W S H φ E) : tE K mg W C a σ H fun x H1 => tE K mg W C b σ H1 fun y H2 => rD2 K mg w x y H2 Q :=
  ⟨φ, S, _, E, fr, sr, h, fun x S1 vx H1 hx e1 s1 rx => ⟨φ, S1, _, E, fr.mono (e1.tk sr), s1, hx, fun y S2 vy H2 hy e2 s2 ry => ⟨S2, x, y, q, s2, rx.mono (e2.tk s1), ry, hy, l.after (e1.trans e2)⟩, lx.after e1⟩, lx⟩
theorem ad_bin {op : BOp} {a b : IE} {x y : Expr} {pos : Pos} (ha : pE X W C a x) (hb : pE X W C b y) : pE X W C (.bin op a b) (.BinOp x op.py y pos) :=
  pe_imp (pe_op (op_bop op) ha hb) fun σ H Q ⟨φ, S, q, E, fr, sr, h, l, lx⟩ => tE_two fr sr h l lx
theorem ad_neg {a : IE} {x : Expr} {pos : Pos} (ha : pE X W C a x) : pE X W C (.neg a) (.UnaryOp .USub x pos) :=
  pe_imp (pe_un un_neg ha) fun σ H Q ⟨φ, S, q, E, fr, sr, h, l, lx⟩ => ⟨φ, S, _, E, fr, sr, h, fun x S1 vx H1 ⟨i, hx, hq⟩ e1 s1 rx => by
    subst hx
    cases rx
    exact ⟨i, rfl, l.after e1 |>.here s1 hq (.int _)⟩, lx⟩
theorem ad_cmp {op : COp} {a b : IE} {x y : Expr} {pos : Pos} (A : Amb s C k X) (ha : pE X W C a x) (hb : pE X W C b y) (hm : behindInMarks op.py y = false) : pE X W C (.cmp op a b) (.Compare x [op.py] [y] pos) :=
  pe_imp (pe_cmpR (op_cop op (by have := A.hu; omega)) ha hb hm) fun σ H Q ⟨φ, S, q, E, fr, sr, h, l, lx⟩ => tE_two (w := fun d e S q => copW op d e S fun k => q (.bl k) S) fr sr h l lx
theorem ad_cmpT {op : COp} {a b : IE} {x y : Expr} {pos : Pos} (A : Amb s C k X) (ha : pE X W C a x) (hb : pE X W C b y) (hm : behindInMarks op.py y = false) : PT X (.Compare x [op.py] [y] pos) (tT X.K X.mg W C (.cmp op a b)) := by
  refine pt_imp (pt_cmpR (op_cop op (by have := A.hu; omega)) ha hb hm) fun σ H Q ⟨φ, S, q, E, fr, sr, h, l, lx⟩ => ?_
  refine tE_two (w := fun d e S q => copW op d e S fun k => q (.bl k) S) fr sr h (fun z S' v H' hz e' s' r => ?_) lx
  obtain ⟨b, rfl, hb⟩ := l z S' H' hz e' s'
  cases r
  exact ⟨b, rfl, hb⟩
theorem behind_of {op : CmpOp} {y : Expr} (h : notSet y = true) : behindInMarks op y = false := by
  cases y <;> first | rfl | cases h
end
end Pi

/-! PiAd2: expressions, further: chains, and, or, displays, calls, methods, subscripts. -/
namespace Pi
open PySem L2 PyProof.Rows
section
variable {s : SC} {C : CallT} {k : Nat} {X : Cx} {W : WX}
abbrev pT (X : Cx) (W : WX) (C : CallT) (e : IE) (x : Expr) : Prop := PT X x (tT X.K X.mg W C e)
theorem last_of {o o' : CmpOp} {r t : Expr} (h : notSet r = true) (h' : notSet t = true) : lastMarks [o, o'] [r, t] = false := by
  cases t <;> first | rfl | cases h'
theorem tE_chain {K : PySem.W.Frag} {mg : Str → Option Value} {C : CallT} {a b c : IE} {op op' : COp} {σ : L2.St} {H : Hp} {Q : VK} {φ : Fr} {S : Sto} {q : KE} {E : XE} (fr : FR K mg H σ φ) (sr : SR K mg S H)
    (h : wE C (.chn op op' a b c) φ S q E) (l : Lk K mg S H q Q) (lx : LX K mg W S H φ E) :
    tChain (rD2 K mg fun d e S q => copW op d e S fun k => q (.bl k) S) (rD2 K mg fun d e S q => copW op' d e S fun k => q (.bl k) S) (tE K mg W C a) (tE K mg W C b) (tE K mg W C c) σ H Q := by
  refine ⟨φ, S, _, E, fr, sr, h, fun x S1 vx H1 hx e1 s1 rx => ⟨φ, S1, _, E, fr.mono (e1.tk sr), s1, hx, fun y S2 vy H2 hy e2 s2 ry => ?_, lx.after e1⟩, lx⟩
  refine ⟨S2, x, y, fun d S' => ∃ k, d = .bl k ∧ S' = S2 ∧ (if k = true then wE C c φ S2 (fun z S3 => copW op' y z S3 fun k' => q (.bl k') S3) E else q (.bl false) S2), s2, rx.mono (e2.tk s1), ry, ?_, ?_⟩
  · exact copW_mono (fun k z => ⟨k, rfl, rfl, z⟩) hy
  · rintro z S' v H' ⟨k, rfl, rfl, hz⟩ e3 s3 r3
    cases r3
    refine ⟨k, rfl, ?_⟩
    cases k with
    | false => exact l.after (e1.trans (e2.trans e3)) |>.here s3 hz (.bl _)
    | true =>
      have t3 : Tk K H H' := (e1.trans (e2.trans e3)).tk sr
      exact ⟨φ, _, _, E, fr.mono t3, s3, hz, fun z S4 vz H4 hz e4 s4 rz => ⟨S4, y, z, q, s4, ry.mono ((e3.trans e4).tk s2), rz, hz, l.after (e1.trans (e2.trans (e3.trans e4)))⟩, lx.after (e1.trans (e2.trans e3))⟩
theorem ad_chn {op op' : COp} {a b c : IE} {x y z : Expr} {pos : Pos} (A : Amb s C k X) (ha : pE X W C a x) (hb : pE X W C b y) (hc : pE X W C c z) (h : notSet y = true) (h' : notSet z = true) : pE X W C (.chn op op' a b c) (.Compare x [op.py, op'.py] [y, z] pos) :=
  pe_imp (pe_chain (op_cop op (by have := A.hu; omega)) (op_cop op' (by have := A.hu; omega)) ha hb hc (last_of h h')) fun σ H Q ⟨φ, S, q, E, fr, sr, h, l, lx⟩ => tE_chain fr sr h l lx
theorem ad_chnT {op op' : COp} {a b c : IE} {x y z : Expr} {pos : Pos} (A : Amb s C k X) (ha : pE X W C a x) (hb : pE X W C b y) (hc : pE X W C c z) (h : notSet y = true) (h' : notSet z = true) : pT X W C (.chn op op' a b c) (.Compare x [op.py, op'.py] [y, z] pos) := by
  refine pt_imp (pt_chain (op_cop op (by have := A.hu; omega)) (op_cop op' (by have := A.hu; omega)) ha hb hc (last_of h h')) fun σ H Q ⟨φ, S, q, E, fr, sr, h, l, lx⟩ => ?_
  refine tE_chain fr sr h (fun z S' v H' hz e' s' r => ?_) lx
  obtain ⟨b, rfl, hb⟩ := l z S' H' hz e' s'
  cases r
  exact ⟨b, rfl, hb⟩
/-- a test by its value, where the syntax has no way of its own -/
theorem ad_val {e : IE} {x : Expr} (h : pE X W C e x) (he : ∀ whole, isTrue x X.env whole = (do let v ← whole; standAt x.pos; holding [v] (truthy v))) : pT X W C e x := by
  refine pt_imp (pt_val h he) fun σ H Q ⟨φ, S, q, E, fr, sr, h, l, lx⟩ => ⟨φ, S, q, E, fr, sr, h, fun z S' v H' hz e' s' r => ?_, lx⟩
  obtain ⟨b, rfl, hb⟩ := l z S' H' hz e' s'
  cases r
  exact ⟨b, rfl, hb⟩
theorem ad_inv {a : IE} {x : Expr} {pos : Pos} (ha : pE X W C a x) : pE X W C (.inv a) (.UnaryOp .Not x pos) :=
  pe_imp (pe_not ha) fun σ H Q ⟨φ, S, q, E, fr, sr, h, l, lx⟩ => ⟨φ, S, _, E, fr, sr, h, fun x S1 vx H1 ⟨b, hx, hq⟩ e1 s1 rx => by
    subst hx
    cases rx
    exact ⟨b, rfl, l.after e1 |>.here s1 hq (.bl _)⟩, lx⟩
theorem ad_invT {a : IE} {x : Expr} {pos : Pos} (ha : pT X W C a x) : pT X W C (.inv a) (.UnaryOp .Not x pos) :=
  pt_imp (pt_not ha) fun σ H Q ⟨φ, S, q, E, fr, sr, h, l, lx⟩ => ⟨φ, S, _, E, fr, sr, h, fun x S1 H1 ⟨b, hx, hq⟩ e1 s1 => by
    subst hx
    obtain ⟨b', e, hb⟩ := l _ S1 H1 hq e1 s1
    cases e
    exact ⟨b, rfl, hb⟩, lx⟩
theorem ad_ife {t a b : IE} {u x y : Expr} {pos : Pos} (ht : pT X W C t u) (ha : pE X W C a x) (hb : pE X W C b y) : pE X W C (.ife t a b) (.IfExp u x y pos) :=
  pe_imp (pe_ifExp ht ha hb) fun σ H Q ⟨φ, S, q, E, fr, sr, h, l, lx⟩ => ⟨φ, S, _, E, fr, sr, h, fun x S1 H1 ⟨b, hx, hq⟩ e1 s1 => by
    subst hx
    refine ⟨b, rfl, ?_⟩
    cases b with
    | true => exact ⟨φ, S1, q, E, fr.mono (e1.tk sr), s1, hq, l.after e1, lx.after e1⟩
    | false => exact ⟨φ, S1, q, E, fr.mono (e1.tk sr), s1, hq, l.after e1, lx.after e1⟩, lx⟩
/-! ### and, or -/
theorem ad_b1 {kk : Bool} {e : IE} {x : Expr} {pos : Pos} {op : BoolOp} (h : pE X W C e x) : PE X (.BoolOp op [x] pos) (tBv X.K X.mg W C kk (.cons e .nil)) := pe_imp (pe_one h) fun σ H Q z => z
theorem ad_b1T {kk : Bool} {e : IE} {x : Expr} {pos : Pos} {op : BoolOp} (h : pT X W C e x) : PW X (.BoolOp op [x] pos) (tBt X.K X.mg W C kk (.cons e .nil)) := by
  cases op with
  | And => exact pw_imp (pw_and1 h) fun σ H Q z => z
  | Or => exact pw_imp (pw_or1 h) fun σ H Q z => z
def bop (kk : Bool) : BoolOp := if kk then BoolOp.And else BoolOp.Or
theorem wB_more {C : CallT} {kk : Bool} {e e' : IE} {r : IEs} {φ : Fr} {S : Sto} {q : KE} {E : XE} (h : wB C kk (.cons e (.cons e' r)) φ S q E) : wE C e φ S (fun x S1 => ∃ c, x = .bl c ∧ if c = kk then wB C kk (.cons e' r) φ S1 q E else q (.bl c) S1) E := h
theorem ad_b2 {kk : Bool} {e e' : IE} {r : IEs} {x y : Expr} {ys : List Expr} {pos : Pos} (h : pE X W C e x) (hr : PE X (.BoolOp (bop kk) (y :: ys) pos) (tBv X.K X.mg W C kk (.cons e' r))) :
    PE X (.BoolOp (bop kk) (x :: y :: ys) pos) (tBv X.K X.mg W C kk (.cons e (.cons e' r))) := by
  cases kk with
  | true =>
    refine pe_imp (pe_and h hr) fun σ H Q ⟨φ, S, q, E, fr, sr, h, l, lx⟩ => ⟨φ, S, _, E, fr, sr, wB_more h, fun x S1 vx H1 ⟨b, hx, hq⟩ e1 s1 rx => ?_, lx⟩
    subst hx
    cases rx
    refine ⟨b, rfl, ?_⟩
    cases b with
    | true => exact ⟨φ, S1, q, E, fr.mono (e1.tk sr), s1, hq, l.after e1, lx.after e1⟩
    | false => exact l.after e1 |>.here s1 hq (.bl _)
  | false =>
    refine pe_imp (pe_or h hr) fun σ H Q ⟨φ, S, q, E, fr, sr, h, l, lx⟩ => ⟨φ, S, _, E, fr, sr, wB_more h, fun x S1 vx H1 ⟨b, hx, hq⟩ e1 s1 rx => ?_, lx⟩
    subst hx
    cases rx
    refine ⟨b, rfl, ?_⟩
    cases b with
    | false => exact ⟨φ, S1, q, E, fr.mono (e1.tk sr), s1, hq, l.after e1, lx.after e1⟩
    | true => exact l.after e1 |>.here s1 hq (.bl _)
theorem ad_b2T {kk : Bool} {e e' : IE} {r : IEs} {x y : Expr} {ys : List Expr} {pos : Pos} (h : pT X W C e x) (hr : PW X (.BoolOp (bop kk) (y :: ys) pos) (tBt X.K X.mg W C kk (.cons e' r))) :
    PW X (.BoolOp (bop kk) (x :: y :: ys) pos) (tBt X.K X.mg W C kk (.cons e (.cons e' r))) := by
  cases kk with
  | true =>
    refine pw_imp (pw_and h hr) fun σ H Q ⟨φ, S, q, E, fr, sr, h, l, lx⟩ => ⟨φ, S, _, E, fr, sr, wB_more h, fun x S1 H1 ⟨b, hx, hq⟩ e1 s1 => ?_, lx⟩
    subst hx
    refine ⟨b, rfl, ?_⟩
    cases b with
    | true => exact ⟨φ, S1, q, E, fr.mono (e1.tk sr), s1, hq, l.after e1, lx.after e1⟩
    | false =>
      obtain ⟨b', e, hb⟩ := l _ S1 H1 hq e1 s1
      cases e
      exact hb
  | false =>
    refine pw_imp (pw_or h hr) fun σ H Q ⟨φ, S, q, E, fr, sr, h, l, lx⟩ => ⟨φ, S, _, E, fr, sr, wB_more h, fun x S1 H1 ⟨b, hx, hq⟩ e1 s1 => ?_, lx⟩
    subst hx
    refine ⟨b, rfl, ?_⟩
    cases b with
    | false => exact ⟨φ, S1, q, E, fr.mono (e1.tk sr), s1, hq, l.after e1, lx.after e1⟩
    | true =>
      obtain ⟨b', e, hb⟩ := l _ S1 H1 hq e1 s1
      cases e
      exact hb
/-! ### lists of parts -/
/-- the parts, one by one -/
inductive All (X : Cx) (W : WX) (C : CallT) : IEs → List Expr → Prop
  | nil : All X W C .nil []
  | cons {e : IE} {r : IEs} {x : Expr} {xs : List Expr} : pE X W C e x → notStar x = true → All X W C r xs → All X W C (.cons e r) (x :: xs)
inductive AllS (X : Cx) (W : WX) (C : CallT) : IEs → List Expr → Prop
  | nil : AllS X W C .nil []
  | cons {e : IE} {r : IEs} {x : Expr} {xs : List Expr} : pE X W C e x → notStar x = true → AllS X W C r xs → AllS X W C (.cons e r) (x :: xs)
  | star {e : IE} {r : IEs} {x : Expr} {xs : List Expr} {p : Pos} : pE X W C e x → AllS X W C r xs → AllS X W C (.star e r) (.Starred x p :: xs)
theorem All.toS {es : IEs} {xs : List Expr} (h : All X W C es xs) : AllS X W C es xs := by
  induction h with
  | nil => exact .nil
  | cons a b _ ih => exact .cons a b ih
theorem star_not {x : Expr} {xs : List Expr} {env : Env} (h : notStar x = true) : starEach (x :: xs) env = (false, eval x env) :: starEach xs env := by
  cases x <;> first | rfl | cases h
theorem AllS.pa {es : IEs} {xs : List Expr} (h : AllS X W C es xs) : pL X W C es xs := by
  induction h with
  | nil => exact pa_imp pa_nil fun σ H Q ⟨φ, S, q, E, fr, sr, h, l, lx⟩ => l _ S [] H h Ev.refl sr .nil
  | cons a b c ih =>
    exact pa_imp (pa_cons a ih (star_not b)) fun σ H Q ⟨φ, S, q, E, fr, sr, h, l, lx⟩ => ⟨φ, S, _, E, fr, sr, h, fun x S1 vx H1 hx e1 s1 rx => ⟨φ, S1, _, E, fr.mono (e1.tk sr), s1, hx, fun ys S2 vs H2 hy e2 s2 ry =>
      l _ S2 _ H2 hy (e1.trans e2) s2 (.cons (rx.mono (e2.tk s1)) ry), lx.after e1⟩, lx⟩
  | star a c ih =>
    refine pa_imp (StX.pa_star a ih rfl) fun σ H Q ⟨φ, S, q, E, fr, sr, h, l, lx⟩ => ⟨φ, S, _, E, fr, sr, h, fun x S1 vx H1 hx e1 s1 rx => ?_, lx⟩
    dsimp only at hx
    unfold seqW at hx
    split at hx
    · cases rx with
      | tup g r1 =>
        exact ⟨_, _, rfl, .inl g, φ, S1, _, E, fr.mono (e1.tk sr), s1, hx, fun ys S2 vs H2 hy e2 s2 ry => l _ S2 _ H2 hy (e1.trans e2) s2 ((r1.mono (e2.tk s1)).app ry), lx.after e1⟩
    · cases rx
      obtain ⟨xs, h0, hq⟩ := hx
      obtain ⟨vs, g, r1⟩ := s1.isL h0
      exact ⟨_, vs, rfl, .inr (SqL.of g), φ, S1, _, E, fr.mono (e1.tk sr), s1, hq, fun ys S2 vs H2 hy e2 s2 ry => l _ S2 _ H2 hy (e1.trans e2) s2 ((r1.mono (e2.tk s1)).app ry), lx.after e1⟩
    · exact hx.elim
theorem All.plain {es : IEs} {xs : List Expr} (h : All X W C es xs) (pos : Pos) : (backTo pos (starEach xs X.env)).any (·.1) = false := by
  induction h with
  | nil => rfl
  | cons a b c ih =>
    rw [star_not b]
    show (false || (backTo pos (starEach _ X.env)).any (·.1)) = false
    rw [ih]
    rfl
theorem All.few {es : IEs} {xs : List Expr} (h : All X W C es xs) (pos : Pos) : (backTo pos (starEach xs X.env)).all (fun x => !x.1) = true := by
  induction h with
  | nil => rfl
  | cons a b c ih =>
    rw [star_not b]
    show (true && (backTo pos (starEach _ X.env)).all (fun x => !x.1)) = true
    rw [ih]
    rfl
theorem ad_tup {es : IEs} {xs : List Expr} {n : Nat} {pos : Pos} (h : AllS X W C es xs) : pE X W C (.tup es) (.Tuple xs n pos) :=
  pe_imp (pe_tup h.pa) fun σ H Q ⟨φ, S, q, E, fr, sr, h, l, lx⟩ => ⟨φ, S, _, E, fr, sr, h, fun ds S1 vs H1 ⟨hz, hq⟩ e1 s1 rs => ⟨by rw [rs.len]; exact hz, (l.after e1).newT s1 hq rs⟩, lx⟩
theorem ad_lst {es : IEs} {xs : List Expr} {pos : Pos} (h : AllS X W C es xs) : pE X W C (.lst es) (.List xs pos) :=
  pe_imp (pe_lst h.pa) fun σ H Q ⟨φ, S, q, E, fr, sr, h, l, lx⟩ => ⟨φ, S, _, E, fr, sr, h, fun ds S1 vs H1 ⟨hz, hq⟩ e1 s1 rs => ⟨by rw [rs.len]; exact hz, (l.after e1).newL s1 hq rs⟩, lx⟩
/-! ### names, literals -/
theorem ad_var {i : Nat} {x : Str} {pos : Pos} (A : Amb s C k X) (h1 : atN s i x = true) (h2 : visB s.sc x = true) (h3 : okName x = true) : pE X W C (.var i) (.Name x pos) :=
  pe_imp (pe_var (A.ix h1) (A.vis h2) (okName_ok h3).1 (okName_ok h3).2.1) fun σ H Q ⟨φ, S, q, E, fr, sr, h, l, lx⟩ => by
    obtain ⟨d, e, hq⟩ := h
    obtain ⟨v, g, r⟩ := fr.2 i d e
    exact ⟨v, g, l.here sr hq r⟩
theorem ad_lit {d : D} {c : Const} {n : Nat} {pos : Pos} (h : litB d c = true) : pE X W C (.lit d) (.Constant c n pos) := by
  unfold litB at h
  split at h
  · exact pe_imp pe_non fun σ H Q ⟨φ, S, q, E, fr, sr, h, l, lx⟩ => l.here sr h .non
  · have e := eq_of_beq h
    subst e
    exact pe_imp pe_bl fun σ H Q ⟨φ, S, q, E, fr, sr, h, l, lx⟩ => l.here sr h (.bl _)
  · have e := of_decide_eq_true h
    subst e
    exact pe_imp pe_int fun σ H Q ⟨φ, S, q, E, fr, sr, h, l, lx⟩ => l.here sr h (.int _)
  · have e := of_decide_eq_true h
    subst e
    exact pe_imp pe_str fun σ H Q ⟨φ, S, q, E, fr, sr, h, l, lx⟩ => l.here sr h (.str _)
  · cases h
theorem eqLit_ok {d e : D} (h : eqLit d e = true) : d = e := by
  unfold eqLit at h
  split at h
  · rfl
  · rw [eq_of_beq h]
  · rw [of_decide_eq_true h]
  · rw [of_decide_eq_true h]
  · cases h
theorem ad_glo {x : Str} {d : D} {pos : Pos} (A : Amb s C k X) (h1 : glB s.sc x = true) (h2 : conB s x d = true) (h3 : okName x = true) : pE X W C (.glo x d) (.Name x pos) := by
  unfold conB at h2
  split at h2
  · rename_i e he
    have e' := eqLit_ok h2
    subst e'
    obtain ⟨u, v, g, r, rd⟩ := A.con x _ he
    exact pe_imp (pe_glob (A.gl h1) g r (okName_ok h3).1) fun σ H Q ⟨φ, S, q, E, fr, sr, h, l, lx⟩ => l.here sr h (rd H)
  · split at h2
    · rw [Bool.and_eq_true] at h2
      have e := of_decide_eq_true h2.1
      subst e
      obtain ⟨fd, hf⟩ := Option.isSome_iff_exists.mp h2.2
      obtain ⟨fa, fdt, g, _⟩ := A.cal x fd hf
      exact pe_imp (pe_glob (v := .ref fa) (A.gl h1) g rfl (okName_ok h3).1) fun σ H Q ⟨φ, S, q, E, fr, sr, h, l, lx⟩ => l.here sr h (.fn g)
    · cases h2
/-! ### calls -/
theorem Amb.run (A : Amb s C k X) {f : Str} {fd : FD} {fa : Addr} {fdt : FuncData} (tk : Takes X W)
    (F : FnG X.prog X.w X.K X.mg X.base k fa fdt fd.ps (fun vs H Q E => vs.length = fd.ps.length ∧ ∃ S ds q e, SR X.K X.mg S H ∧ Rps X.K X.mg H vs ds ∧ C f ds S q e ∧ Lk X.K X.mg S H q Q ∧
      ∀ c a S' cls dx H', e c a S' → Ev S H S' H' → SR X.K X.mg S' H' → RX X.mg c cls dx → E cls dx H')) (hf : s.tab.lookup f = some fd)
    {pins : List (Addr × Obj)} {σ : L2.St} {H : Hp} {st : Shared} {Q : VK} {us : List Value} {kw : List (Str × Value)} {bs : List Value} {vs : List V} {φ : Fr} {S : Sto} {ds : List D} {q : KE} {E : XE}
    (I : Inv X pins σ H st) (hb : bs.length = fd.ps.length → bindArgs fdt ⟨us, kw⟩ = pure (fd.ps.zip bs)) (r : Vals vs bs) (fr : FR X.K X.mg H σ φ) (sr : SR X.K X.mg S H) (rs : Rps X.K X.mg H vs ds) (h : C f ds S q E) (l : Lk X.K X.mg S H q Q) (lx : LX X.K X.mg W S H φ E) :
    wpAny (model X.prog X.w) X.A (call (.ref fa) us kw) (EP X pins σ Q) X.xe st := by
  have hl := A.cl f fd ds S q E hf h
  refine run_fnG F A.rm A.gu tk I (fun e => .of_eq (hb e)) r ⟨by rw [rs.len]; exact hl, S, ds, q, E, sr, rs, h, l, fun c a S' cls dx H' he ev s' rx => ?_⟩
  exact lx c a S' cls dx σ H' he ev s' (fr.mono (ev.tk sr)) rx
theorem ad_cal {f : Str} {es : IEs} {xs : List Expr} {p pos : Pos} (A : Amb s C k X) (tk : Takes X W) (hg : glB s.sc f = true) (hn : okName f = true) (hf : (s.tab.lookup f).isSome = true) (h : All X W C es xs) : pE X W C (.cal f es) (.Call (.Name f p) xs [] pos) := by
  obtain ⟨fd, hfd⟩ := Option.isSome_iff_exists.mp hf
  obtain ⟨fa, fdt, g, kp, hb, F, _⟩ := A.cal f fd hfd
  refine ⟨fun pins st σ H Q I ⟨φ, S, q, E, fr, sr, hw, l, lx⟩ => ?_⟩
  refine wpAny_Call_Name_kw (ld_glob I (A.gl hg) g ?_ (okName_ok hn).1)
  cases h with
  | nil =>
    exact PySem.W.callWith_K0 I.kIn kp (A.run tk F hfd (us := []) (kw := []) (bs := []) I (fun e => hb [] e) .nil fr sr .nil hw l lx)
  | @cons e r x xs a b c =>
    have pa := (AllS.cons a b c.toS).pa
    refine PySem.W.callWith_K (h₀ := X.base) I.ok.mod.kin kp (thn (pa.run pos pins st σ H (fun vs H1 => ∃ ds S1, SR X.K X.mg S1 H1 ∧ Ev S H S1 H1 ∧ Rps X.K X.mg H1 vs ds ∧ C f ds S1 q E) I ?_) fun us s1 ⟨vs, H1, I1, rv, ds, S1, s1', e1, rs, hc⟩ => ⟨I1.kIn, ?_⟩) (star_not b) (c.plain pos)
    · exact ⟨φ, S, _, E, fr, sr, hw, fun ds S1 vs H1 hc e1 s1 rs => ⟨ds, S1, s1, e1, rs, hc⟩, lx⟩
    · exact A.run tk F hfd (us := us) (kw := []) (bs := us) I1 (fun e => hb us e) rv (fr.mono (e1.tk sr)) s1' rs hc (l.after e1) (lx.after e1)
theorem ad_bui {b : Bi} {es : IEs} {xs : List Expr} {p pos : Pos} (A : Amb s C k X) (hg : glB s.sc b.nm = true) (hn : okName b.nm = true) (hf : freeB s b.nm = true) (h : All X W C es xs) (h0 : 0 < xs.length) : pE X W C (.bui b es) (.Call (.Name b.nm p) xs [] pos) := by
  cases h with
  | nil => exact absurd h0 (Nat.lt_irrefl _)
  | @cons e r x xs a c d =>
    have pa := (AllS.cons a c d.toS).pa
    have key : ∀ {t : TE}, PE X (.Call (.Name b.nm p) (x :: xs) [] pos) t → (t = tCB (rD1 X.K X.mg (biW b)) (tL X.K X.mg W C (.cons e r))) → pE X W C (.bui b (.cons e r)) (.Call (.Name b.nm p) (x :: xs) [] pos) := fun {t} h ht => by
      subst ht
      exact pe_imp h fun σ H Q ⟨φ, S, q, E, fr, sr, hw, l, lx⟩ => ⟨φ, S, _, E, fr, sr, hw, fun ds S1 vs H1 hb e1 s1 rs => ⟨S1, ds, q, s1, rs, hb, l.after e1⟩, lx⟩
    have cb := call_bi (X := X) b A.calm A.gu A.hu
    have bt := b.boot
    refine key ?_ rfl
    cases b <;> first
      | exact pe_callB cb (A.gl hg) (A.free _ hf) bt pa (okName_ok hn).2.2 (okName_ok hn).1 (star_not c) (d.plain pos)
      | exact pe_callTy cb (A.gl hg) (A.free _ hf) bt pa (okName_ok hn).2.2 (okName_ok hn).1 (star_not c) (d.plain pos)
/-! ### subscripts -/
theorem plain_ix {x : Expr} (h : notSlice x = true) : PlainIx x := by
  intro o i
  cases x <;> first | rfl | cases h
theorem ad_idx {a i : IE} {x y : Expr} {pos : Pos} (A : Amb s C k X) (ha : pE X W C a x) (hi : pE X W C i y) (h : notSlice y = true) : pE X W C (.idx a i) (.Subscript x y pos) :=
  pe_imp (pe_ix (ix_P (by have := A.hu; omega)) ha hi (plain_ix h)) fun σ H Q ⟨φ, S, q, E, fr, sr, hw, l, lx⟩ => tE_two fr sr hw l lx
abbrev pO (X : Cx) (W : WX) (C : CallT) (e : IEs) (x : Option Expr) : Prop := PO X x (tOo X.K X.mg W C e)
theorem po_imp {e : Option Expr} {t t' : TO} (h : PO X e t) (i : ∀ σ H Q, t' σ H Q → t σ H Q) : PO X e t' := ⟨fun pins s σ H Q I q => h.run pins s σ H Q I (i σ H Q q)⟩
theorem ad_o0 : pO X W C .nil none := po_imp po_none fun σ H Q ⟨φ, S, q, E, fr, sr, hw, l, lx⟩ => l _ S H hw Ev.refl sr
theorem ad_o1 {a : IE} {x : Expr} (ha : pE X W C a x) : pO X W C (.cons a .nil) (some x) := po_imp (po_some ha) fun σ H Q ⟨φ, S, q, E, fr, sr, hw, l, lx⟩ => ⟨φ, S, _, E, fr, sr, hw, fun d S1 v H1 ⟨i, hd, hq⟩ e1 s1 r => by
  subst hd
  cases r
  exact ⟨i, rfl, l _ S1 H1 hq e1 s1⟩, lx⟩
theorem ad_slc {a : IE} {lo hi : IEs} {x : Expr} {l h : Option Expr} {p pos : Pos} (ha : pE X W C a x) (hl : pO X W C lo l) (hh : pO X W C hi h) : pE X W C (.slc a lo hi) (.Subscript x (.Slice l h none p) pos) :=
  pe_imp (pe_slice sl_P ha hl hh) fun σ H Q ⟨φ, S, q, E, fr, sr, hw, lk, lx⟩ => ⟨φ, S, _, E, fr, sr, hw, fun d S1 v H1 h1 e1 s1 r => ⟨φ, S1, _, E, fr.mono (e1.tk sr), s1, h1, fun i S2 H2 h2 e2 s2 =>
    ⟨φ, S2, _, E, fr.mono ((e1.trans e2).tk sr), s2, h2, fun j S3 H3 h3 e3 s3 => ⟨S3, d, q, s3, r.mono ((e2.trans e3).tk s1), h3, lk.after (e1.trans (e2.trans e3))⟩, lx.after (e1.trans e2)⟩, lx.after e1⟩, lx⟩
/-! ### isinstance -/
theorem ofString_ty (t : Ty) : bootBuiltins (Str.ofString t.nm) = some (.type t.nm) := Ty.boot t
theorem pe_ty (A : Amb s C k X) {t : Ty} {x : Expr} (h : tyOneB s t x = true) : PE X x (tC (.ty t.nm)) ∧ notStar x = true := by
  unfold tyOneB at h
  split at h
  · rename_i y p
    simp only [Bool.and_eq_true] at h
    obtain ⟨⟨⟨h1, h2⟩, h3⟩, h4⟩ := h
    have e := of_decide_eq_true h1
    subst e
    exact ⟨pe_bltn (A.gl h2) (A.free _ h3) (Ty.boot t) rfl (okName_ok h4).2.2 (okName_ok h4).1, rfl⟩
  · cases h
theorem pa_tys (A : Amb s C k X) : ∀ {ts : List Ty} {xs : List Expr}, tyAllB s ts xs = true → PA X xs (fun _ H Q => Q (ts.map fun t => V.ty t.nm) H)
  | [], [], _ => pa_imp pa_nil fun _ _ _ h => h
  | [], _ :: _, h => by cases h
  | _ :: _, [], h => by cases h
  | t :: ts, x :: xs, h => by
    have h' : (tyOneB s t x && tyAllB s ts xs) = true := h
    rw [Bool.and_eq_true] at h'
    obtain ⟨h1, h2⟩ := pe_ty A h'.1
    exact pa_imp (pa_cons h1 (pa_tys A h'.2) (star_not h2)) fun _ _ _ h => h
theorem clsV_tys : ∀ ts : List Ty, Paired ClsV (ts.map fun t => V.ty t.nm) (ts.map fun t => Value.type t.nm)
  | [] => .nil
  | t :: ts => .cons (.ty t.nm) (clsV_tys ts)
theorem ad_isi {a : IE} {ts : List Ty} {x y : Expr} {p pos : Pos} (A : Amb s C k X) (hg : glB s.sc ("isinstance" : Str) = true) (hf : freeB s ("isinstance" : Str) = true) (hx : notStar x = true) (ha : pE X W C a x) (hy : tysB s ts y = true) :
    pE X W C (.isi a ts) (.Call (.Name "isinstance" p) [x, y] [] pos) := by
  unfold tysB at hy
  split at hy
  · split at hy
    · rename_i z q t
      obtain ⟨h1, h2⟩ := pe_ty A hy
      refine pe_imp (pe_callB call_isi (A.gl hg) (A.free _ hf) boot_isinstance (pa_cons ha (pa_cons h1 pa_nil (star_not h2)) (star_not hx)) (by decide) (by decide) (star_not hx) (by rw [star_not h2]; rfl)) ?_
      rintro σ H Q ⟨φ, S, q, E, fr, sr, hw, l, lx⟩
      refine ⟨φ, S, _, E, fr, sr, hw, fun d S1 v H1 h1 e1 s1 r => ?_, lx⟩
      obtain ⟨t', b, g1, g2, g3⟩ := isi_some s1 r h1
      refine ⟨v, _, t', _, b, rfl, .ty _, g1, ?_, l.after e1 |>.here s1 g2 (.bl _)⟩
      simp only [List.map_cons, List.map_nil] at g3
      unfold PySem.W.kitAny at g3
      split at g3
      · rename_i e; rw [e]; exact g3
      · rename_i e; rw [e]; exact g3
      · cases g3
    · cases hy
  · rename_i zs n q
    rw [Bool.and_eq_true] at hy
    have hz := of_decide_eq_true hy.1
    have hy := hy.2
    have tu : PE X (.Tuple zs n q) (tTup (fun _ H Q => Q (ts.map fun t => V.ty t.nm) H)) := pe_tup (pa_tys A hy)
    refine pe_imp (pe_callB call_isiT (A.gl hg) (A.free _ hf) boot_isinstance (pa_cons ha (pa_cons tu pa_nil rfl) (star_not hx)) (by decide) (by decide) (star_not hx) rfl) ?_
    rintro σ H Q ⟨φ, S, q, E, fr, sr, hw, l, lx⟩
    refine ⟨φ, S, _, E, fr, sr, hw, fun d S1 v H1 h1 e1 s1 r => ⟨?_, fun p hp => ?_⟩, lx⟩
    · rw [List.length_map, sizeLine_eq]; omega
    · obtain ⟨s2, e2⟩ := s1.new (o := .tup (ts.map fun t => V.ty t.nm)) hp
      obtain ⟨t', b, g1, g2, g3⟩ := isi_some s2 (r.mono (e2.tk s1)) h1
      exact ⟨v, p, _, t', _, b, rfl, upd_same, clsV_tys ts, g1, g3, l.after (e1.trans e2) |>.here s2 g2 (.bl _)⟩
  · cases hy
end
end Pi

/-! PiEnu: enumerate(tuple). -/
namespace Pi
open PySem L2 PyProof.Rows
open AutoSeq1 (wpAny_loadPart')
abbrev tupIt (t : Addr) : Obj := { cls := .type "tuple_iterator", data := .fields #[.ref t, .int 0 0] }
abbrev enuO (a : Addr) : Obj := { cls := .type "enumerate", data := .fields #[.none, .bool false, .ref a, rawInt 0, .none, .none] }
theorem enu_new (t : Addr) (ws : Array Value) (n : Nat) (dd : Option Addr) (sl : Array (Option Value)) :
    Meets (Builtin.«enumerate.__new__» ⟨[.type "enumerate", .ref t], []⟩) (fun _ R st => st.heap.get? t = some ⟨.type "tuple", dd, .seq ws n, sl⟩ ∧
      R (.ok (.ret (.ref (st.heap.push (tupIt t)).objs.size))) { st with heap := (st.heap.push (tupIt t)).push (enuO st.heap.objs.size) }) :=
  .of_wp fun prog w A R st hyp => by
    obtain ⟨hp, g, d, tk, os⟩ := st
    obtain ⟨at_, goal⟩ := hyp
    have isSub := sub_enumerate
    have tp : Heap.IsTuple (Shared.heap ⟨hp, g, d, tk, os⟩) t ws := ⟨_, at_, rfl, n, rfl⟩
    wp_walk using wpAny_loadPart' at_
    refine wpAny_stack_any fun z => wpAny_pure ?_
    split
    · rename_i c _ _ _ _ _
      cases (c == Value.type "enumerate") <;> (wp_walk using wpAny_loadPart' at_, wpAny_pyIter_tuple tp; exact ⟨_, rfl, goal⟩)
    · wp_walk using wpAny_loadPart' at_, wpAny_pyIter_tuple tp
      exact ⟨_, rfl, goal⟩
section
variable {prog : Program} {w : World} {A : Around} {E : Value → Shared → Prop} {s : Shared}
theorem enu_call {t : Addr} {ws : Array Value} {Q : Value → Shared → Prop} (ht : s.heap.IsTuple t ws)
    (hq : ∀ h', IsEnum h' (s.heap.objs.size + 1) s.heap.objs.size 0 .none → h'.IsTupleIter s.heap.objs.size t 0 → (∀ b o, s.heap.get? b = some o → h'.get? b = some o) → Q (.ref (s.heap.objs.size + 1)) { s with heap := h' }) :
    wpAny (model prog w) A (call (.type "enumerate") [.ref t]) Q E s := by
  obtain ⟨⟨c, dd, dt, sl⟩, e1, e2, n, e3⟩ := ht
  have e2 : c = .type "tuple" := e2
  have e3 : dt = .seq ws n := e3
  subst e2 e3
  have z : (s.heap.push (tupIt t)).objs.size = s.heap.objs.size + 1 := Heap.size_push ..
  refine callType_new F.called_enumerate (by decide) (F.typeCall_enumerate_1 _) (F.newCall_enumerate_1 _) (fun obj => F.args_object_init_2 obj _) F.entry_enumerate_new (enu_new t ws n dd sl) ⟨e1, ?_⟩
  show _ ∧ _
  rw [z]
  have en : IsEnum ((s.heap.push (tupIt t)).push (enuO s.heap.objs.size)) (s.heap.objs.size + 1) s.heap.objs.size 0 .none := by
    have q := Heap.get?_push_size (s.heap.push (tupIt t)) (o := enuO s.heap.objs.size) rfl
    rw [z] at q
    exact q
  exact ⟨⟨_, en, rfl⟩, hq _ en ⟨_, Heap.get?_push_of_some _ (Heap.get?_push_size _ rfl), rfl, rfl⟩ fun b o x => Heap.get?_push_of_some _ (Heap.get?_push_of_some _ x)⟩
end
/-- the tuple at a, each item in a new pair with its number -/
def ItnT (K : PySem.W.Frag) (a : Addr) : It where
  go i H := ∃ (vs : List V) (v : V), SqT K H a vs ∧ vs[i]? = some v
  yld i H r H' := ∃ T v, r = .ref T ∧ H T = none ∧ H' = upd H T (.tup [.int (i : Nat), v]) ∧ ∀ vs, SqT K H a vs → vs[i]? = some v
  stop i H := ∃ vs : List V, SqT K H a vs ∧ vs.length = i
theorem turn_enuT {P : Program} {w : World} {K : PySem.W.Frag} {elts : List Expr} {kk : Nat} {tpos : Pos} (a e it : Addr) :
    Turn P w K (.Tuple elts kk tpos) (ItnT K a) [e, it] e (fun i h => (∃ old, IsEnum h e it ((i : Nat) : Int) old) ∧ h.IsTupleIter it a i ∧ e ≠ it) where
  mem := List.mem_cons_self
  obj := by
    rintro i h ⟨⟨old, he⟩, ⟨o, ho, hc, hd⟩, _⟩ b hb
    rcases List.mem_cons.mp hb with z | z
    · rw [z]
      exact ⟨_, he, fun v q => nomatch q⟩
    · refine ⟨o, by rw [List.mem_singleton.mp z]; exact ho, fun v q => ?_⟩
      rw [hd] at q
      cases q
  keep := by
    rintro i h h' ⟨⟨old, he⟩, hi, hne⟩ k
    exact ⟨⟨old, k e List.mem_cons_self _ he⟩, hi.at fun o q => k it (List.mem_cons_of_mem _ List.mem_cons_self) o q, hne⟩
  item := by
    rintro X rfl rfl rfl hc i pins s σ H E I hf ⟨⟨old, he⟩, hit, hne⟩ ⟨vs, v, hq, hv⟩
    obtain ⟨its, rv, tp, hz⟩ := I.tuple hq
    have tp' : s.heap.IsTuple a its.toArray := tp
    obtain ⟨u, hu, ru⟩ := rv.get hv
    have hel : e < s.heap.objs.size := Heap.lt_size he
    have hil : it < s.heap.objs.size := by obtain ⟨_, q, _⟩ := hit; exact Heap.lt_size q
    have hlt : i < its.toArray.size := by rw [List.size_toArray]; exact (List.getElem?_eq_some_iff.mp hu).1
    have ai : a ≠ it := fun z => by
      obtain ⟨o, ho, _, _, hd⟩ := tp'
      obtain ⟨o', ho', _, hd'⟩ := hit
      rw [z, ho'] at ho
      cases ho
      rw [hd'] at hd
      cases hd
    have ea : e ≠ a := fun z => by
      obtain ⟨o, ho, _, _, hd⟩ := tp'
      have he' : s.heap.get? e = some _ := he
      rw [z, ho] at he'
      cases he'
      cases hd
    refine wpAny_pyNext_enum_itemD (PySem.Draws.tuple (prog := X.prog) (w := X.w) (A := X.A.in1) (I.ok.hd hc) it a ai its.toArray) he ⟨hit, tp'⟩ hlt hne (fun hm => ?_) fun x h' tk hx ho st' hT hsz hk => ?_
    · rcases List.mem_cons.mp hm with z | z
      · exact hne z
      · exact ea (List.mem_singleton.mp z)
    have hxu : x = u := by
      have q : its.toArray[i]? = some x := hx
      rw [List.getElem?_toArray, hu] at q
      exact (Option.some.inj q).symm
    subst hxu
    refine ⟨_, rfl, wpAny_letOwnedTupleGo_enum (s := { s with heap := h', toks := tk + 1 }) ho fun h'' he' sb => ?_⟩
    have hT2 : h''.get? s.heap.objs.size = some { cls := .type "tuple", data := .seq #[.int i tk, x] } := (sb.2 _ (Nat.ne_of_gt hel)).trans hT
    have new : ObjOk X.prog X.w (upd H s.heap.objs.size (.tup [.int (i : Nat), v])) h'' s.heap.objs.size (.tup [.int (i : Nat), v]) :=
      ⟨by show 2 ≤ sizeLine; decide, [.int i tk, x], .cons ⟨_, rfl⟩ (.cons ru .nil), ⟨_, hT2, rfl, _, rfl⟩⟩
    have I1 := I.turnedNew (h' := h'') (t' := tk + 1) (ch := [e, it]) (fun b ob hb q => (sb.2 b fun z => hb (by rw [z]; exact List.mem_cons_self)).trans
      (hk b ob (fun z => hb (by rw [z]; exact List.mem_cons_self)) (fun z => hb (by rw [z]; exact List.mem_cons_of_mem _ List.mem_cons_self)) q)) hf (Nat.le_refl _) new
    refine ⟨.ref s.heap.objs.size, _, I1, rfl, ⟨_, v, rfl, I.hok.fresh (Nat.le_refl _), rfl, fun ys hy => by rw [I.tuple_inj hy hq]; exact hv⟩, ⟨⟨x, ?_⟩, st'.1.at fun o q => (sb.2 it (Ne.symm hne)).trans q, hne⟩, fun b hb => ?_⟩
    · rw [show ((i + 1 : Nat) : Int) = (i : Int) + 1 by omega]
      exact he'
    · have hb' : b < s.heap.objs.size := by
        rcases List.mem_cons.mp hb with z | z
        · rw [z]; exact hel
        · rw [List.mem_singleton.mp z]; exact hil
      rw [upd_ne (Nat.ne_of_lt hb')]
      exact (hf b hb).1
  done := by
    rintro X rfl rfl rfl hc i pins s σ H E I hf ⟨⟨old, he⟩, hit, hne⟩ ⟨vs, hq, hle⟩
    obtain ⟨its, rv, tp, hz⟩ := I.tuple hq
    have tp' : s.heap.IsTuple a its.toArray := tp
    obtain ⟨f0, f1, f2, f3, f4, f5⟩ := hf it (List.mem_cons_of_mem _ List.mem_cons_self)
    have hl := rv.length
    have ai : a ≠ it := fun z => by
      obtain ⟨o, ho, _, _, hd⟩ := tp'
      obtain ⟨o', ho', _, hd'⟩ := hit
      rw [z, ho'] at ho
      cases ho
      rw [hd'] at hd
      cases hd
    have es : its.toArray.size = i := by rw [List.size_toArray, ← hl]; exact hle
    refine wpAny_pyNext_enum_endD (PySem.Draws.tuple (prog := X.prog) (w := X.w) (A := X.A.in1) (I.ok.hd hc) it a ai its.toArray) he ⟨by rw [es]; exact hit, tp'⟩ fun h' eb => ⟨rfl, I.turned (t' := s.toks) (fun b o hb q => eb b o hb q) f0 f1 f3 f4 f5⟩
  self := by
    rintro A i s Q E ⟨⟨_, he⟩, _⟩ h
    exact wpAny_pyIter_enum he h
theorem pi_enuT {X : Cx} {e : Expr} {ta : TA} {p pos tpos : Pos} {elts : List Expr} {kk : Nat} (hg : Gl X "enumerate") (hm : X.mg "enumerate" = none) (ha : PA X [e] ta) (hs : starEach [e] X.env = [(false, eval e X.env)]) :
    PI X (.Tuple elts kk tpos) (.Call (.Name "enumerate" p) [e] [] pos) (fun σ H R => ta σ H fun vs H1 => ∃ a, vs = [.ref a] ∧ ((∃ xs, SqL X.K H1 a xs ∧ R (Ite X.K a) H1) ∨ ∃ xs, SqT X.K H1 a xs ∧ R (ItnT X.K a) H1)) := by
  refine ⟨fun pins s σ H R I h => Call_ (ld_blt I hg hm boot_enumerate (PyProof.Rows.callWith_type1 (thn (ha.run pos pins s σ H _ I h) fun us s1 ⟨vs, H1, I1, r1, a, ev, hq⟩ => ?_) hs rfl))⟩
  subst ev
  rw [Vals.ref1 r1]
  have fp : ∀ b ∈ [s1.heap.objs.size + 1, s1.heap.objs.size], FpOk X pins H1 b := fun b hb => by
    have le : s1.heap.objs.size ≤ b := by
      rcases List.mem_cons.mp hb with z | z
      · rw [z]; exact Nat.le_succ _
      · rw [List.mem_singleton.mp z]; exact Nat.le_refl _
    exact I1.fpOk le (I1.hok.fresh le)
  rcases hq with ⟨xs, hq, q⟩ | ⟨xs, hq, q⟩
  · obtain ⟨its, rv, p', hz⟩ := I1.list hq
    refine call_enumerate_list p'.isList fun h' he hit hsz hk => wpAny_pyIter_enum he ⟨_, _, _, _, H1, rfl, I1.kept (t' := s1.toks) hk, turn_enum a (s1.heap.objs.size + 1) s1.heap.objs.size, ⟨⟨.none, he⟩, hit, Nat.succ_ne_self _⟩, fp, q⟩
  · obtain ⟨its, rv, p', hz⟩ := I1.tuple hq
    refine enu_call (ws := its.toArray) p' fun h' he hit hk => wpAny_pyIter_enum he ⟨_, _, _, _, H1, rfl, I1.kept (t' := s1.toks) hk, turn_enuT a (s1.heap.objs.size + 1) s1.heap.objs.size, ⟨⟨.none, he⟩, hit, Nat.succ_ne_self _⟩, fp, q⟩
end Pi

/-! PiIter: what a for or a comprehension walks. -/
namespace Pi
open PySem L2 PyProof.Rows
theorem numbered_get : ∀ (n : Nat) (xs : List D) (i : Nat), (numbered n xs)[i]? = (xs[i]?).map fun x => .tup [.int (n + i : Nat), x]
  | n, [], i => by simp [numbered]
  | n, x :: r, 0 => by simp [numbered]
  | n, x :: r, i + 1 => by
    simp only [numbered, List.getElem?_cons_succ]
    rw [numbered_get (n + 1) r i]
    rw [show n + 1 + i = n + (i + 1) by omega]
theorem numbered_len : ∀ (n : Nat) (xs : List D), (numbered n xs).length = xs.length
  | n, [] => rfl
  | n, x :: r => by simp only [numbered, List.length_cons]; rw [numbered_len]
theorem zipped_get : ∀ (xs ys : List D) (i : Nat) (d : D), (zipped xs ys)[i]? = some d → ∃ x y, xs[i]? = some x ∧ ys[i]? = some y ∧ d = .tup [x, y]
  | [], ys, i, d, h => by simp [zipped] at h
  | x :: xs, [], i, d, h => by simp [zipped] at h
  | x :: xs, y :: ys, 0, d, h => by
    refine ⟨x, y, rfl, rfl, ?_⟩
    have h' : some (D.tup [x, y]) = some d := h
    injection h' with h'
    exact h'.symm
  | x :: xs, y :: ys, i + 1, d, h => zipped_get xs ys i d h
theorem zipped_len : ∀ (xs ys : List D), (zipped xs ys).length = min xs.length ys.length
  | [], ys => by simp [zipped]
  | x :: xs, [] => by simp [zipped]
  | x :: xs, y :: ys => by simp [zipped]
theorem intsF_len (lo : Int) (n : Nat) : (intsF lo n).length = n := by simp [intsF]
theorem intsF_get {lo : Int} {n i : Nat} {d : D} (h : (intsF lo n)[i]? = some d) : i < n ∧ d = .int (lo + (i : Nat)) := by
  unfold intsF at h
  rw [List.getElem?_map] at h
  by_cases hi : i < n
  · rw [List.getElem?_range hi] at h
    simp only [Option.map_some, Option.some.injEq] at h
    exact ⟨hi, h.symm⟩
  · rw [List.getElem?_eq_none (by simpa using hi)] at h
    cases h
section
variable {K : PySem.W.Frag} {mg : Str → Option Value}
theorem jok_tup {H0 : Hp} {a : Addr} {vs : List V} {ds : List D} (h : SqT K H0 a vs) (r : Rps K mg H0 vs ds) : JOk K mg (Itt K a) H0 ⟨ds, fun _ => True⟩ where
  go i S H hi t sr _ := by
    have hv : i < vs.length := by rw [r.len]; exact hi
    exact ⟨vs, vs[i], t.1 _ _ h, List.getElem?_eq_getElem hv⟩
  yld i S H x H' d hd t sr _ hy := by
    obtain ⟨e, hx⟩ := hy
    subst e
    obtain ⟨v, hv, rv⟩ := r.get hd
    have q := hx vs (t.1 _ _ h)
    rw [hv] at q
    injection q with q
    subst q
    exact ⟨Ev.refl, sr, rv.mono t⟩
  stop i S H hi hj t sr _ := ⟨vs, t.1 _ _ h, by rw [r.len]; exact hi⟩
theorem jok_fls {H0 : Hp} {a : Addr} {vs : List V} {ds : List D} (h : SqF K H0 a vs) (r : Rps K mg H0 vs ds) : JOk K mg (Itl K a) H0 ⟨ds, fun _ => True⟩ where
  go i S H hi t sr _ := by
    have hv : i < vs.length := by rw [r.len]; exact hi
    exact ⟨vs, vs[i], (t.2 _ _ h).1, List.getElem?_eq_getElem hv⟩
  yld i S H x H' d hd t sr _ hy := by
    obtain ⟨e, hx⟩ := hy
    subst e
    obtain ⟨v, hv, rv⟩ := r.get hd
    have q := hx vs (t.2 _ _ h).1
    rw [hv] at q
    injection q with q
    subst q
    exact ⟨Ev.refl, sr, rv.mono t⟩
  stop i S H hi hj t sr _ := ⟨vs, (t.2 _ _ h).1, by rw [r.len]; exact hi⟩
theorem jok_lst {H0 : Hp} {a : Addr} {ds : List D} : JOk K mg (Itl K a) H0 ⟨ds, fun S' => IsL S' a ds⟩ where
  go i S H hi t sr ok := by
    obtain ⟨vs, h, r⟩ := sr.isL ok
    have hv : i < vs.length := by rw [r.len]; exact hi
    exact ⟨vs, vs[i], .of h, List.getElem?_eq_getElem hv⟩
  yld i S H x H' d hd t sr ok hy := by
    obtain ⟨e, hx⟩ := hy
    subst e
    obtain ⟨vs, h, r⟩ := sr.isL ok
    obtain ⟨v, hv, rv⟩ := r.get hd
    have q := hx vs (.of h)
    rw [hv] at q
    injection q with q
    subst q
    exact ⟨Ev.refl, sr, rv⟩
  stop i S H hi hj t sr ok := by
    obtain ⟨vs, h, r⟩ := sr.isL ok
    exact ⟨vs, .of h, by rw [r.len]; exact hi⟩
theorem jok_str {H0 : Hp} {z : Str} : JOk K mg (Its z) H0 ⟨z.cps.toList.map fun c => .str ⟨#[c]⟩, fun _ => True⟩ where
  go i S H hi t sr _ := by
    have q : i < z.cps.size := by simpa using hi
    exact q
  yld i S H x H' d hd t sr _ hy := by
    obtain ⟨e, c, hc, hx⟩ := hy
    subst e hx
    have hd' : (z.cps.toList.map fun c => D.str ⟨#[c]⟩)[i]? = some d := hd
    rw [List.getElem?_map, Array.getElem?_toList, hc] at hd'
    simp only [Option.map_some, Option.some.injEq] at hd'
    subst hd'
    exact ⟨Ev.refl, sr, .str _⟩
  stop i S H hi hj t sr _ := by simpa [Its] using hi
theorem jok_rng {H0 : Hp} {lo : Int} {n : Nat} : JOk K mg (Itr lo n) H0 ⟨intsF lo n, fun _ => True⟩ where
  go i S H hi t sr _ := by
    have hi : i < (intsF lo n).length := hi
    rw [intsF_len] at hi
    exact hi
  yld i S H x H' d hd t sr _ hy := by
    obtain ⟨e, hx⟩ := hy
    subst e hx
    obtain ⟨_, e⟩ := intsF_get hd
    subst e
    exact ⟨Ev.refl, sr, .int _⟩
  stop i S H hi hj t sr _ := by
    have hi : (intsF lo n).length ≤ i := hi
    rw [intsF_len] at hi
    exact hi
theorem pair_new {S : Sto} {H : Hp} {T : Addr} {x y : V} {d e : D} (sr : SR K mg S H) (hT : H T = none) (rx : Rp K mg H x d) (ry : Rp K mg H y e) :
    Ev S H S (upd H T (.tup [x, y])) ∧ SR K mg S (upd H T (.tup [x, y])) ∧ Rp K mg (upd H T (.tup [x, y])) (.ref T) (.tup [d, e]) := by
  obtain ⟨s2, e2⟩ := sr.new (o := .tup [x, y]) hT
  exact ⟨e2, s2, .tup (.of upd_same) (.cons (rx.mono (e2.tk sr)) (.cons (ry.mono (e2.tk sr)) .nil))⟩
theorem jok_enu {H0 : Hp} {a : Addr} {ds : List D} : JOk K mg (Ite K a) H0 ⟨numbered 0 ds, fun S' => IsL S' a ds⟩ where
  go i S H hi t sr ok := by
    obtain ⟨vs, h, r⟩ := sr.isL ok
    have hi : i < (numbered 0 ds).length := hi
    rw [numbered_len] at hi
    have hv : i < vs.length := by rw [r.len]; exact hi
    exact ⟨vs, vs[i], .of h, List.getElem?_eq_getElem hv⟩
  yld i S H x H' d hd t sr ok hy := by
    obtain ⟨T, y, e1, hT, e2, hx⟩ := hy
    subst e1 e2
    obtain ⟨vs, h, r⟩ := sr.isL ok
    have hd' : (numbered 0 ds)[i]? = some d := hd
    rw [numbered_get] at hd'
    obtain ⟨d', hd1, hd2⟩ := Option.map_eq_some_iff.mp hd'
    subst hd2
    obtain ⟨v, hv, rv⟩ := r.get hd1
    have q := hx vs (.of h)
    rw [hv] at q
    injection q with q
    subst q
    rw [Nat.zero_add]
    exact pair_new sr hT (.int _) rv
  stop i S H hi hj t sr ok := by
    obtain ⟨vs, h, r⟩ := sr.isL ok
    have hi : (numbered 0 ds).length ≤ i := hi
    rw [numbered_len] at hi
    exact ⟨vs, .of h, by rw [r.len]; exact hi⟩
theorem jok_enuT {H0 : Hp} {a : Addr} {vs : List V} {ds : List D} (h : SqT K H0 a vs) (r : Rps K mg H0 vs ds) : JOk K mg (ItnT K a) H0 ⟨numbered 0 ds, fun _ => True⟩ where
  go i S H hi t sr _ := by
    have hi : i < (numbered 0 ds).length := hi
    rw [numbered_len] at hi
    have hv : i < vs.length := by rw [r.len]; exact hi
    exact ⟨vs, vs[i], t.1 _ _ h, List.getElem?_eq_getElem hv⟩
  yld i S H x H' d hd t sr _ hy := by
    obtain ⟨T, y, e1, hT, e2, hx⟩ := hy
    subst e1 e2
    have hd' : (numbered 0 ds)[i]? = some d := hd
    rw [numbered_get] at hd'
    obtain ⟨d', hd1, hd2⟩ := Option.map_eq_some_iff.mp hd'
    subst hd2
    obtain ⟨v, hv, rv⟩ := r.get hd1
    have q := hx vs (t.1 _ _ h)
    rw [hv] at q
    injection q with q
    subst q
    rw [Nat.zero_add]
    exact pair_new sr hT (.int _) (rv.mono t)
  stop i S H hi hj t sr _ := by
    have hj : i = (numbered 0 ds).length := hj
    rw [numbered_len] at hj
    exact ⟨vs, t.1 _ _ h, by rw [r.len]; exact hj.symm⟩
theorem jok_zipL {H0 : Hp} {a b : Addr} {ds es : List D} : JOk K mg (Itz K a b) H0 ⟨zipped ds es, fun S' => IsL S' a ds ∧ IsL S' b es⟩ where
  go i S H hi t sr ok := by
    obtain ⟨vs, h, r⟩ := sr.isL ok.1
    obtain ⟨ws, h', r'⟩ := sr.isL ok.2
    have hi : i < (zipped ds es).length := hi
    rw [zipped_len] at hi
    have hv : i < vs.length := by rw [r.len]; omega
    have hw : i < ws.length := by rw [r'.len]; omega
    exact ⟨vs, ws, vs[i], ws[i], .of h, .of h', List.getElem?_eq_getElem hv, List.getElem?_eq_getElem hw⟩
  yld i S H x H' d hd t sr ok hy := by
    obtain ⟨T, y, z, e1, hT, e2, hx, hz⟩ := hy
    subst e1 e2
    obtain ⟨vs, h, r⟩ := sr.isL ok.1
    obtain ⟨ws, h', r'⟩ := sr.isL ok.2
    obtain ⟨d1, d2, g1, g2, e⟩ := zipped_get _ _ _ _ hd
    subst e
    obtain ⟨v, hv, rv⟩ := r.get g1
    obtain ⟨w, hw, rw'⟩ := r'.get g2
    have q := hx vs (.of h)
    rw [hv] at q
    injection q with q
    have q' := hz ws (.of h')
    rw [hw] at q'
    injection q' with q'
    subst q q'
    exact pair_new sr hT rv rw'
  stop i S H hi hj t sr ok := by
    obtain ⟨vs, h, r⟩ := sr.isL ok.1
    obtain ⟨ws, h', r'⟩ := sr.isL ok.2
    have hi : (zipped ds es).length ≤ i := hi
    rw [zipped_len] at hi
    exact ⟨vs, ws, .of h, .of h', by rw [r.len, r'.len]; omega⟩
theorem jok_zipT {H0 : Hp} {a b : Addr} {vs ws : List V} {ds es : List D} (h : SqT K H0 a vs) (r : Rps K mg H0 vs ds) (h' : SqT K H0 b ws) (r' : Rps K mg H0 ws es) : JOk K mg (RZ.ItzT K a b) H0 ⟨zipped ds es, fun _ => True⟩ where
  go i S H hi t sr ok := by
    have hi : i < (zipped ds es).length := hi
    rw [zipped_len] at hi
    have hv : i < vs.length := by rw [r.len]; omega
    have hw : i < ws.length := by rw [r'.len]; omega
    exact ⟨vs, ws, vs[i], ws[i], t.1 _ _ h, t.1 _ _ h', List.getElem?_eq_getElem hv, List.getElem?_eq_getElem hw⟩
  yld i S H x H' d hd t sr ok hy := by
    obtain ⟨T, y, z, e1, hT, e2, hx, hz⟩ := hy
    subst e1 e2
    obtain ⟨d1, d2, g1, g2, e⟩ := zipped_get _ _ _ _ hd
    subst e
    obtain ⟨v, hv, rv⟩ := r.get g1
    obtain ⟨w, hw, rw'⟩ := r'.get g2
    have q := hx vs (t.1 _ _ h)
    rw [hv] at q
    injection q with q
    have q' := hz ws (t.1 _ _ h')
    rw [hw] at q'
    injection q' with q'
    subst q q'
    exact pair_new sr hT (rv.mono t) (rw'.mono t)
  stop i S H hi hj t sr ok := by
    have hi : (zipped ds es).length ≤ i := hi
    rw [zipped_len] at hi
    exact ⟨vs, ws, t.1 _ _ h, t.1 _ _ h', by rw [r.len, r'.len]; omega⟩
end
section
variable {s : SC} {C : CallT} {k : Nat} {X : Cx} {W : WX}
theorem ad_of {a : IE} {x tg : Expr} (h : pE X W C a x) : PI X tg x (tI X.K X.mg W C (.of a)) := by
  refine ⟨fun pins st σ H R I ⟨φ, S, q, E, fr, sr, hw, l, lx⟩ => ?_⟩
  refine thn (h.run pins st σ H (fun v H1 => ∃ d S1, SR X.K X.mg S1 H1 ∧ Ev S H S1 H1 ∧ Rp X.K X.mg H1 v d ∧ srcW d S1 fun s => q s S1) I ⟨φ, S, _, E, fr, sr, hw, fun d S1 v H1 hz e s r => ⟨d, S1, s, e, r, hz⟩, lx⟩) fun u s1 ⟨v, H1, I1, r1, d, S1, s1', e1, rd, hs⟩ => ?_
  unfold srcW at hs
  split at hs
  · cases rd with
    | tup g r =>
      cases r1
      obtain ⟨its, rv, p, hz⟩ := I1.tuple g
      exact wpAny_pyIter_tuple (items := its.toArray) p (pi_one (tk := s1.toks) I1 _ (turn_tuple _ _) ⟨_, Heap.get?_push_size _ rfl, rfl, rfl⟩ (l _ S1 H1 _ hs e1 s1' (jok_tup g r)))
  · cases rd with
    | fls g r =>
      cases r1
      obtain ⟨its, rv, p, hz⟩ := I1.list g.1
      exact wpAny_pyIter_list p.isList (pi_one (tk := s1.toks) I1 _ (turn_list _ _) ⟨_, Heap.get?_push_size _ rfl, rfl, rfl⟩ (l _ S1 H1 _ hs e1 s1' (jok_fls g r)))
  · rename_i z
    cases rd
    obtain ⟨t, e⟩ := r1
    subst e
    have q1 := l _ S1 H1 _ hs e1 s1' jok_str
    cases ha : z.cps.all (· < 128) with
    | false => exact wpAny_pyIter_wide ha (pi_one (tk := s1.toks) I1 _ (turn_str _ z t _ (.inr rfl)) ⟨_, Heap.get?_push_size _ rfl, rfl, rfl⟩ q1)
    | true => exact wpAny_pyIter_ascii ha (pi_one (tk := s1.toks) I1 _ (turn_str _ z t _ (.inl rfl)) ⟨_, Heap.get?_push_size _ rfl, rfl, rfl⟩ q1)
  · cases rd
    cases r1
    obtain ⟨xs, h0, hq⟩ := hs
    obtain ⟨vs, g, r⟩ := s1'.isL h0
    obtain ⟨its, rv, p, hz⟩ := I1.list (.of g)
    exact wpAny_pyIter_list p.isList (pi_one (tk := s1.toks) I1 _ (turn_list _ _) ⟨_, Heap.get?_push_size _ rfl, rfl, rfl⟩ (l _ S1 H1 _ hq e1 s1' jok_lst))
  · exact hs.elim
theorem pi_imp {tg e : Expr} {t t' : TI} (h : PI X tg e t) (i : ∀ σ H Q, t' σ H Q → t σ H Q) : PI X tg e t' := ⟨fun pins s σ H Q I q => h.run pins s σ H Q I (i σ H Q q)⟩
theorem rngW1 {d : D} {q : Src → Prop} (h : rngW [d] q) : ∃ j, d = .int j ∧ Big j ∧ q ⟨intsF 0 j.toNat, fun _ => True⟩ := by
  cases d <;> first | exact ⟨_, rfl, h⟩ | exact False.elim h
theorem rngW2 {d e : D} {q : Src → Prop} (h : rngW [d, e] q) : ∃ i j, d = .int i ∧ e = .int j ∧ (Big i ∧ Big j) ∧ q ⟨intsF i (j - i).toNat, fun _ => True⟩ := by
  cases d <;> cases e <;> first | exact ⟨_, _, rfl, rfl, h⟩ | exact False.elim h
theorem ad_rng1 {a : IE} {x tg : Expr} {p pos : Pos} (A : Amb s C k X) (hg : glB s.sc ("range" : Str) = true) (hf : freeB s ("range" : Str) = true) (ha : pE X W C a x) (hx : notStar x = true) : PI X tg (.Call (.Name "range" p) [x] [] pos) (tI X.K X.mg W C (.rng (.cons a .nil))) := by
  refine pi_imp (pi_range1 (A.gl hg) (A.free _ hf) (pa_cons ha pa_nil (star_not hx)) (star_not hx)) fun σ H R ⟨φ, S, q, E, fr, sr, hw, l, lx⟩ => ?_
  have hw : wE C a φ S (fun d S1 => rngW [d] fun s => q s S1) E := hw
  refine ⟨φ, S, _, E, fr, sr, hw, fun d S1 v H1 hz e1 s1 r => ?_, lx⟩
  obtain ⟨j, e, hb, hq⟩ := rngW1 hz
  subst e
  cases r
  exact ⟨j, rfl, hb.1, hb.2, l _ S1 H1 _ hq e1 s1 jok_rng⟩
theorem ad_rng2 {a b : IE} {x y tg : Expr} {p pos : Pos} (A : Amb s C k X) (hg : glB s.sc ("range" : Str) = true) (hf : freeB s ("range" : Str) = true) (ha : pE X W C a x) (hx : notStar x = true) (hb : pE X W C b y) (hy : notStar y = true) :
    PI X tg (.Call (.Name "range" p) [x, y] [] pos) (tI X.K X.mg W C (.rng (.cons a (.cons b .nil)))) := by
  refine pi_imp (pi_range2 (A.gl hg) (A.free _ hf) (pa_cons ha (pa_cons hb pa_nil (star_not hy)) (star_not hx)) (by rw [star_not hx, star_not hy]; rfl) (star_not hy)) fun σ H R ⟨φ, S, q, E, fr, sr, hw, l, lx⟩ => ?_
  have hw : wE C a φ S (fun d S1 => wE C b φ S1 (fun e S2 => rngW [d, e] fun s => q s S2) E) E := hw
  refine ⟨φ, S, _, E, fr, sr, hw, fun d S1 v H1 hz e1 s1 r => ⟨φ, S1, _, E, fr.mono (e1.tk sr), s1, hz, fun e S2 v2 H2 hz2 e2 s2 r2 => ?_, lx.after e1⟩, lx⟩
  obtain ⟨i, j, g1, g2, hb, hq⟩ := rngW2 hz2
  subst g1 g2
  cases r
  cases r2
  exact ⟨i, j, rfl, ⟨hb.1.1, hb.1.2, hb.2.1, hb.2.2⟩, l _ S2 H2 _ hq (e1.trans e2) s2 jok_rng⟩
theorem ad_enu {a : IE} {x : Expr} {p pos tpos : Pos} {elts : List Expr} {kk : Nat} (A : Amb s C k X) (hg : glB s.sc ("enumerate" : Str) = true) (hf : freeB s ("enumerate" : Str) = true) (ha : pE X W C a x) (hx : notStar x = true) :
    PI X (.Tuple elts kk tpos) (.Call (.Name "enumerate" p) [x] [] pos) (tI X.K X.mg W C (.enu a)) := by
  refine pi_imp (pi_enuT (A.gl hg) (A.free _ hf) (pa_cons ha pa_nil (star_not hx)) (star_not hx)) fun σ H R ⟨φ, S, q, E, fr, sr, hw, l, lx⟩ => ?_
  have hw : wE C a φ S (fun d S1 => enuW d S1 fun s => q s S1) E := hw
  refine ⟨φ, S, _, E, fr, sr, hw, fun d S1 v H1 hz e1 s1 r => ?_, lx⟩
  dsimp only at hz
  unfold enuW at hz
  split at hz
  · cases r
    obtain ⟨xs, h0, hq⟩ := hz
    obtain ⟨vs, g, r⟩ := s1.isL h0
    exact ⟨_, rfl, .inl ⟨vs, .of g, l _ S1 H1 _ hq e1 s1 jok_enu⟩⟩
  · cases r with
    | tup g r => exact ⟨_, rfl, .inr ⟨_, g, l _ S1 H1 _ hz e1 s1 (jok_enuT g r)⟩⟩
  · exact hz.elim
theorem ad_zip {a b : IE} {x y : Expr} {p pos tpos : Pos} {elts : List Expr} {kk : Nat} (A : Amb s C k X) (hg : glB s.sc ("zip" : Str) = true) (hf : freeB s ("zip" : Str) = true) (ha : pE X W C a x) (hx : notStar x = true) (hb : pE X W C b y) (hy : notStar y = true) :
    PI X (.Tuple elts kk tpos) (.Call (.Name "zip" p) [x, y] [] pos) (tI X.K X.mg W C (.zip a b)) := by
  refine pi_imp (RZ.pi_zipA (A.gl hg) (A.free _ hf) (pa_cons ha (pa_cons hb pa_nil (star_not hy)) (star_not hx)) (star_not hx) (by rw [star_not hy]; rfl)) fun σ H R ⟨φ, S, q, E, fr, sr, hw, l, lx⟩ => ?_
  have hw : wE C a φ S (fun d S1 => wE C b φ S1 (fun e S2 => zipW d e S2 fun s => q s S2) E) E := hw
  refine ⟨φ, S, _, E, fr, sr, hw, fun d S1 v H1 hz e1 s1 r => ⟨φ, S1, _, E, fr.mono (e1.tk sr), s1, hz, fun e S2 v2 H2 hz2 e2 s2 r2 => ?_, lx.after e1⟩, lx⟩
  dsimp only at hz2
  unfold zipW at hz2
  split at hz2
  · cases r
    cases r2
    obtain ⟨xs, ys, h0, h1, hq⟩ := hz2
    obtain ⟨vs, g, rv⟩ := s2.isL h0
    obtain ⟨ws, g', rw'⟩ := s2.isL h1
    exact ⟨_, _, vs, ws, rfl, .inl ⟨.of g, .of g', l _ S2 H2 _ hq (e1.trans e2) s2 jok_zipL⟩⟩
  · cases r with
    | tup g r =>
      cases r2 with
      | tup g' r' =>
        have g2 := (e2.tk s1).1 _ _ g
        exact ⟨_, _, _, _, rfl, .inr ⟨g2, g', l _ S2 H2 _ hz2 (e1.trans e2) s2 (jok_zipT g2 (r.mono (e2.tk s1)) g' r')⟩⟩
  · exact hz2.elim
end
end Pi

/-! PiMet: methods of built-ins, dict displays, calls by keywords. -/
namespace Pi
open PySem L2 PyProof.Rows PySem.W
section
variable {s : SC} {C : CallT} {k : Nat} {X : Cx} {W : WX}
theorem base_of {o : Expr} {nm : Str} {env : Env} {w : Sem Value} (h : baseB o = true) : attributeBase o nm env w = w := by
  unfold baseB at h
  split at h
  · cases h
  · rename_i hn
    unfold attributeBase
    split
    · rename_i id p q
      exact absurd rfl (hn _ _ _)
    · rfl
theorem rcv_ty {m : Mt} {d : D} {v : V} {S : Sto} {H : Hp} (sr : SR X.K X.mg S H) (r : Rp X.K X.mg H v d) (h : rcvW m d S) : tyV X.K m.ty v H := by
  have lst : ∀ {a : Nat}, (∃ xs, IsL S a xs) → tyV X.K "list" (.ref a) H := fun ⟨xs, hx⟩ => let ⟨vs, g, _⟩ := sr.isL hx; .inl ⟨rfl, vs, .of g⟩
  unfold rcvW at h
  split at h
  · cases r; exact rfl
  · exact h.elim
  · rename_i hm
    cases r
    cases m <;> first | exact lst h | exact (hm rfl).elim
  · exact h.elim
theorem starL_len : ∀ (xs : List Expr) (env : Env), (starEach xs env).length = xs.length
  | [], env => rfl
  | x :: xs, env => by
    have := starL_len xs env
    cases x <;> simp only [starEach, List.length_cons, this]
theorem ad_met {m : Mt} {a : IE} {es : IEs} {x : Expr} {xs : List Expr} {p q : Pos} (A : Amb s C k X) (ha : pE X W C a x) (h : All X W C es xs) (hb : baseB x = true) (hl : (p.endLine == q.line) = true) (hn : xs.length < 20) :
    pE X W C (.met m a es) (.Call (.Attribute x m.nm p) xs [] q) := by
  cases h with
  | nil =>
    refine pe_imp (pe_bm0 m.plain m.slot m.typ (mt_P m) ha (base_of hb) hl) fun σ H Q ⟨φ, S, q, E, fr, sr, hw, l, lx⟩ => ?_
    exact ⟨φ, S, _, E, fr, sr, hw, fun d S1 v H1 hz e1 s1 r => ⟨rcv_ty s1 r hz.1, S1, d, [], q, s1, r, .nil, hz.2, l.after e1⟩, lx⟩
  | @cons e r y ys b c d =>
    have pa := (AllS.cons b c d.toS).pa
    have few := (All.cons b c d).few q
    refine pe_imp (pe_bm m.plain m.slot m.typ (mt_P m) ha pa (base_of hb) ?_ hl (star_not c) (d.plain q)) fun σ H Q ⟨φ, S, q, E, fr, sr, hw, l, lx⟩ => ?_
    · rw [few]
      have z : (y :: ys).length + 0 + 0 < 30 := by omega
      show (true && true && decide ((y :: ys).length + 0 + 0 < 30)) = true
      rw [decide_eq_true z]
      rfl
    · exact ⟨φ, S, _, E, fr, sr, hw, fun d S1 v H1 hz e1 s1 r => ⟨rcv_ty s1 r hz.1, φ, S1, _, E, fr.mono (e1.tk sr), s1, hz.2, fun ds S2 vs H2 hz2 e2 s2 rs => ⟨S2, d, ds, q, s2, r.mono (e2.tk s1), rs, hz2, l.after (e1.trans e2)⟩, lx.after e1⟩, lx⟩
/-! ### dict displays -/
theorem disp_rel {K : PySem.W.Frag} {mg : Str → Option Value} {H : Hp} : ∀ {ks : List Str} {vs : List V} {ds : List D} {kv : List (Key × V)} {kd : List (Str × D)}, KVr K mg H kv kd → Rps K mg H vs ds →
    KVr K mg H (mergeK kv ((ks.zip vs).map fun p => (Sum.inr p.1, p.2))) (dispK kd ks ds)
  | [], vs, ds, kv, kd, h, r => by simpa [mergeK, dispK] using h
  | k :: ks, [], ds, kv, kd, h, r => by cases r; simpa [mergeK, dispK] using h
  | k :: ks, v :: vs, [], kv, kd, h, r => by cases r
  | k :: ks, v :: vs, d :: ds, kv, kd, h, r => by
    cases r with
    | cons r rs =>
      have q := disp_rel (ks := ks) (h.put k r) rs
      exact q
theorem pps_of {pos : Pos} : ∀ {ks : List Str} {keys : List (Option Expr)} {es : IEs} {xs : List Expr}, All X W C es xs → keysB ks keys = true → keys.length = xs.length →
    ∃ trs, PPs X pos keys xs trs ∧ ∀ (σ : L2.St) (H : Hp) (φ : Fr) (S : Sto) (q : KL) (E : XE) (Q : List (V × V) → Hp → Prop), FR X.K X.mg H σ φ → SR X.K X.mg S H → wL C es φ S q E →
      (∀ ds S' vs H', q ds S' → Ev S H S' H' → SR X.K X.mg S' H' → Rps X.K X.mg H' vs ds → Q ((ks.zip vs).map fun p => (.str p.1, p.2)) H') → LX X.K X.mg W S H φ E → tPairs trs σ H Q := by
  intro ks keys es xs h hk hl
  induction h generalizing ks keys with
  | nil =>
    cases keys with
    | cons _ _ => cases hl
    | nil =>
      cases ks with
      | cons _ _ => cases hk
      | nil => exact ⟨[], pps_nil, fun σ H φ S q E Q fr sr hw l lx => l [] S [] H hw Ev.refl sr .nil⟩
  | @cons e r x xs a b c ih =>
    cases keys with
    | nil => cases hl
    | cons key keys =>
      cases ks with
      | nil => cases hk
      | cons kk ks =>
        unfold keysB at hk
        split at hk
        · cases ‹kk :: ks = []›
        · rename_i k' ks' x' n p es' g1 g2
          injection g1 with g1 g1'
          injection g2 with g2 g2'
          subst g1 g1' g2 g2'
          rw [Bool.and_eq_true] at hk
          have e := of_decide_eq_true hk.1
          subst e
          obtain ⟨trs, hp, hq⟩ := ih hk.2 (Nat.succ.inj hl)
          refine ⟨_, pps_cons pe_str a hp, fun σ H φ S q E Q fr sr hw l lx => ?_⟩
          refine ⟨φ, S, _, E, fr, sr, hw, fun d S1 v H1 hz e1 s1 r1 => ?_, lx⟩
          refine hq σ H1 φ S1 _ E _ (fr.mono (e1.tk sr)) s1 hz (fun ds S2 vs H2 hz2 e2 s2 rs => ?_) (lx.after e1)
          exact l _ S2 _ H2 hz2 (e1.trans e2) s2 (.cons (r1.mono (e2.tk s1)) rs)
        · cases hk
theorem keysB_some : ∀ {ks : List Str} {keys : List (Option Expr)}, keysB ks keys = true → keys.all (·.isSome) = true ∧ ks.length = keys.length
  | [], [], _ => ⟨rfl, rfl⟩
  | [], _ :: _, h => by cases h
  | _ :: _, [], h => by cases h
  | k :: ks, x :: keys, h => by
    unfold keysB at h
    split at h
    · cases ‹k :: ks = []›
    · rename_i k' ks' x' n p es' g1 g2
      injection g1 with g1 g1'
      injection g2 with g2 g2'
      subst g1 g1' g2 g2'
      rw [Bool.and_eq_true] at h
      obtain ⟨a, b⟩ := keysB_some h.2
      exact ⟨by rw [List.all_cons, a]; rfl, by rw [List.length_cons, List.length_cons, b]⟩
    · cases h
theorem ad_dis {ks : List Str} {es : IEs} {keys : List (Option Expr)} {xs : List Expr} {pos : Pos} (h : All X W C es xs) (hk : keysB ks keys = true) (hl : keys.length = xs.length) (h0 : 0 < keys.length) (h15 : keys.length ≤ 15) : pE X W C (.dis ks es) (.Dict keys xs pos) := by
  obtain ⟨trs, hp, hq⟩ := pps_of (pos := pos) h hk hl
  obtain ⟨hall, hkl⟩ := keysB_some hk
  refine pe_imp (pe_disp hp hall hl (fun e => by rw [e] at h0; cases h0) h15) fun σ H Q ⟨φ, S, q, E, fr, sr, hw, l, lx⟩ => ?_
  intro p hpn
  obtain ⟨s0, e0⟩ := sr.new (o := .dK []) hpn
  refine hq σ _ φ S _ E _ (fr.mono (e0.tk sr)) s0 hw (fun ds S1 vs H1 hz e1 s1 rs => ?_) (lx.after e0)
  obtain ⟨hlen, hqq⟩ := hz
  obtain ⟨hp1, hp2⟩ := e1 p _ upd_same (sr.free hpn)
  refine ⟨hp1, (ks.zip vs).map fun p => (Sum.inr p.1, p.2), by rw [List.map_map]; rfl, by rw [List.length_map, List.length_zip, hkl]; omega, ?_⟩
  have up : Tk X.K H1 (upd H1 p (.dK (mergeK [] ((ks.zip vs).map fun p => (Sum.inr p.1, p.2))))) := tk_upd (fun xs h => by
    have : Rd H1 p (.tup xs) := h
    rcases this with h | ⟨o, h⟩
    · rw [hp1] at h; cases h
    · rw [hp1] at h; cases h) (fun o xs h => by rw [hp1] at h; cases h)
  have key : ∀ u : O, SRo X.K X.mg (upd H1 p (.dK (mergeK [] ((ks.zip vs).map fun p => (Sum.inr p.1, p.2))))) p u →
      SR X.K X.mg (put S1 p u) (upd H1 p (.dK (mergeK [] ((ks.zip vs).map fun p => (Sum.inr p.1, p.2))))) := fun u hu a o ho => by
    by_cases ea : a = p
    · subst ea
      rw [put_same] at ho
      injection ho with ho
      subst ho
      exact hu
    · rw [put_ne ea] at ho
      exact (s1 a o ho).mono up (upd_ne ea)
  have s3 := key (.dct (dispK [] ks ds)) ⟨_, upd_same, disp_rel .nil (rs.mono up)⟩
  refine l _ _ _ _ (hqq p hp2) (fun a o ha hs => ?_) s3 (.ref p)
  have ea : a ≠ p := fun e => by subst e; rw [hpn] at ha; cases ha
  obtain ⟨g1, g2⟩ := e1 a o (by rw [upd_ne ea]; exact ha) hs
  exact ⟨by rw [upd_ne ea]; exact g1, by rw [put_ne ea]; exact g2⟩
/-! ### keywords -/
inductive AllK (X : Cx) (W : WX) (C : CallT) : IEs → List Keyword → Prop
  | nil : AllK X W C .nil []
  | cons {e : IE} {r : IEs} {n : Option Str} {x : Expr} {p : Pos} {xs : List Keyword} : pE X W C e x → AllK X W C r xs → AllK X W C (.cons e r) (⟨n, x, p⟩ :: xs)
theorem pk_imp {e : List Keyword} {t t' : TA} (h : PK X e t) (i : ∀ σ H Q, t' σ H Q → t σ H Q) : PK X e t' := ⟨fun pos pins s σ H Q I q => h.run pos pins s σ H Q I (i σ H Q q)⟩
theorem AllK.pk {es : IEs} {xs : List Keyword} (h : AllK X W C es xs) : PK X xs (tL X.K X.mg W C es) := by
  induction h with
  | nil => exact pk_imp pk_nil fun σ H Q ⟨φ, S, q, E, fr, sr, h, l, lx⟩ => l _ S [] H h Ev.refl sr .nil
  | cons a c ih =>
    exact pk_imp (pk_cons a ih) fun σ H Q ⟨φ, S, q, E, fr, sr, h, l, lx⟩ => ⟨φ, S, _, E, fr, sr, h, fun x S1 vx H1 hx e1 s1 rx => ⟨φ, S1, _, E, fr.mono (e1.tk sr), s1, hx, fun ys S2 vs H2 hy e2 s2 ry =>
      l _ S2 _ H2 hy (e1.trans e2) s2 (.cons (rx.mono (e2.tk s1)) ry), lx.after e1⟩, lx⟩
theorem kwB_facts : ∀ {ks : List Str} {kws : List Keyword} {pos : Pos} {env : Env}, kwB ks kws = true → (backToKw pos (keywordEach kws env)).all (·.1.isSome) = true ∧ (backToKw pos (keywordEach kws env)).filterMap (·.1) = ks ∧ (backToKw pos (keywordEach kws env)).any (·.1.isNone) = false
  | [], [], _, _, _ => ⟨rfl, rfl, rfl⟩
  | [], _ :: _, _, _, h => by cases h
  | _ :: _, [], _, _, h => by cases h
  | k :: ks, ⟨n, e, p⟩ :: kws, pos, env, h => by
    cases n with
    | none => cases h
    | some x =>
      have h' : (decide (k = x) && kwB ks kws) = true := h
      rw [Bool.and_eq_true] at h'
      have ee := of_decide_eq_true h'.1
      subst ee
      obtain ⟨a, b, c⟩ := kwB_facts (pos := pos) (env := env) h'.2
      refine ⟨?_, ?_, ?_⟩
      · show (true && (backToKw pos (keywordEach kws env)).all (·.1.isSome)) = true
        rw [a]; rfl
      · show k :: (backToKw pos (keywordEach kws env)).filterMap (·.1) = k :: ks
        rw [b]
      · show (false || (backToKw pos (keywordEach kws env)).any (·.1.isNone)) = false
        rw [c]; rfl
def arrV (ks : List Str) (vs : List V) (rs : List Str) : List V := rs.map fun r => ((ks.zip vs).lookup r).getD .non
theorem look_rel (r : Str) : ∀ {ks : List Str} {vs : List V} {us : List Value}, Vals vs us → RelV (((ks.zip vs).lookup r).getD .non) (((ks.zip us).lookup r).getD .none)
  | [], _, _, _ => rfl
  | k :: ks, _, _, .nil => rfl
  | k :: ks, _, _, .cons a b => by
    simp only [List.zip_cons_cons, List.lookup_cons]
    cases r == k with
    | true => exact a
    | false => exact look_rel r b
theorem arrV_vals {ks : List Str} {vs : List V} {us : List Value} (h : Vals vs us) : ∀ rs : List Str, Vals (arrV ks vs rs) (rs.map fun r => ((ks.zip us).lookup r).getD .none)
  | [] => .nil
  | r :: rs => .cons (look_rel r h) (arrV_vals h rs)
theorem look_rp {K : PySem.W.Frag} {mg : Str → Option Value} {H : Hp} (r : Str) : ∀ {ks : List Str} {vs : List V} {ds : List D}, Rps K mg H vs ds → Rp K mg H (((ks.zip vs).lookup r).getD .non) (((ks.zip ds).lookup r).getD .non)
  | [], _, _, _ => .non
  | k :: ks, _, _, .nil => .non
  | k :: ks, _, _, .cons a b => by
    simp only [List.zip_cons_cons, List.lookup_cons]
    cases r == k with
    | true => exact a
    | false => exact look_rp r b
theorem arrV_rps {K : PySem.W.Frag} {mg : Str → Option Value} {H : Hp} {ks : List Str} {vs : List V} {ds : List D} (h : Rps K mg H vs ds) : ∀ rs : List Str, Rps K mg H (arrV ks vs rs) (arr ks ds rs)
  | [] => .nil
  | r :: rs => .cons (look_rp r h) (arrV_rps h rs)
theorem vals_app {vs ws : List V} {us zs : List Value} (a : Vals vs us) (b : Vals ws zs) : Vals (vs ++ ws) (us ++ zs) := by
  induction a with
  | nil => exact b
  | cons h _ ih => exact .cons h ih
theorem ad_cak {f : Str} {es : IEs} {ks : List Str} {vs : IEs} {rs : List Str} {xs : List Expr} {kws : List Keyword} {p pos : Pos} (A : Amb s C k X) (tk : Takes X W) (hg : glB s.sc f = true) (hn : okName f = true) (hf : (s.tab.lookup f).isSome = true) (hm : (f, xs.length, ks, rs) ∈ s.kwp)
    (h : All X W C es xs) (hkw : kwB ks kws = true) (hv : AllK X W C vs kws) : pE X W C (.cak f es ks vs rs) (.Call (.Name f p) xs kws pos) := by
  obtain ⟨fd, hfd⟩ := Option.isSome_iff_exists.mp hf
  obtain ⟨fa, fdt, g, kp, _, F, hb⟩ := A.cal f fd hfd
  obtain ⟨b1, b2, b3⟩ := hb _ _ _ hm
  obtain ⟨k1, k2, k3⟩ := kwB_facts (pos := pos) (env := X.env) hkw
  refine ⟨fun pins st σ H Q I ⟨φ, S, q, E, fr, sr, hw, l, lx⟩ => ?_⟩
  refine wpAny_Call_Name_kw (ld_glob I (A.gl hg) g ?_ (okName_ok hn).1)
  have step : ∀ {s1 : Shared} {H1 : Hp} {S1 : Sto} {us : List Value} {ys : List V} {ds : List D}, Inv X pins σ H1 s1 → Ev S H S1 H1 → SR X.K X.mg S1 H1 → Vals ys us → Rps X.K X.mg H1 ys ds →
      wL C vs φ S1 (fun es S2 => es.length = ks.length ∧ C f (ds ++ arr ks es rs) S2 q E) E →
      wpAny (model X.prog X.w) X.A (evalAll ((backToKw pos (keywordEach kws X.env)).map (·.2))) (fun ws s2 => X.K.In s2.heap ∧ wpAny (model X.prog X.w) X.A (call (.ref fa) us (((backToKw pos (keywordEach kws X.env)).filterMap (·.1)).zip ws)) (EP X pins σ Q) X.xe s2) X.xe s1 := by
    intro s1 H1 S1 us ys ds I1 e1 s1' rv r1 hw1
    refine thn (hv.pk.run pos pins s1 σ H1 (fun zs H2 => ∃ es S2, SR X.K X.mg S2 H2 ∧ Ev S1 H1 S2 H2 ∧ Rps X.K X.mg H2 zs es ∧ es.length = ks.length ∧ C f (ds ++ arr ks es rs) S2 q E) I1
      ⟨φ, S1, _, E, fr.mono (e1.tk sr), s1', hw1, fun es S2 zs H2 hz e2 s2 r2 => ⟨es, S2, s2, e2, r2, hz⟩, lx.after e1⟩) fun ws s2 ⟨zs, H2, I2, rz, es, S2, s2', e2, r2, hlen, hc⟩ => ⟨I2.kIn, ?_⟩
    rw [k2]
    have hl := A.cl f fd _ S2 q E hfd hc
    have hlr : (arr ks es rs).length = rs.length := by unfold arr; rw [List.length_map]
    have hd : us.length = xs.length := by
      rw [← rv.length, r1.len]
      rw [List.length_append, hlr] at hl
      omega
    refine A.run tk F hfd (us := us) (kw := ks.zip ws) (bs := us ++ rs.map fun r => ((ks.zip ws).lookup r).getD .none) I2 (fun _ => b3 us ws hd ?_) (vals_app rv (arrV_vals rz rs)) (fr.mono ((e1.trans e2).tk sr)) s2' ((r1.mono (e2.tk s1')).app (arrV_rps r2 rs)) hc (l.after (e1.trans e2)) (lx.after (e1.trans e2))
    rw [← rz.length, r2.len]
    exact hlen
  cases h with
  | nil =>
    refine PySem.W.callWith_KW0 (h₀ := X.base) I.ok.mod.kin kp k1 ?_ (by rw [k3]; rfl)
    exact step I Ev.refl sr .nil .nil hw
  | @cons e r x xs a b c =>
    have pa := (AllS.cons a b c.toS).pa
    refine PySem.W.callWith_KW (h₀ := X.base) I.ok.mod.kin kp k1 (thn (pa.run pos pins st σ H (fun ys H1 => ∃ ds S1, SR X.K X.mg S1 H1 ∧ Ev S H S1 H1 ∧ Rps X.K X.mg H1 ys ds ∧ wL C vs φ S1 (fun es S2 => es.length = ks.length ∧ C f (ds ++ arr ks es rs) S2 q E) E) I
      ⟨φ, S, _, E, fr, sr, hw, fun ds S1 ys H1 hc e1 s1 rs => ⟨ds, S1, s1, e1, rs, hc⟩, lx⟩) fun us s1 ⟨ys, H1, I1, rv, ds, S1, s1', e1, rs, hc⟩ => step I1 e1 s1' rv rs hc) ?_ (star_not b)
    rw [k3, (All.cons a b c).plain pos]
    rfl
/-! ### max with a default -/
theorem maxOf_spec : ∀ (xs : List Int) (x : Int), maxOf x xs ∈ x :: xs ∧ ∀ y ∈ x :: xs, y ≤ maxOf x xs
  | [], x => ⟨List.mem_singleton.mpr rfl, fun y hy => by rw [List.mem_singleton.mp hy]; exact Int.le_refl _⟩
  | z :: zs, x => by
    have e : maxOf x (z :: zs) = maxOf (if x < z then z else x) zs := by
      show List.foldl _ (if DatumOrd.lt x z = true then z else x) zs = _
      have q : (DatumOrd.lt x z = true) = (x < z) := by
        show (decide (x < z) = true) = _
        exact decide_eq_true_eq
      simp only [q]
      rfl
    obtain ⟨h1, h2⟩ := maxOf_spec zs (if x < z then z else x)
    rw [e]
    refine ⟨?_, fun y hy => ?_⟩
    · rcases List.mem_cons.mp h1 with h | h
      · rw [h]
        split
        · exact List.mem_cons_of_mem _ List.mem_cons_self
        · exact List.mem_cons_self
      · exact List.mem_cons_of_mem _ (List.mem_cons_of_mem _ h)
    · have h3 := h2 _ List.mem_cons_self
      have h4 : x ≤ (if x < z then z else x) ∧ z ≤ (if x < z then z else x) := by split <;> omega
      rcases List.mem_cons.mp hy with h | h
      · rw [h]; exact Int.le_trans h4.1 h3
      · rcases List.mem_cons.mp h with h | h
        · rw [h]; exact Int.le_trans h4.2 h3
        · exact h2 y (List.mem_cons_of_mem _ h)
theorem cr_mxd (hc : X.calm = true) (hu : X.A.units + 200 < cLine) : CallRK X (.builtin "max") ["default"] (fun xs zs H Q => ∃ a ns d, xs = [V.ref a] ∧ zs = [d] ∧ SqL X.K H a (ns.map V.int) ∧ (ns = [] → Q d H) ∧ (ns ≠ [] → ∀ m, m ∈ ns → (∀ y, y ∈ ns → y ≤ m) → Q (.int m) H)) := by
  rintro pins st σ H xs zs us ws Q I r rz ⟨a, ns, d, rfl, rfl, hs, h0, h1⟩
  obtain ⟨its, rv, hl, _⟩ := I.list hs
  rw [Vals.ref1 r]
  cases rz with
  | cons rd rn =>
    cases rn
    rename_i u
    have hi := rv.ints
    refine max_list_datum_default (I.ok.hd hc) hl.isList (by simpa using HoldAll.of_ints hi) (by show _ + 1 + 0 < _; omega) (fun e h' tk hk => ⟨d, H, I.kept hk, rd, h0 e⟩) fun y ys i v h' tk e hv hold hk => ?_
    obtain ⟨as, rd'⟩ := hold
    cases rd' with
    | int n t =>
      obtain ⟨g1, g2⟩ := maxOf_spec ys y
      exact ⟨.int _, H, I.kept hk, ⟨t, rfl⟩, h1 (by rw [e]; exact fun z => nomatch z) _ (by rw [e]; exact g1) (by rw [e]; exact g2)⟩
theorem ad_mxd {a d : IE} {x y : Expr} {p q pos : Pos} (A : Amb s C k X) (hg : glB s.sc ("max" : Str) = true) (hf : freeB s ("max" : Str) = true) (ha : pE X W C a x) (hx : notStar x = true) (hd : pE X W C d y) : pE X W C (.mxd a d) (.Call (.Name "max" p) [x] [⟨some "default", y, q⟩] pos) := by
  refine pe_imp (pe_callBK (cr_mxd A.calm A.hu) (A.gl hg) (A.free _ hf) (Bi.boot .max) (pa_cons ha pa_nil (star_not hx)) (pk_cons hd pk_nil) (by decide) (by decide) (by rw [star_not hx]; rfl) (by rw [star_not hx]; rfl)) fun σ H Q ⟨φ, S, q, E, fr, sr, hw, l, lx⟩ => ?_
  have hw : wE C a φ S (fun x S1 => wE C d φ S1 (fun y S2 => mxdW x y S2 q) E) E := hw
  refine ⟨φ, S, _, E, fr, sr, hw, fun z S1 v H1 h1 e1 s1 r1 => ⟨φ, S1, _, E, fr.mono (e1.tk sr), s1, h1, fun z2 S2 v2 H2 h2 e2 s2 r2 => ?_, lx.after e1⟩, lx⟩
  dsimp only at h2
  unfold mxdW at h2
  split at h2
  · cases r1
    obtain ⟨xs, ns, g1, g2, g3, g4⟩ := h2
    obtain ⟨vs, g, rr⟩ := s2.isL g1
    have e := rps_ints g2 rr
    subst e
    have l2 := l.after (e1.trans e2)
    exact ⟨_, ns, v2, rfl, rfl, .of g, fun e => l2.here s2 (g3 e) r2, fun e m hm hmx => l2.here s2 (g4 e m hm hmx) (.int _)⟩
  · exact h2.elim
end
end Pi

/-! PiComp: targets, list comprehensions. -/
namespace Pi
open PySem L2 PyProof.Rows
/-! ### targets -/
def setS (σ : L2.St) : List Nat → List V → L2.St
  | i :: is, v :: vs => setS (σ.set i (some v)) is vs
  | _, _ => σ
theorem wipe_get (σ : L2.St) (j : Nat) : ∀ vs : List Nat, (wipe σ vs)[j]? = if j ∈ vs then (σ[j]?).map (fun _ => none) else σ[j]?
  | [] => by simp [wipe]
  | v :: vs => by
    unfold wipe
    by_cases h : v = j
    · subst h
      rw [if_pos List.mem_cons_self]
      by_cases hv : v < (wipe σ vs).length
      · rw [List.getElem?_set_self hv]
        rw [wipe_length] at hv
        rw [List.getElem?_eq_getElem hv]; rfl
      · rw [List.getElem?_eq_none (by rw [List.length_set]; omega)]
        rw [wipe_length] at hv
        rw [List.getElem?_eq_none (by omega)]; rfl
    · rw [List.getElem?_set_ne h, wipe_get σ j vs]
      have e : (j ∈ v :: vs) ↔ j ∈ vs := by
        rw [List.mem_cons]
        exact ⟨fun z => z.resolve_left fun e => h e.symm, .inr⟩
      simp only [e]
theorem wipe_set {σ : L2.St} {i : Nat} {x : Option V} {vs : List Nat} (h : i ∈ vs) : wipe (σ.set i x) vs = wipe σ vs := by
  refine List.ext_getElem? fun j => ?_
  rw [wipe_get, wipe_get]
  by_cases e : i = j
  · subst e
    rw [if_pos h, if_pos h]
    by_cases hi : i < σ.length
    · rw [List.getElem?_set_self hi, List.getElem?_eq_getElem hi]; rfl
    · rw [List.getElem?_eq_none (by rw [List.length_set]; omega), List.getElem?_eq_none (by omega)]
  · rw [List.getElem?_set_ne e]
theorem wipe_setS : ∀ {tg : List Nat} {xs : List V} {σ : L2.St} {vs : List Nat}, (∀ i ∈ tg, i ∈ vs) → wipe (setS σ tg xs) vs = wipe σ vs
  | [], xs, σ, vs, h => by unfold setS; rfl
  | i :: is, [], σ, vs, h => by unfold setS; rfl
  | i :: is, x :: xs, σ, vs, h => by
    have q : wipe (setS (σ.set i (some x)) is xs) vs = wipe σ vs := by
      rw [wipe_setS fun j hj => h j (List.mem_cons_of_mem _ hj), wipe_set (h i List.mem_cons_self)]
    exact q
theorem FR.setS {K : PySem.W.Frag} {mg : Str → Option Value} {H : Hp} : ∀ {tg : List Nat} {xs : List V} {ds : List D} {σ : L2.St} {φ : Fr}, FR K mg H σ φ → Rps K mg H xs ds → FR K mg H (setS σ tg xs) (setF φ tg ds)
  | [], xs, ds, σ, φ, f, r => by simpa [Pi.setS, setF] using f
  | i :: is, [], ds, σ, φ, f, r => by cases r; simpa [Pi.setS, setF] using f
  | i :: is, x :: xs, [], σ, φ, f, r => by cases r
  | i :: is, x :: xs, d :: ds, σ, φ, f, r => by
    cases r with
    | cons r rs =>
      have q := FR.setS (tg := is) (f.set (i := i) r) rs
      exact q
def tGs (tg : List Nat) : TGs := fun vs σ H Q => vs.length = tg.length ∧ Q (setS σ tg vs) H
/-- what a target asks -/
def tG (K : PySem.W.Frag) (mg : Str → Option Value) (tg : List Nat) (tup : Bool) : TG := fun v σ H Q => ∃ d φ S q, FR K mg H σ φ ∧ SR K mg S H ∧ Rp K mg H v d ∧ tgW tg tup d S φ q ∧
  ∀ φ' σ', q φ' → FR K mg H σ' φ' → (∀ vs, (∀ i ∈ tg, i ∈ vs) → wipe σ' vs = wipe σ vs) → Q σ' H
section
variable {s : SC} {C : CallT} {k : Nat} {X : Cx} {W : WX}
theorem pgs_imp {e : List Expr} {t t' : TGs} (h : PGs X e t) (i : ∀ v σ H Q, t' v σ H Q → t v σ H Q) : PGs X e t' := ⟨fun pins s σ H v u Q I r q => h.run pins s σ H v u Q I r (i v σ H Q q)⟩
theorem pg_imp {e : Expr} {t t' : TG} (h : PG X e t) (i : ∀ v σ H Q, t' v σ H Q → t v σ H Q) : PG X e t' := ⟨fun pins s σ H v u Q I r q => h.run pins s σ H v u Q I r (i v σ H Q q)⟩
theorem nameAt_ok (A : Amb s C k X) {i : Nat} {e : Expr} (h : nameAt s i e = true) : ∃ x p, e = .Name x p ∧ X.N[i]? = some x ∧ Loc X.env.scope x ∧ (X.fn x = true ∨ X.env.scope.names.lookup x = some .local) := by
  unfold nameAt at h
  split at h
  · rename_i x p
    simp only [Bool.and_eq_true] at h
    obtain ⟨a, b⟩ := A.st h.1.2
    exact ⟨x, p, rfl, A.ix h.1.1, a, b⟩
  · cases h
theorem namesAt_ok (A : Amb s C k X) : ∀ {tg : List Nat} {es : List Expr}, namesAt s tg es = true → PGs X es (tGs tg) ∧ (assignEach es X.env).length = tg.length ∧ (assignEach es X.env).findIdx? (·.1) = none
  | [], [], _ => ⟨pgs_imp pgs_nil fun vs σ H Q h => by
      obtain ⟨a, b⟩ := h
      exact ⟨List.eq_nil_of_length_eq_zero a, by unfold setS at b; exact b⟩, rfl, rfl⟩
  | [], _ :: _, h => by cases h
  | _ :: _, [], h => by cases h
  | i :: is, e :: es, h => by
    have h' : (nameAt s i e && namesAt s is es) = true := h
    rw [Bool.and_eq_true] at h'
    obtain ⟨x, p, rfl, h1, h2, h3⟩ := nameAt_ok A h'.1
    obtain ⟨a, b, c⟩ := namesAt_ok A h'.2
    refine ⟨pgs_imp (pgs_cons (pg_name (by rw [A.N]; exact A.nd) h1 h2 h3) a) fun vs σ H Q h => ?_, ?_, ?_⟩
    · obtain ⟨l, q⟩ := h
      cases vs with
      | nil => cases l
      | cons v vs => exact ⟨v, vs, rfl, Nat.succ.inj l, q⟩
    · show (assignEach es X.env).length + 1 = is.length + 1
      rw [b]
    · show ((false, assign (.Name x p) X.env) :: assignEach es X.env).findIdx? (·.1) = none
      rw [List.findIdx?_cons, c]
      rfl
theorem pg_tg (A : Amb s C k X) {tg : List Nat} {tup : Bool} {e : Expr} (h : tgB s tg tup e = true) : PG X e (tG X.K X.mg tg tup) := by
  unfold tgB at h
  split at h
  · rename_i ht
    subst ht
    split at h
    · rename_i es n p
      obtain ⟨a, b, c⟩ := namesAt_ok A h
      have pt := pg_tup (pos := p) (k := n) A.calm a b c
      have pl := pg_lst (pos := p) (k := n) A.calm a b c
      refine ⟨fun pins s σ H v u Q I r q0 => ?_⟩
      obtain ⟨d, φ, S, q, fr, sr, rr, hw, l⟩ := q0
      obtain ⟨ds, e, hlen, hq⟩ := hw
      rcases e with e | ⟨a', e, hl⟩
      · subst e
        cases rr with
        | tup g rr => exact pt.run pins s σ H _ u Q I r ⟨_, _, rfl, g, by rw [rr.len, hlen], by rw [rr.len, hlen], l _ _ hq (fr.setS rr) fun vs hv => wipe_setS hv⟩
      · subst e
        cases rr
        obtain ⟨vs, hv, rs⟩ := sr _ _ hl
        exact pl.run pins s σ H _ u Q I r ⟨_, _, rfl, SqL.of hv, by rw [rs.len, hlen], by rw [rs.len, hlen], l _ _ hq (fr.setS rs) fun vs hv => wipe_setS hv⟩
    · cases h
  · rename_i ht
    split at h
    · rename_i i
      obtain ⟨x, p, rfl, h1, h2, h3⟩ := nameAt_ok A h
      refine pg_imp (pg_name (by rw [A.N]; exact A.nd) h1 h2 h3) fun v σ H Q ⟨d, φ, S, q, fr, sr, r, hw, l⟩ => ?_
      unfold tgW at hw
      rw [if_neg ht] at hw
      obtain ⟨j, e, hq⟩ := hw
      cases e
      exact l _ _ hq (fr.set r) fun vs hv => wipe_set (hv _ (by simp))
    · cases h
/-! ### blocks -/
theorem Amb.blk (A : Amb s C k X) {scope : Scope} (hk : scope.kind = .function) (s_ : Shared) (H : Hp) (Cc : Addr) (cl : List (Str × Addr)) (fp : List Addr) : Amb (s.blk scope) C k (X.blk s_ H scope (compEnvC scope cl Cc X.env) fp) :=
  { N := A.N, nd := A.nd, sc := by show relS scope X.env.scope = relS scope s.sc; rw [A.sc], kd := hk, calm := A.calm, gu := A.gu, rm := A.rm, fn := fun x h => h, free := A.free, con := A.con, cl := A.cl, cal := A.cal, exc := A.exc }
def W0 : WX := fun _ _ _ _ => False
theorem takes_0 : Takes X W0 := fun u s' ⟨_, _, _, _, _, _, _, _, _, _, _, _, _, _, _, _, w⟩ => w.elim
/-! ### the loop of a comprehension -/
/-- the new list stands at D, no part of the store -/
def LcI (K : PySem.W.Frag) (mg : Str → Option Value) (L : Addr) (S1 : Sto) (H1 Hj : Hp) (P : List D → Sto → Prop) (H : Hp) : Prop :=
  ∃ S acc avs, SR K mg S H ∧ S L = none ∧ H L = some (.lst avs) ∧ Rps K mg H avs acc ∧ Ev S1 H1 S H ∧ Tk K Hj H ∧ P acc S
theorem side_write {K : PySem.W.Frag} {mg : Str → Option Value} {S : Sto} {H : Hp} (sr : SR K mg S H) {p : Addr} {xs ys : List V} (h : S p = none) (hp : H p = some (.lst xs)) : SR K mg S (upd H p (.lst ys)) ∧ Tk K H (upd H p (.lst ys)) := by
  have t : Tk K H (upd H p (.lst ys)) := tk_upd (fun zs z => by rcases z with z | ⟨o, z⟩ <;> (rw [hp] at z; cases z)) fun ob zs z => by rw [hp] at z; cases z
  refine ⟨fun a w e => ?_, t⟩
  have ne : a ≠ p := fun z => by subst z; rw [h] at e; cases e
  exact (sr a w e).mono t (upd_ne ne)
theorem loop_lc {K : PySem.W.Frag} {mg : Str → Option Value} {L : Addr} {J : It} {src : Src} {S1 : Sto} {H1 Hj : Hp} {step : D → List D → Sto → (List D → Sto → Prop) → Prop} {fin : List D → Sto → Prop} {Dn : Hp → Prop} {B : V → Hp → (Hp → Prop) → Prop} {H0 : Hp}
    (jok : JOk K mg J Hj src) (hfin : ∀ H, LcI K mg L S1 H1 Hj fin H → Dn H)
    (hbody : ∀ x d H (N : List D → Sto → Prop), LcI K mg L S1 H1 Hj (fun acc S => step d acc S N) H → Rp K mg H x d → B x H (LcI K mg L S1 H1 Hj N))
    (h0 : LcI K mg L S1 H1 Hj (fun acc S => loopW src.ok step fin src.items acc S) H0) :
    ∃ Wt : Nat → Nat → Hp → Prop, (∃ m, Wt 0 m H0) ∧ ∀ i m H, Wt i m H →
      (J.stop i H ∧ Dn H) ∨ (J.go i H ∧ ∃ Nx : Hp → Prop, (∀ H', Nx H' → ∃ m', m' < m ∧ Wt (i + 1) m' H') ∧ ∀ x H', J.yld i H x H' → B x H' Nx) := by
  refine ⟨fun i m H => i + m = src.items.length ∧ LcI K mg L S1 H1 Hj (fun acc S => loopW src.ok step fin (src.items.drop i) acc S) H, ⟨src.items.length, Nat.zero_add _, by simpa using h0⟩, fun i m H ⟨him, S, acc, avs, sr, hL, hH, ra, ev, tk, hl⟩ => ?_⟩
  cases m with
  | zero =>
    rw [List.drop_eq_nil_of_le (by omega)] at hl
    unfold loopW at hl
    exact .inl ⟨jok.stop i S H (by omega) (by omega) tk sr hl.1, hfin H ⟨S, acc, avs, sr, hL, hH, ra, ev, tk, hl.2⟩⟩
  | succ m =>
    have hi : i < src.items.length := by omega
    rw [List.drop_eq_getElem_cons hi] at hl
    unfold loopW at hl
    refine .inr ⟨jok.go i S H hi tk sr hl.1, LcI K mg L S1 H1 Hj (fun acc S => loopW src.ok step fin (src.items.drop (i + 1)) acc S), fun H' q => ⟨m, Nat.lt_succ_self m, by omega, q⟩, fun x H' hy => ?_⟩
    obtain ⟨e2, s2, rx⟩ := jok.yld i S H x H' _ (List.getElem?_eq_getElem hi) tk sr hl.1 hy
    have t2 := e2.tk sr
    exact hbody x _ H' _ ⟨S, acc, avs, s2, hL, (e2 L _ hH hL).1, ra.mono t2, ev.trans e2, tk.trans t2, hl.2⟩ rx
/-- what the part behind a store asks -/
theorem lc_app {C : CallT} {K : PySem.W.Frag} {mg : Str → Option Value} {L : Addr} {S1 : Sto} {H1 Hj : Hp} {elt : IE} {S : Sto} {H : Hp} {σ : L2.St} {φ : Fr} {acc : List D} {avs : List V} {N : List D → Sto → Prop} (sr : SR K mg S H) (hL : S L = none) (hH : H L = some (.lst avs)) (ra : Rps K mg H avs acc) (ev : Ev S1 H1 S H) (tk : Tk K Hj H) (hn : H1 L = none)
    (fr : FR K mg H σ φ) (hw : wE C elt φ S (fun y S4 => acc.length < sizeLine ∧ N (acc ++ [y]) S4) XF) :
    tE K mg W0 C elt σ H fun y H4 => ∃ acc, H4 L = some (.lst acc) ∧ acc.length < sizeLine ∧ LcI K mg L S1 H1 Hj N (upd H4 L (.lst (acc ++ [y]))) := by
  refine ⟨φ, S, _, XF, fr, sr, hw, fun y S4 v H4 ⟨hz, hN⟩ e4 s4 ry => ?_, .none⟩
  obtain ⟨g1, g2⟩ := e4 L _ hH hL
  have t4 := e4.tk sr
  obtain ⟨s5, t5⟩ := side_write (ys := avs ++ [v]) s4 g2 g1
  refine ⟨avs, g1, by rw [ra.len]; exact hz, S4, acc ++ [y], avs ++ [v], s5, g2, upd_same, ((ra.mono t4).mono t5).app (.cons (ry.mono t5) .nil), ?_, (tk.trans t4).trans t5, hN⟩
  have e5 := ev.trans e4
  intro a o ha hs
  obtain ⟨q1, q2⟩ := e5 a o ha hs
  have ne : a ≠ L := fun e => by subst e; rw [hn] at ha; cases ha
  exact ⟨by rw [upd_ne ne]; exact q1, q2⟩
/-- the end of the loop: the list becomes the store's -/
theorem lc_fin {K : PySem.W.Frag} {mg : Str → Option Value} {L : Addr} {S S1 : Sto} {H H1 H5 : Hp} {q : KE} {Q : VK} (l : Lk K mg S H q Q) (e1 : Ev S H S1 H1) (hn : H1 L = none) (h : LcI K mg L S1 H1 H1 (fun acc S5 => ∀ p, S5 p = none → q (.ref p) (put S5 p (.lst acc))) H5) : Q (.ref L) H5 := by
  obtain ⟨S5, acc, avs, sr, hL, hH, ra, ev, tk, hq⟩ := h
  refine l _ _ _ _ (hq L hL) (e1.trans fun a o ha hs => ?_) (fun a o ho => ?_) (.ref L)
  · obtain ⟨q1, q2⟩ := ev a o ha hs
    have ne : a ≠ L := fun e => by subst e; rw [hn] at ha; cases ha
    exact ⟨q1, by rw [put_ne ne]; exact q2⟩
  · by_cases e : a = L
    · subst e
      rw [put_same] at ho
      injection ho with ho
      subst ho
      exact ⟨avs, hH, ra⟩
    · rw [put_ne e] at ho
      exact sr a o ho
theorem lc_start {K : PySem.W.Frag} {mg : Str → Option Value} {L : Addr} {S1 : Sto} {H1 : Hp} {P : List D → Sto → Prop} (s1 : SR K mg S1 H1) (hn : H1 L = none) (h : P [] S1) : LcI K mg L S1 H1 H1 P (upd H1 L (.lst [])) := by
  obtain ⟨s2, e2⟩ := s1.new (o := .lst []) hn
  exact ⟨S1, [], [], s2, s1.free hn, upd_same, .nil, e2, e2.tk s1, h⟩
theorem foldS_of {i : Expr} (h : notSet i = true) (env : Env) (x : Value) : foldedSetIterable i env x = pure x := by
  cases i <;> first | rfl | cases h
abbrev pI (X : Cx) (W : WX) (C : CallT) (tg : Expr) (e : II) (x : Expr) : Prop := PI X tg x (tI X.K X.mg W C e)
/-- a comprehension's tests -/
def pTs (X : Cx) (C : CallT) (ifs : IEs) (fs : List Expr) : Prop := PTs X fs (tBt X.K X.mg W0 C true ifs)
theorem pts_imp {e : List Expr} {t t' : TT} (h : PTs X e t) (i : ∀ σ H Q, t' σ H Q → t σ H Q) : PTs X e t' := ⟨fun pins s σ H Q I q => h.run pins s σ H Q I (i σ H Q q)⟩
theorem pTs_nil : pTs X C .nil [] := pts_imp pts_nil fun σ H Q ⟨φ, S, q, E, fr, sr, hw, l, lx⟩ => by
  obtain ⟨b, e, hb⟩ := l _ S H hw Ev.refl sr
  cases e
  exact hb
theorem pTs_one {a : IE} {f : Expr} (h : pT X W0 C a f) : pTs X C (.cons a .nil) [f] := pts_one h
theorem lc_goal {it : II} {elt : IE} {own tg : List Nat} {tup : Bool} {ifs : IEs} {K : PySem.W.Frag} {mg : Str → Option Value} (hin : ∀ i ∈ tg, i ∈ own) {σ : L2.St} {H : Hp} {Q : VK} (h : tE K mg W C (.lc elt own tg tup it ifs) σ H Q) :
    tLc (tI K mg W C it) (tG K mg tg tup) (tBt K mg W0 C true ifs) (tE K mg W0 C elt) own σ H Q := by
  obtain ⟨φ, S, q, E, fr, sr, hw, l, lx⟩ := h
  refine ⟨φ, S, _, E, fr, sr, hw, fun src S1 H1 J hq e1 s1 jok L hn => ?_, lx⟩
  have f1 := fr.mono (e1.tk sr)
  refine loop_lc (L := L) (S1 := S1) (H1 := H1) jok (fun H5 h5 => lc_fin l e1 hn h5) (fun x d H2 N h2 rx => ?_) (lc_start s1 hn hq)
  obtain ⟨S2, acc, avs, sr2, hL, hH, ra, ev, tk, hst⟩ := h2
  refine ⟨d, wipeF φ own, S2, _, (f1.mono tk).wipe own, sr2, rx, hst, fun φ' σ' hb f2 hwp => ⟨hwp own hin |>.trans ?_, ?_⟩⟩
  · refine List.ext_getElem? fun j => ?_
    rw [wipe_get, wipe_get]
    split
    · cases σ[j]? <;> rfl
    · rfl
  · refine ⟨φ', S2, _, XF, f2, sr2, hb, fun z S3 H3 ⟨kk, hz, hk⟩ e3 s3 => ⟨kk, hz, ?_⟩, .none⟩
    have t3 := e3.tk sr2
    obtain ⟨g1, g2⟩ := e3 L _ hH hL
    cases kk with
    | true => exact lc_app s3 g2 g1 (ra.mono t3) (ev.trans e3) (tk.trans t3) hn (f2.mono t3) hk
    | false => exact ⟨S3, acc, avs, s3, g2, g1, ra.mono t3, ev.trans e3, tk.trans t3, hk⟩
theorem lcc_goal {it it1 : II} {elt : IE} {own tg vs tg1 : List Nat} {tup tup1 : Bool} {K : PySem.W.Frag} {mg : Str → Option Value} (hin : ∀ i ∈ tg, i ∈ own) (hin1 : ∀ i ∈ tg1, i ∈ vs) {σ : L2.St} {H : Hp} {Q : VK} (h : tE K mg W C (.lcc elt own tg tup it vs tg1 tup1 it1) σ H Q) :
    tLc2 (tI K mg W C it) (tG K mg tg tup) tYes (tI K mg W0 C it1) (tG K mg tg1 tup1) tYes (tE K mg W0 C elt) own vs σ H Q := by
  obtain ⟨φ, S, q, E, fr, sr, hw, l, lx⟩ := h
  refine ⟨φ, S, _, E, fr, sr, hw, fun src S1 H1 J hq e1 s1 jok L hn => ?_, lx⟩
  have f1 := fr.mono (e1.tk sr)
  have ww : ∀ (τ : L2.St) (ws : List Nat), wipe (wipe τ ws) ws = wipe τ ws := fun τ ws => by
    refine List.ext_getElem? fun j => ?_
    rw [wipe_get, wipe_get]
    split
    · cases τ[j]? <;> rfl
    · rfl
  refine loop_lc (L := L) (S1 := S1) (H1 := H1) jok (fun H5 h5 => lc_fin l e1 hn h5) (fun x d H2 N h2 rx => ?_) (lc_start s1 hn hq)
  obtain ⟨S2, acc, avs, sr2, hL, hH, ra, ev, tk, hst⟩ := h2
  refine ⟨d, wipeF φ own, S2, _, (f1.mono tk).wipe own, sr2, rx, hst, fun φ' σ' hb f2 hwp => ⟨(hwp own hin).trans (ww _ _), ?_⟩⟩
  unfold tYes
  simp only [if_true]
  refine ⟨φ', S2, _, XF, f2, sr2, hb, fun src1 S4 H4 J1 hq1 e4 s4 jok1 => ?_, .none⟩
  have t4 := e4.tk sr2
  obtain ⟨g1, g2⟩ := e4 L _ hH hL
  have f4 := f2.mono t4
  refine loop_lc (L := L) (S1 := S1) (H1 := H1) jok1 (fun H5 ⟨S5, acc5, avs5, a1, a2, a3, a4, a5, a6, a7⟩ => ⟨S5, acc5, avs5, a1, a2, a3, a4, a5, a5.tk s1, a7⟩) (fun x1 d1 H6 N1 h6 rx1 => ?_) ⟨S4, acc, avs, s4, g2, g1, ra.mono t4, ev.trans e4, .refl, hq1⟩
  obtain ⟨S6, acc6, avs6, sr6, hL6, hH6, ra6, ev6, tk6, hst6⟩ := h6
  refine ⟨d1, wipeF φ' vs, S6, _, (f4.mono tk6).wipe vs, sr6, rx1, hst6, fun φ3 σ3 hb3 f3 hwp3 => ⟨(hwp3 vs hin1).trans (ww _ _), ?_⟩⟩
  exact lc_app sr6 hL6 hH6 ra6 ev6 tk6 hn f3 hb3
end
end Pi

/-! PiExp: a term that matches a piece of syntax says what the piece does. -/
namespace Pi
open PySem L2 PyProof.Rows
def EOk (C : CallT) (e : IE) : Prop := ∀ {s : SC} {k : Nat} {X : Cx} {W : WX} {x : Expr}, Amb s C k X → Takes X W → okE s e x = true → pE X W C e x ∧ (notIf x = true → pT X W C e x)
structure LOk (C : CallT) (es : IEs) : Prop where
  l : ∀ {s : SC} {k : Nat} {X : Cx} {W : WX} {xs : List Expr}, Amb s C k X → Takes X W → okL s es xs = true → AllS X W C es xs
  p : ∀ {s : SC} {k : Nat} {X : Cx} {W : WX} {xs : List Expr}, Amb s C k X → Takes X W → okP s es xs = true → All X W C es xs
  b : ∀ {s : SC} {k : Nat} {X : Cx} {W : WX} {xs : List Expr}, Amb s C k X → Takes X W → okB s es xs = true → ∀ kk pos, PE X (.BoolOp (bop kk) xs pos) (tBv X.K X.mg W C kk es) ∧ PW X (.BoolOp (bop kk) xs pos) (tBt X.K X.mg W C kk es)
  o : ∀ {s : SC} {k : Nat} {X : Cx} {W : WX} {x : Option Expr}, Amb s C k X → Takes X W → okO s es x = true → pO X W C es x
  k : ∀ {s : SC} {k : Nat} {X : Cx} {W : WX} {xs : List Keyword}, Amb s C k X → Takes X W → okK s es xs = true → AllK X W C es xs
  t : ∀ {s : SC} {k : Nat} {X : Cx} {W : WX} {f : Expr}, Amb s C k X → Takes X W → okB s es [f] = true → PT X f (tBt X.K X.mg W C true es)
def IOk (C : CallT) (it : II) : Prop := ∀ {s : SC} {k : Nat} {X : Cx} {W : WX} {x : Expr} {tup : Bool} {tg : Expr}, Amb s C k X → Takes X W → okI s it x tup = true → (tup = true → ∃ es n p, tg = .Tuple es n p) → pI X W C tg it x
section
variable {C : CallT}
theorem val_then {X : Cx} {W : WX} {e : IE} {x : Expr} (h : pE X W C e x) (he : notIf x = true → ∀ whole, isTrue x X.env whole = (do let v ← whole; standAt x.pos; holding [v] (truthy v))) : pE X W C e x ∧ (notIf x = true → pT X W C e x) := ⟨h, fun hn => ad_val h (he hn)⟩
theorem eok_var {i : Nat}  : EOk C (.var i) := by
  intro s k X W x A tk h
  unfold okE at h
  split at h <;> first | (cases ‹IE.var i = _›; done) | (cases h; done) | skip
  cases ‹IE.var i = _›
  try simp only [Bool.and_eq_true, decide_eq_true_eq] at h
  exact val_then (ad_var A h.1.1 h.1.2 h.2) fun hn w => rfl
theorem eok_lit {d : D}  : EOk C (.lit d) := by
  intro s k X W x A tk h
  unfold okE at h
  split at h <;> first | (cases ‹IE.lit d = _›; done) | (cases h; done) | skip
  cases ‹IE.lit d = _›
  try simp only [Bool.and_eq_true, decide_eq_true_eq] at h
  exact val_then (ad_lit h) fun hn w => rfl
theorem eok_glo {y : Str} {d : D}  : EOk C (.glo y d) := by
  intro s k X W x A tk h
  unfold okE at h
  split at h <;> first | (cases ‹IE.glo y d = _›; done) | (cases h; done) | skip
  cases ‹IE.glo y d = _›
  try simp only [Bool.and_eq_true, decide_eq_true_eq] at h
  obtain ⟨⟨⟨h1, h2⟩, h3⟩, h4⟩ := h
  subst h1
  exact val_then (ad_glo A h2 h3 h4) fun hn w => rfl
theorem eok_bin {op : BOp} {a b : IE} (ha : EOk C a) (hb : EOk C b) : EOk C (.bin op a b) := by
  intro s k X W x A tk h
  unfold okE at h
  split at h <;> first | (cases ‹IE.bin op a b = _›; done) | (cases h; done) | skip
  cases ‹IE.bin op a b = _›
  try simp only [Bool.and_eq_true, decide_eq_true_eq] at h
  obtain ⟨⟨h1, h2⟩, h3⟩ := h
  subst h1
  exact val_then (ad_bin (ha A tk h2).1 (hb A tk h3).1) fun hn w => rfl
theorem eok_neg {a : IE} (ha : EOk C a) : EOk C (.neg a) := by
  intro s k X W x A tk h
  unfold okE at h
  split at h <;> first | (cases ‹IE.neg a = _›; done) | (cases h; done) | skip
  cases ‹IE.neg a = _›
  try simp only [Bool.and_eq_true, decide_eq_true_eq] at h
  exact val_then (ad_neg (ha A tk h).1) fun hn w => rfl
theorem eok_cmp {op : COp} {a b : IE} (ha : EOk C a) (hb : EOk C b) : EOk C (.cmp op a b) := by
  intro s k X W x A tk h
  unfold okE at h
  split at h <;> first | (cases ‹IE.cmp op a b = _›; done) | (cases h; done) | skip
  cases ‹IE.cmp op a b = _›
  try simp only [Bool.and_eq_true, decide_eq_true_eq] at h
  obtain ⟨⟨⟨h1, h2⟩, h3⟩, h4⟩ := h
  subst h1
  exact ⟨ad_cmp A (ha A tk h2).1 (hb A tk h3).1 (behind_of h4), fun _ => ad_cmpT A (ha A tk h2).1 (hb A tk h3).1 (behind_of h4)⟩
theorem eok_chn {op op' : COp} {a b c : IE} (ha : EOk C a) (hb : EOk C b) (hc : EOk C c) : EOk C (.chn op op' a b c) := by
  intro s k X W x A tk h
  unfold okE at h
  split at h <;> first | (cases ‹IE.chn op op' a b c = _›; done) | (cases h; done) | skip
  cases ‹IE.chn op op' a b c = _›
  try simp only [Bool.and_eq_true, decide_eq_true_eq] at h
  obtain ⟨⟨⟨⟨⟨⟨h1, h2⟩, h3⟩, h4⟩, h5⟩, h6⟩, h7⟩ := h
  subst h1 h2
  exact ⟨ad_chn A (ha A tk h3).1 (hb A tk h4).1 (hc A tk h5).1 h6 h7, fun _ => ad_chnT A (ha A tk h3).1 (hb A tk h4).1 (hc A tk h5).1 h6 h7⟩
theorem eok_inv {a : IE} (ha : EOk C a) : EOk C (.inv a) := by
  intro s k X W x A tk h
  unfold okE at h
  split at h <;> first | (cases ‹IE.inv a = _›; done) | (cases h; done) | skip
  cases ‹IE.inv a = _›
  try simp only [Bool.and_eq_true, decide_eq_true_eq] at h
  obtain ⟨h1, h2⟩ := h
  exact ⟨ad_inv (ha A tk h1).1, fun _ => ad_invT ((ha A tk h1).2 h2)⟩
theorem eok_boo {kk : Bool} {es : IEs} (he : LOk C es) : EOk C (.boo kk es) := by
  intro s k X W x A tk h
  unfold okE at h
  split at h <;> first | (cases ‹IE.boo kk es = _›; done) | (cases h; done) | skip
  cases ‹IE.boo kk es = _›
  try simp only [Bool.and_eq_true, decide_eq_true_eq] at h
  obtain ⟨h1, h2⟩ := h
  subst h1
  obtain ⟨a, b⟩ := he.b A tk h2 kk ‹Pos›
  exact ⟨a, fun _ => b.pt⟩
theorem eok_ife {t a b : IE} (ht : EOk C t) (ha : EOk C a) (hb : EOk C b) : EOk C (.ife t a b) := by
  intro s k X W x A tk h
  unfold okE at h
  split at h <;> first | (cases ‹IE.ife t a b = _›; done) | (cases h; done) | skip
  cases ‹IE.ife t a b = _›
  try simp only [Bool.and_eq_true, decide_eq_true_eq] at h
  obtain ⟨⟨⟨h1, h2⟩, h3⟩, h4⟩ := h
  exact ⟨ad_ife ((ht A tk h1).2 h4) (ha A tk h2).1 (hb A tk h3).1, fun hn => by cases hn⟩
theorem eok_tup {es : IEs} (he : LOk C es) : EOk C (.tup es) := by
  intro s k X W x A tk h
  unfold okE at h
  split at h <;> first | (cases ‹IE.tup es = _›; done) | (cases h; done) | skip
  cases ‹IE.tup es = _›
  try simp only [Bool.and_eq_true, decide_eq_true_eq] at h
  exact val_then (ad_tup (he.l A tk h)) fun hn w => rfl
theorem eok_lst {es : IEs} (he : LOk C es) : EOk C (.lst es) := by
  intro s k X W x A tk h
  unfold okE at h
  split at h <;> first | (cases ‹IE.lst es = _›; done) | (cases h; done) | skip
  cases ‹IE.lst es = _›
  try simp only [Bool.and_eq_true, decide_eq_true_eq] at h
  exact val_then (ad_lst (he.l A tk h)) fun hn w => rfl
theorem eok_dis {ks : List Str} {es : IEs} (he : LOk C es) : EOk C (.dis ks es) := by
  intro s k X W x A tk h
  unfold okE at h
  split at h <;> first | (cases ‹IE.dis ks es = _›; done) | (cases h; done) | skip
  cases ‹IE.dis ks es = _›
  try simp only [Bool.and_eq_true, decide_eq_true_eq] at h
  obtain ⟨⟨⟨⟨h1, h2⟩, h3⟩, h4⟩, h5⟩ := h
  exact val_then (ad_dis (he.p A tk h2) h1 h3 h4 h5) fun hn w => rfl
theorem eok_cal {f : Str} {es : IEs} (he : LOk C es) : EOk C (.cal f es) := by
  intro s k X W x A tk h
  unfold okE at h
  split at h <;> first | (cases ‹IE.cal f es = _›; done) | (cases h; done) | skip
  cases ‹IE.cal f es = _›
  try simp only [Bool.and_eq_true, decide_eq_true_eq] at h
  obtain ⟨⟨⟨⟨h1, h2⟩, h3⟩, h4⟩, h5⟩ := h
  subst h1
  exact val_then (ad_cal A tk h2 h3 h4 (he.p A tk h5)) fun hn w => rfl
theorem eok_cak {f : Str} {es : IEs} {ks : List Str} {vs : IEs} {rs : List Str} (he : LOk C es) (hv : LOk C vs) : EOk C (.cak f es ks vs rs) := by
  intro s k X W x A tk h
  unfold okE at h
  split at h <;> first | (cases ‹IE.cak f es ks vs rs = _›; done) | (cases h; done) | skip
  cases ‹IE.cak f es ks vs rs = _›
  try simp only [Bool.and_eq_true, decide_eq_true_eq] at h
  obtain ⟨⟨⟨⟨⟨⟨⟨⟨h1, h2⟩, h3⟩, h0⟩, h4⟩, h5⟩, h6⟩, h7⟩, h8⟩ := h
  subst h1
  exact val_then (ad_cak A tk h2 h3 h0 h4 (he.p A tk h5) h6 (hv.k A tk h7)) fun hn w => rfl
theorem eok_bui {b : Bi} {es : IEs} (he : LOk C es) : EOk C (.bui b es) := by
  intro s k X W x A tk h
  unfold okE at h
  split at h <;> first | (cases ‹IE.bui b es = _›; done) | (cases h; done) | skip
  cases ‹IE.bui b es = _›
  try simp only [Bool.and_eq_true, decide_eq_true_eq] at h
  obtain ⟨⟨⟨⟨⟨h1, h2⟩, h3⟩, h4⟩, h5⟩, h6⟩ := h
  subst h1
  exact val_then (ad_bui A h2 h3 h4 (he.p A tk h5) h6) fun hn w => rfl
theorem eok_mxd {a d : IE} (ha : EOk C a) (hd : EOk C d) : EOk C (.mxd a d) := by
  intro s k X W x A tk h
  unfold okE at h
  split at h <;> first | (cases ‹IE.mxd a d = _›; done) | (cases h; done) | skip
  cases ‹IE.mxd a d = _›
  try simp only [Bool.and_eq_true, decide_eq_true_eq] at h
  obtain ⟨⟨⟨⟨⟨⟨⟨h1, h2⟩, h3⟩, h4⟩, h5⟩, h6⟩, h7⟩, h8⟩ := h
  subst h1 h2
  exact val_then (ad_mxd A h3 h5 (ha A tk h6).1 h7 (hd A tk h8).1) fun hn w => rfl
theorem eok_isi {a : IE} {ts : List Ty} (ha : EOk C a) : EOk C (.isi a ts) := by
  intro s k X W x A tk h
  unfold okE at h
  split at h <;> first | (cases ‹IE.isi a ts = _›; done) | (cases h; done) | skip
  cases ‹IE.isi a ts = _›
  try simp only [Bool.and_eq_true, decide_eq_true_eq] at h
  obtain ⟨⟨⟨⟨⟨⟨h1, h2⟩, h3⟩, h4⟩, h5⟩, h6⟩, h7⟩ := h
  subst h1
  exact val_then (ad_isi A h2 h4 h6 (ha A tk h5).1 h7) fun hn w => rfl
theorem eok_met {m : Mt} {a : IE} {es : IEs} (ha : EOk C a) (he : LOk C es) : EOk C (.met m a es) := by
  intro s k X W x A tk h
  unfold okE at h
  split at h <;> first | (cases ‹IE.met m a es = _›; done) | (cases h; done) | skip
  cases ‹IE.met m a es = _›
  try simp only [Bool.and_eq_true, decide_eq_true_eq] at h
  obtain ⟨⟨⟨⟨⟨h1, h2⟩, h3⟩, h4⟩, h5⟩, h6⟩ := h
  subst h1
  exact val_then (ad_met A (ha A tk h4).1 (he.p A tk h5) h3 h2 h6) fun hn w => rfl
theorem eok_idx {a i : IE} (ha : EOk C a) (hi : EOk C i) : EOk C (.idx a i) := by
  intro s k X W x A tk h
  unfold okE at h
  split at h <;> first | (cases ‹IE.idx a i = _›; done) | (cases h; done) | skip
  cases ‹IE.idx a i = _›
  try simp only [Bool.and_eq_true, decide_eq_true_eq] at h
  obtain ⟨⟨h1, h2⟩, h3⟩ := h
  exact val_then (ad_idx A (ha A tk h1).1 (hi A tk h2).1 h3) fun hn w => rfl
theorem eok_slc {a : IE} {lo hi : IEs} (ha : EOk C a) (hl : LOk C lo) (hh : LOk C hi) : EOk C (.slc a lo hi) := by
  intro s k X W x A tk h
  unfold okE at h
  split at h <;> first | (cases ‹IE.slc a lo hi = _›; done) | (cases h; done) | skip
  cases ‹IE.slc a lo hi = _›
  try simp only [Bool.and_eq_true, decide_eq_true_eq] at h
  obtain ⟨⟨h1, h2⟩, h3⟩ := h
  exact val_then (ad_slc (ha A tk h1).1 (hl.o A tk h2) (hh.o A tk h3)) fun hn w => rfl
/-- the parts of a comprehension, as the rules ask for them -/
structure LcP (X : Cx) (W : WX) (C : CallT) (elt : IE) (own tg : List Nat) (tup : Bool) (it : II) (ifs : IEs) (e t i : Expr) (fs : List Expr) (scope : Scope) (op : List (Str × Nat)) : Prop where
  hi : pI X W C t it i
  ok : BlkOk X.N X.env.scope scope op
  ho : op.map (·.2) = own
  hg : ∀ (s_ : Shared) (H : Hp) (Cc : Addr) (cl : List (Str × Addr)) (fp : List Addr), PG (X.blk s_ H scope (compEnvC scope cl Cc X.env) fp) t (tG X.K X.mg tg tup)
  tt : ∀ (s_ : Shared) (H : Hp) (Cc : Addr) (cl : List (Str × Addr)) (fp : List Addr), PTs (X.blk s_ H scope (compEnvC scope cl Cc X.env) fp) fs (tBt X.K X.mg W0 C true ifs)
  he : ∀ (s_ : Shared) (H : Hp) (Cc : Addr) (cl : List (Str × Addr)) (fp : List Addr), PE (X.blk s_ H scope (compEnvC scope cl Cc X.env) fp) e (tE X.K X.mg W0 C elt)
  hs : ∀ x, foldedSetIterable i X.env x = pure x
  hin : ∀ i ∈ tg, i ∈ own
structure LcP2 (X : Cx) (W : WX) (C : CallT) (elt : IE) (own tg : List Nat) (tup : Bool) (it : II) (vs tg1 : List Nat) (tup1 : Bool) (it1 : II) (e t i t1 i1 : Expr) (scope : Scope) (op : List (Str × Nat)) : Prop where
  hi : pI X W C t it i
  ok : BlkOk X.N X.env.scope scope op
  ho : op.map (·.2) = own
  hg : ∀ (s_ : Shared) (H : Hp) (Cc : Addr) (cl : List (Str × Addr)) (fp : List Addr), PG (X.blk s_ H scope (compEnvC scope cl Cc X.env) fp) t (tG X.K X.mg tg tup)
  hi1 : ∀ (s_ : Shared) (H : Hp) (Cc : Addr) (cl : List (Str × Addr)) (fp : List Addr), PI (X.blk s_ H scope (compEnvC scope cl Cc X.env) fp) t1 i1 (tI X.K X.mg W0 C it1)
  hg1 : ∀ (s_ : Shared) (H : Hp) (Cc : Addr) (cl : List (Str × Addr)) (fp : List Addr), PG (X.blk s_ H scope (compEnvC scope cl Cc X.env) fp) t1 (tG X.K X.mg tg1 tup1)
  he : ∀ (s_ : Shared) (H : Hp) (Cc : Addr) (cl : List (Str × Addr)) (fp : List Addr), PE (X.blk s_ H scope (compEnvC scope cl Cc X.env) fp) e (tE X.K X.mg W0 C elt)
  hs : ∀ x, foldedSetIterable i X.env x = pure x
  hs1 : ∀ env x, foldedSetIterable i1 env x = pure x
  hin : ∀ i ∈ tg, i ∈ own
  hin1 : ∀ i ∈ tg1, i ∈ vs
  hv : ∀ i ∈ vs, i ∈ own
theorem tup_of {s : SC} {tg : List Nat} {tup : Bool} {t : Expr} (h : tgB s tg tup t = true) (e : tup = true) : ∃ es n p, t = .Tuple es n p := by
  subst e
  unfold tgB at h
  rw [if_pos rfl] at h
  split at h
  · exact ⟨_, _, _, rfl⟩
  · cases h
theorem lc_parts {elt : IE} {own tg : List Nat} {tup : Bool} {it : II} {ifs : IEs} (he : EOk C elt) (hi : IOk C it) (hf : LOk C ifs) {s : SC} {k : Nat} {X : Cx} {W : WX} {x : Expr} (A : Amb s C k X) (tk : Takes X W) (h : okE s (.lc elt own tg tup it ifs) x = true) :
    ∃ e t i fs scope pos op, x = .ListComp e [⟨t, i, fs, 0⟩] scope pos ∧ LcP X W C elt own tg tup it ifs e t i fs scope op := by
  unfold okE at h
  split at h <;> first | (cases ‹IE.lc elt own tg tup it ifs = _›; done) | (cases h; done) | skip
  cases ‹IE.lc elt own tg tup it ifs = _›
  simp only [Bool.and_eq_true, decide_eq_true_eq] at h
  obtain ⟨⟨⟨⟨⟨⟨⟨⟨⟨h1, h2⟩, h3⟩, h4⟩, h5⟩, h6⟩, h7⟩, h8⟩, h9⟩, h10⟩ := h
  subst h1
  rename_i e t i fs scope pos
  have bk := fun s_ H Cc cl fp => A.blk h6 s_ H Cc cl fp
  have ok := blkOk_by h4
  rw [← A.N, ← A.sc] at ok
  refine ⟨e, t, i, fs, scope, pos, _, rfl, ⟨hi A tk h2 (tup_of h7), ok, h5, fun s_ H Cc cl fp => pg_tg (bk s_ H Cc cl fp) h7, fun s_ H Cc cl fp => ?_, fun s_ H Cc cl fp => (he (bk s_ H Cc cl fp) takes_0 h9).1, foldS_of h3 _, fun i hm => ?_⟩⟩
  · split at h10
    · split at h10
      · exact pTs_nil
      · cases h10
    · exact pts_one (hf.t (bk s_ H Cc cl fp) takes_0 h10)
    · cases h10
  · have q := List.all_eq_true.mp h8 i hm
    simpa using q
theorem lcc_parts {elt : IE} {own tg vs tg1 : List Nat} {tup tup1 : Bool} {it it1 : II} (he : EOk C elt) (hi : IOk C it) (hi1 : IOk C it1) {s : SC} {k : Nat} {X : Cx} {W : WX} {x : Expr} (A : Amb s C k X) (tk : Takes X W) (h : okE s (.lcc elt own tg tup it vs tg1 tup1 it1) x = true) :
    ∃ e t i t1 i1 scope pos op, x = .ListComp e [⟨t, i, [], 0⟩, ⟨t1, i1, [], 0⟩] scope pos ∧ LcP2 X W C elt own tg tup it vs tg1 tup1 it1 e t i t1 i1 scope op := by
  unfold okE at h
  split at h <;> first | (cases ‹IE.lcc elt own tg tup it vs tg1 tup1 it1 = _›; done) | (cases h; done) | skip
  cases ‹IE.lcc elt own tg tup it vs tg1 tup1 it1 = _›
  simp only [Bool.and_eq_true, decide_eq_true_eq, List.isEmpty_iff] at h
  obtain ⟨⟨⟨⟨⟨⟨⟨⟨⟨⟨⟨⟨⟨⟨⟨⟨h1, h2⟩, h3⟩, h4⟩, h5⟩, h6⟩, h7⟩, h8⟩, h9⟩, h10⟩, h11⟩, h12⟩, h13⟩, h14⟩, h15⟩, h16⟩, h17⟩ := h
  subst h1 h2 h3 h4
  rename_i e t i t1 i1 scope pos
  have bk := fun s_ H Cc cl fp => A.blk h9 s_ H Cc cl fp
  have ok := blkOk_by h7
  rw [← A.N, ← A.sc] at ok
  refine ⟨e, t, i, t1, i1, scope, pos, _, rfl, ⟨hi A tk h5 (tup_of h10), ok, h8, fun s_ H Cc cl fp => pg_tg (bk s_ H Cc cl fp) h10, fun s_ H Cc cl fp => hi1 (bk s_ H Cc cl fp) takes_0 h12 (tup_of h14), fun s_ H Cc cl fp => pg_tg (bk s_ H Cc cl fp) h14,
    fun s_ H Cc cl fp => (he (bk s_ H Cc cl fp) takes_0 h17).1, foldS_of h6 _, fun env x => foldS_of h13 env x, fun i hm => ?_, fun i hm => ?_, fun i hm => ?_⟩⟩
  · have q := List.all_eq_true.mp h11 i hm
    simpa using q
  · have q := List.all_eq_true.mp h15 i hm
    simpa using q
  · have q := List.all_eq_true.mp h16 i hm
    simpa using q
theorem eok_lc {elt : IE} {own tg : List Nat} {tup : Bool} {it : II} {ifs : IEs} (he : EOk C elt) (hi : IOk C it) (hf : LOk C ifs) : EOk C (.lc elt own tg tup it ifs) := by
  intro s k X W x A tk h
  obtain ⟨e, t, i, fs, scope, pos, op, rfl, P⟩ := lc_parts he hi hf A tk h
  refine val_then ?_ fun hn w => rfl
  have key := pe_lc (X := X) (pos := pos) A.calm (by rw [A.N]; exact A.nd) P.hi P.ok P.hg P.tt P.he P.hs
  rw [P.ho] at key
  exact pe_imp key fun σ H Q hw => lc_goal P.hin hw
theorem eok_lcc {elt : IE} {own tg vs tg1 : List Nat} {tup tup1 : Bool} {it it1 : II} (he : EOk C elt) (hi : IOk C it) (hi1 : IOk C it1) : EOk C (.lcc elt own tg tup it vs tg1 tup1 it1) := by
  intro s k X W x A tk h
  obtain ⟨e, t, i, t1, i1, scope, pos, op, rfl, P⟩ := lcc_parts he hi hi1 A tk h
  refine val_then ?_ fun hn w => rfl
  have key := pe_lc2 (X := X) (pos := pos) (vs1 := vs) A.calm (by rw [A.N]; exact A.nd) P.hi P.ok (fun i hm => by rw [P.ho]; exact P.hv i hm) P.hg (fun _ _ _ _ _ => pts_nil) P.hi1 P.hg1 (fun _ _ _ _ _ => pts_nil) P.he P.hs P.hs1
  rw [P.ho] at key
  exact pe_imp key fun σ H Q hw => lcc_goal P.hin P.hin1 hw
theorem lok_nil : LOk C .nil where
  l := by
    intro s k X W xs A tk h
    cases xs with
    | nil => exact .nil
    | cons x xs => cases x <;> cases h
  p := by
    intro s k X W xs A tk h
    cases xs with
    | nil => exact .nil
    | cons x xs => cases h
  b := by
    intro s k X W xs A tk h
    cases xs <;> cases h
  o := by
    intro s k X W x A tk h
    cases x with
    | none => exact ad_o0
    | some x => cases h
  k := by
    intro s k X W xs A tk h
    cases xs with
    | nil => exact .nil
    | cons x xs => cases h
  t := by
    intro s k X W f A tk h
    cases h
theorem lok_cons {e : IE} {r : IEs} (he : EOk C e) (hr : LOk C r) : LOk C (.cons e r) where
  l := by
    intro s k X W xs A tk h
    unfold okL at h
    split at h <;> first | (cases ‹IEs.cons e r = _›; done) | (cases h; done) | skip
    cases ‹IEs.cons e r = _›
    simp only [Bool.and_eq_true] at h
    exact .cons (he A tk h.1.1).1 h.1.2 (hr.l A tk h.2)
  p := by
    intro s k X W xs A tk h
    unfold okP at h
    split at h <;> first | (cases ‹IEs.cons e r = _›; done) | (cases h; done) | skip
    cases ‹IEs.cons e r = _›
    simp only [Bool.and_eq_true] at h
    exact .cons (he A tk h.1.1).1 h.1.2 (hr.p A tk h.2)
  b := by
    intro s k X W xs A tk h kk pos
    unfold okB at h
    split at h <;> first | (cases ‹IEs.cons e r = _›; done) | (cases h; done) | skip
    · cases ‹IEs.cons e r = _›
      rw [Bool.and_eq_true] at h
      have q := he A tk h.1
      exact ⟨ad_b1 q.1, ad_b1T (q.2 h.2)⟩
    · cases ‹IEs.cons e r = _›
      simp only [Bool.and_eq_true] at h
      have q := he A tk h.1.1
      obtain ⟨a, b⟩ := hr.b A tk h.2 kk pos
      cases r with
      | nil =>
        have h2 := h.2
        unfold okB at h2
        cases h2
      | cons e' r' => exact ⟨ad_b2 q.1 a, ad_b2T (q.2 h.1.2) b⟩
      | star e' r' =>
        have h2 := h.2
        unfold okB at h2
        cases h2
  o := by
    intro s k X W x A tk h
    unfold okO at h
    split at h <;> first | (cases ‹IEs.cons e r = _›; done) | (cases h; done) | skip
    cases ‹IEs.cons e r = _›
    exact ad_o1 (he A tk h).1
  k := by
    intro s k X W xs A tk h
    unfold okK at h
    split at h <;> first | (cases ‹IEs.cons e r = _›; done) | (cases h; done) | skip
    cases ‹IEs.cons e r = _›
    rw [Bool.and_eq_true] at h
    exact .cons (he A tk h.1).1 (hr.k A tk h.2)
  t := by
    intro s k X W f A tk h
    unfold okB at h
    split at h <;> first | (cases ‹IEs.cons e r = _›; done) | (cases h; done) | skip
    · cases ‹IEs.cons e r = _›
      cases ‹[f] = _›
      rw [Bool.and_eq_true] at h
      exact (he A tk h.1).2 h.2
    · cases ‹[f] = _›
theorem lok_star {e : IE} {r : IEs} (he : EOk C e) (hr : LOk C r) : LOk C (.star e r) where
  l := by
    intro s k X W xs A tk h
    unfold okL at h
    split at h <;> first | (cases ‹IEs.star e r = _›; done) | (cases h; done) | skip
    cases ‹IEs.star e r = _›
    rw [Bool.and_eq_true] at h
    exact .star (he A tk h.1).1 (hr.l A tk h.2)
  p := by
    intro s k X W xs A tk h
    cases xs <;> cases h
  b := by
    intro s k X W xs A tk h
    unfold okB at h
    cases h
  o := by
    intro s k X W xs A tk h
    cases xs <;> cases h
  k := by
    intro s k X W xs A tk h
    cases xs <;> cases h
  t := by
    intro s k X W f A tk h
    unfold okB at h
    cases h
theorem iok_of {a : IE} (ha : EOk C a) : IOk C (.of a) := by
  intro s k X W x tup tg A tk h ht
  unfold okI at h
  exact ad_of (ha A tk (Bool.and_eq_true_iff.mp h).1).1
theorem iok_rng {es : IEs} (he : LOk C es) : IOk C (.rng es) := by
  intro s k X W x tup tg A tk h ht
  unfold okI at h
  split at h <;> first | (cases ‹II.rng es = _›; done) | (cases h; done) | skip
  cases ‹II.rng es = _›
  simp only [Bool.and_eq_true, decide_eq_true_eq] at h
  obtain ⟨⟨⟨⟨h1, h2⟩, h3⟩, h4⟩, h5⟩ := h
  subst h1
  have q := he.p A tk h4
  split at h5
  · cases q with
    | cons a b c =>
      cases c
      exact ad_rng1 A h2 h3 a b
  · cases q with
    | cons a b c =>
      cases c with
      | cons a' b' c' =>
        cases c'
        exact ad_rng2 A h2 h3 a b a' b'
  · cases h5
theorem iok_enu {a : IE} (ha : EOk C a) : IOk C (.enu a) := by
  intro s k X W x tup tg A tk h ht
  unfold okI at h
  split at h <;> first | (cases ‹II.enu a = _›; done) | (cases h; done) | skip
  cases ‹II.enu a = _›
  simp only [Bool.and_eq_true, decide_eq_true_eq] at h
  obtain ⟨⟨⟨⟨⟨h1, h2⟩, h3⟩, h4⟩, h5⟩, h6⟩ := h
  subst h2
  obtain ⟨es, n, p, e⟩ := ht h1
  subst e
  exact ad_enu A h3 h4 (ha A tk h5).1 h6
theorem iok_zip {a b : IE} (ha : EOk C a) (hb : EOk C b) : IOk C (.zip a b) := by
  intro s k X W x tup tg A tk h ht
  unfold okI at h
  split at h <;> first | (cases ‹II.zip a b = _›; done) | (cases h; done) | skip
  cases ‹II.zip a b = _›
  simp only [Bool.and_eq_true, decide_eq_true_eq] at h
  obtain ⟨⟨⟨⟨⟨⟨⟨h1, h2⟩, h3⟩, h4⟩, h5⟩, h6⟩, h7⟩, h8⟩ := h
  subst h2
  obtain ⟨es, n, p, e⟩ := ht h1
  subst e
  exact ad_zip A h3 h4 (ha A tk h5).1 h7 (hb A tk h6).1 h8
mutual
theorem exp_ok : ∀ e : IE, EOk C e
  | .var _ => eok_var
  | .lit _ => eok_lit
  | .glo _ _ => eok_glo
  | .bin _ a b => eok_bin (exp_ok a) (exp_ok b)
  | .neg a => eok_neg (exp_ok a)
  | .cmp _ a b => eok_cmp (exp_ok a) (exp_ok b)
  | .chn _ _ a b c => eok_chn (exp_ok a) (exp_ok b) (exp_ok c)
  | .inv a => eok_inv (exp_ok a)
  | .boo _ es => eok_boo (par_ok es)
  | .ife t a b => eok_ife (exp_ok t) (exp_ok a) (exp_ok b)
  | .tup es => eok_tup (par_ok es)
  | .lst es => eok_lst (par_ok es)
  | .dis _ es => eok_dis (par_ok es)
  | .cal _ es => eok_cal (par_ok es)
  | .cak _ es _ vs _ => eok_cak (par_ok es) (par_ok vs)
  | .bui _ es => eok_bui (par_ok es)
  | .mxd a d => eok_mxd (exp_ok a) (exp_ok d)
  | .isi a _ => eok_isi (exp_ok a)
  | .met _ a es => eok_met (exp_ok a) (par_ok es)
  | .idx a i => eok_idx (exp_ok a) (exp_ok i)
  | .slc a lo hi => eok_slc (exp_ok a) (par_ok lo) (par_ok hi)
  | .lc elt _ _ _ it ifs => eok_lc (exp_ok elt) (ite_ok it) (par_ok ifs)
  | .lcc elt _ _ _ it _ _ _ it1 => eok_lcc (exp_ok elt) (ite_ok it) (ite_ok it1)
theorem par_ok : ∀ es : IEs, LOk C es
  | .nil => lok_nil
  | .cons e r => lok_cons (exp_ok e) (par_ok r)
  | .star e r => lok_star (exp_ok e) (par_ok r)
theorem ite_ok : ∀ it : II, IOk C it
  | .of e => iok_of (exp_ok e)
  | .rng es => iok_rng (par_ok es)
  | .enu e => iok_enu (exp_ok e)
  | .zip a b => iok_zip (exp_ok a) (exp_ok b)
end
end
end Pi

/-! PiStm: statements. -/
namespace Pi
open PySem L2 PyProof.Rows
section
variable (K : PySem.W.Frag) (mg : Str → Option Value)
structure LkD (S : Sto) (H : Hp) (D : End) (D' : Ends) : Prop where
  nx : ∀ φ' S' H' σ', D.nx φ' S' → Ev S H S' H' → SR K mg S' H' → FR K mg H' σ' φ' → D'.nx σ' H'
  rt : ∀ z S' H' v, D.rt z S' → Ev S H S' H' → SR K mg S' H' → Rp K mg H' v z → D'.rt v H'
  bk : ∀ φ' S' H' σ', D.bk φ' S' → Ev S H S' H' → SR K mg S' H' → FR K mg H' σ' φ' → D'.bk σ' H'
  ct : ∀ φ' S' H' σ', D.ct φ' S' → Ev S H S' H' → SR K mg S' H' → FR K mg H' σ' φ' → D'.ct σ' H'
def LXS (W : WX) (S : Sto) (H : Hp) (E : XS) : Prop := ∀ c a φ' S' cls dx σ' H', E c a φ' S' → Ev S H S' H' → SR K mg S' H' → FR K mg H' σ' φ' → RX mg c cls dx → W cls dx σ' H'
def tS (W : WX) (C : CallT) (st : IS) : TS := fun D' σ H => ∃ φ S D E, FR K mg H σ φ ∧ SR K mg S H ∧ wS C st D E φ S ∧ LkD K mg S H D D' ∧ LXS K mg W S H E
def tSs (W : WX) (C : CallT) (st : ISs) : TS := fun D' σ H => ∃ φ S D E, FR K mg H σ φ ∧ SR K mg S H ∧ wSs C st D E φ S ∧ LkD K mg S H D D' ∧ LXS K mg W S H E
variable {K mg}
theorem LkD.after {S S1 : Sto} {H H1 : Hp} {D : End} {D' : Ends} (l : LkD K mg S H D D') (e : Ev S H S1 H1) : LkD K mg S1 H1 D D' :=
  ⟨fun φ' S' H' σ' h e' => l.nx φ' S' H' σ' h (e.trans e'), fun z S' H' v h e' => l.rt z S' H' v h (e.trans e'), fun φ' S' H' σ' h e' => l.bk φ' S' H' σ' h (e.trans e'), fun φ' S' H' σ' h e' => l.ct φ' S' H' σ' h (e.trans e')⟩
theorem LXS.after {W : WX} {S S1 : Sto} {H H1 : Hp} {E : XS} (l : LXS K mg W S H E) (e : Ev S H S1 H1) : LXS K mg W S1 H1 E := fun c a φ' S' cls dx σ' H' h e' => l c a φ' S' cls dx σ' H' h (e.trans e')
theorem LXS.toE {W : WX} {S : Sto} {H : Hp} {E : XS} {φ : Fr} (l : LXS K mg W S H E) : LX K mg W S H φ (fun c a S1 => E c a φ S1) := fun c a S' cls dx σ' H' h e s f r => l c a φ S' cls dx σ' H' h e s f r
end
section
variable {s : SC} {C : CallT} {k : Nat} {X : Cx} {W : WX}
abbrev pS (X : Cx) (W : WX) (C : CallT) (st : IS) (x : Stmt) : Prop := PS X x (tS X.K X.mg W C st)
abbrev pSs (X : Cx) (W : WX) (C : CallT) (st : ISs) (x : List Stmt) : Prop := PSs X x (tSs X.K X.mg W C st)
theorem ps_imp {e : Stmt} {t t' : TS} (h : PS X e t) (i : ∀ D σ H, t' D σ H → t D σ H) : PS X e t' := ⟨fun pins s σ H D I q => h.run pins s σ H D I (i D σ H q)⟩
theorem pss_imp {e : List Stmt} {t t' : TS} (h : PSs X e t) (i : ∀ D σ H, t' D σ H → t D σ H) : PSs X e t' := ⟨fun pins s σ H D I q => h.run pins s σ H D I (i D σ H q)⟩
/-! ### assignments -/
/-- from a value to a target -/
theorem asg_goal {tg : List Nat} {tup : Bool} {e : IE} {D' : Ends} {σ : L2.St} {H : Hp} (h : tS X.K X.mg W C (.asg tg tup e) D' σ H) : tAsg (tE X.K X.mg W C e) (tG X.K X.mg tg tup) D' σ H := by
  obtain ⟨φ, S, D, E, fr, sr, hw, l, lx⟩ := h
  exact ⟨φ, S, _, _, fr, sr, hw, fun d S1 v H1 hz e1 s1 r => ⟨d, φ, S1, _, fr.mono (e1.tk sr), s1, r, hz, fun φ' σ' hq f _ => l.nx φ' S1 H1 σ' hq e1 s1 f⟩, lx.toE⟩
theorem kind_fn (A : Amb s C k X) : X.env.blockKind = .function := by
  unfold Env.blockKind
  rw [A.sc, A.kd]
  rfl
def isName : Expr → Bool
  | .Name .. => true | _ => false
theorem tg_shape {tg : List Nat} {tup : Bool} {t : Expr} (h : tgB s tg tup t = true) : (∃ i x p, t = .Name x p ∧ tg = [i] ∧ tup = false ∧ nameAt s i (.Name x p) = true) ∨ ∃ es n p, t = .Tuple es n p ∧ tup = true := by
  unfold tgB at h
  split at h
  · split at h
    · exact .inr ⟨_, _, _, rfl, by assumption⟩
    · cases h
  · rename_i ht
    split at h
    · rename_i i
      have h' := h
      unfold nameAt at h
      split at h
      · exact .inl ⟨i, _, _, rfl, rfl, by simpa using ht, h'⟩
      · cases h
    · cases h
theorem swaps_no {v : Expr} {t : Option Expr} {l : Nat} {env : Env} (h : notComp v = true) : swapsWith v t l env = pure false := by
  cases v <;> first | rfl | cases h
theorem swaps_tup {v : Expr} {es : List Expr} {n : Nat} {p : Pos} {l : Nat} {env : Env} : swapsWith v (some (.Tuple es n p)) l env = pure false := by
  cases v <;> rfl
theorem stores_no {t v : Expr} {env : Env} (h : ∀ vs n p, v ≠ .Tuple vs n p) : swappedStores [t] v env = pure none := by
  cases v <;> first | (exact absurd rfl (h _ _ _)) | (cases t <;> rfl)
theorem stores_name {x : Str} {p : Pos} {v : Expr} {env : Env} : swappedStores [.Name x p] v env = pure none := rfl
theorem lcl_of (A : Amb s C k X) {x : Str} (h : lclB s.sc x = false) : (X.env.kindOf x == some .local) = false := by
  cases e : (X.env.kindOf x == some .local) with
  | false => rfl
  | true =>
    have q : X.env.scope.names.lookup x = some .local := eq_of_beq e
    rw [A.sc] at q
    unfold lclB at h
    rw [q] at h
    cases h
theorem noSwap_ok (A : Amb s C k X) {ts vs : List Expr} {n m : Nat} {p q : Pos} (h : noSwap s ts vs = true) : swappedStores [.Tuple ts n p] (.Tuple vs m q) X.env = pure none := by
  unfold noSwap at h
  unfold swappedStores
  simp only [Bool.or_eq_true, Bool.and_eq_true] at h
  rcases h with (h | ⟨h1, h2⟩) | ⟨h1, h2⟩
  · have z : (!(ts.length == 2 || ts.length == 3) || vs.length != ts.length || X.env.blockKind != .function) = true := by
      rw [Bool.or_eq_true, Bool.or_eq_true]
      rcases h with h | h
      · refine .inl (.inl ?_)
        simpa using h
      · refine .inl (.inr ?_)
        simpa using h
    simp only [z, if_true]
  · cases z : (!(ts.length == 2 || ts.length == 3) || vs.length != ts.length || X.env.blockKind != .function) with
    | true => simp only [z, if_true]
    | false =>
      simp only [z, h1, if_true, Bool.false_eq_true, if_false]
      split
      · rfl
      · split <;> rfl
  · cases z : (!(ts.length == 2 || ts.length == 3) || vs.length != ts.length || X.env.blockKind != .function) with
    | true => simp only [z, if_true]
    | false =>
      simp only [z, Bool.false_eq_true, if_false]
      split
      · rfl
      · rw [if_pos ?_]
        rw [Bool.or_eq_true]
        left
        rw [bne_iff_ne]
        intro e
        rw [List.filterMap_length_eq_length] at e
        obtain ⟨t, ht, hq⟩ := List.any_eq_true.mp h2
        have z := e t ht
        cases t <;> first
          | cases z
          | (have hq : (!lclB s.sc _) = true := hq
             rw [Bool.not_eq_true'] at hq
             simp only [lcl_of A hq, Bool.false_and, Bool.false_eq_true, if_false] at z
             cases z)
end
end Pi

/-! PiStm2: assignments. -/
namespace Pi
open PySem L2 PyProof.Rows
section
variable {s : SC} {C : CallT} {k : Nat} {X : Cx} {W : WX}
/-- is the value such that its stores may swap (a comprehension to a plain name) -/
theorem sw_cases (A : Amb s C k X) {elt : Expr} {gs : List Comprehension} {scope : Scope} {pos py : Pos} {y : Str} {l : Nat} :
    (swapsWith (.ListComp elt gs scope pos) (some (.Name y py)) l X.env = pure true ∧ X.env.scope.names.lookup y = some .local) ∨ swapsWith (.ListComp elt gs scope pos) (some (.Name y py)) l X.env = pure false := by
  cases h : (X.env.kindOf y == some .local) with
  | false =>
    right
    unfold swapsWith
    simp only [h, Bool.and_false, Bool.false_and]
  | true =>
    have hy : X.env.scope.names.lookup y = some .local := eq_of_beq h
    unfold swapsWith
    simp only [h, kind_fn A, Bool.and_true]
    cases (ScopeKind.function == ScopeKind.function && py.line == (Expr.ListComp elt gs scope pos).pos.line && !(scope.names.any fun (n, k) => n == y && (k == .local || k == .cell))) with
    | true => exact .inl ⟨rfl, hy⟩
    | false => exact .inr rfl
theorem wipe_gname {i : Nat} {φ : Fr} : True := trivial
theorem lc_asg (A : Amb s C k X) (tk : Takes X W) {i : Nat} {y : Str} {py sp : Pos} {elt : IE} {own tg : List Nat} {tup : Bool} {it : II} {ifs : IEs} {x : Expr} (hn : nameAt s i (.Name y py) = true)
    (h : okE s (.lc elt own tg tup it ifs) x = true) : pS X W C (.asg [i] false (.lc elt own tg tup it ifs)) (.Assign [.Name y py] x sp) := by
  obtain ⟨y', py', e, h1, h2, h3⟩ := nameAt_ok A hn
  cases e
  have hx := h
  obtain ⟨e, t, it', fs, scope, pos, op, rfl, P⟩ := lc_parts (exp_ok elt) (ite_ok it) (par_ok ifs) A tk h
  have nd : X.N.Nodup := by rw [A.N]; exact A.nd
  have fin : ∀ {D' : Ends} {σ : L2.St} {H : Hp}, tS X.K X.mg W C (.asg [i] false (.lc elt own tg tup it ifs)) D' σ H → tE X.K X.mg W C (.lc elt own tg tup it ifs) σ H (fun x H1 => gName i x σ H1 D'.nx) := by
    rintro D' σ H ⟨φ, S, D, E, fr, sr, hw, l, lx⟩
    have hw : wE C (.lc elt own tg tup it ifs) φ S (fun d S1 => tgW [i] false d S1 φ fun φ1 => D.nx φ1 S1) (fun c a S1 => E c a φ S1) := hw
    refine ⟨φ, S, _, _, fr, sr, hw, fun d S1 v H1 hz e1 s1 r => ?_, lx.toE⟩
    have hz : ∃ j, [i] = [j] ∧ D.nx (φ.set j (some d)) S1 := hz
    obtain ⟨j, ej, hz⟩ := hz
    cases ej
    exact l.nx _ S1 H1 _ hz e1 s1 ((fr.mono (e1.tk sr)).set r)
  rcases sw_cases A (elt := e) (gs := [⟨t, it', fs, 0⟩]) (scope := scope) (pos := pos) (py := py) (y := y) (l := sp.line) with ⟨hs, hl⟩ | hs
  · have key := ps_setLc A.calm nd h1 hl hs P.hi P.ok P.hg P.tt P.he P.hs
    rw [P.ho] at key
    exact ps_imp key fun D' σ H hw => lc_goal P.hin (fin hw)
  · exact ps_imp (ps_set nd h1 h2 (exp_ok _ A tk hx).1 hs h3) fun D' σ H hw => fin hw
theorem lcc_asg (A : Amb s C k X) (tk : Takes X W) {i : Nat} {y : Str} {py sp : Pos} {elt : IE} {own tg vs tg1 : List Nat} {tup tup1 : Bool} {it it1 : II} {x : Expr} (hn : nameAt s i (.Name y py) = true)
    (h : okE s (.lcc elt own tg tup it vs tg1 tup1 it1) x = true) : pS X W C (.asg [i] false (.lcc elt own tg tup it vs tg1 tup1 it1)) (.Assign [.Name y py] x sp) := by
  obtain ⟨y', py', e, h1, h2, h3⟩ := nameAt_ok A hn
  cases e
  have hx := h
  obtain ⟨e, t, it', t1, i1, scope, pos, op, rfl, P⟩ := lcc_parts (exp_ok elt) (ite_ok it) (ite_ok it1) A tk h
  have nd : X.N.Nodup := by rw [A.N]; exact A.nd
  have fin : ∀ {D' : Ends} {σ : L2.St} {H : Hp}, tS X.K X.mg W C (.asg [i] false (.lcc elt own tg tup it vs tg1 tup1 it1)) D' σ H → tE X.K X.mg W C (.lcc elt own tg tup it vs tg1 tup1 it1) σ H (fun x H1 => gName i x σ H1 D'.nx) := by
    rintro D' σ H ⟨φ, S, D, E, fr, sr, hw, l, lx⟩
    have hw : wE C (.lcc elt own tg tup it vs tg1 tup1 it1) φ S (fun d S1 => tgW [i] false d S1 φ fun φ1 => D.nx φ1 S1) (fun c a S1 => E c a φ S1) := hw
    refine ⟨φ, S, _, _, fr, sr, hw, fun d S1 v H1 hz e1 s1 r => ?_, lx.toE⟩
    have hz : ∃ j, [i] = [j] ∧ D.nx (φ.set j (some d)) S1 := hz
    obtain ⟨j, ej, hz⟩ := hz
    cases ej
    exact l.nx _ S1 H1 _ hz e1 s1 ((fr.mono (e1.tk sr)).set r)
  rcases sw_cases A (elt := e) (gs := [⟨t, it', [], 0⟩, ⟨t1, i1, [], 0⟩]) (scope := scope) (pos := pos) (py := py) (y := y) (l := sp.line) with ⟨hs, hl⟩ | hs
  · have key := ps_setLc2 (vs1 := vs) A.calm nd h1 hl hs P.hi P.ok (fun i hm => by rw [P.ho]; exact P.hv i hm) P.hg (fun _ _ _ _ _ => pts_nil) P.hi1 P.hg1 (fun _ _ _ _ _ => pts_nil) P.he P.hs P.hs1
    rw [P.ho] at key
    exact ps_imp key fun D' σ H hw => lcc_goal P.hin P.hin1 (fin hw)
  · exact ps_imp (ps_set nd h1 h2 (exp_ok _ A tk hx).1 hs h3) fun D' σ H hw => fin hw
theorem comp_term {e : IE} {v : Expr} (h : okE s e v = true) (hc : notComp v = false) : (∃ elt own tg tup it ifs, e = .lc elt own tg tup it ifs) ∨ ∃ elt own tg tup it vs tg1 tup1 it1, e = .lcc elt own tg tup it vs tg1 tup1 it1 := by
  cases e <;> first
    | exact .inl ⟨_, _, _, _, _, _, rfl⟩
    | exact .inr ⟨_, _, _, _, _, _, _, _, _, rfl⟩
    | (unfold okE at h
       split at h <;> first | (cases hc; done) | (cases h; done) | (cases ‹_ = IE.lc _ _ _ _ _ _›; done) | (cases ‹_ = IE.lcc _ _ _ _ _ _ _ _ _›; done))
theorem s_asg (A : Amb s C k X) (tk : Takes X W) {tg : List Nat} {tup : Bool} {e : IE} {t v : Expr} {sp : Pos} (h1 : tgB s tg tup t = true) (h2 : okE s e v = true) (h3 : asgB s t v = true) : pS X W C (.asg tg tup e) (.Assign [t] v sp) := by
  have pe := (exp_ok e A tk h2).1
  have pg := pg_tg A h1
  have go : swapsWithSole [t] v sp.line X.env = pure false → swappedStores [t] v X.env = pure none → (assignEach [t] X.env).map (·.2) = [assign t X.env] → pS X W C (.asg tg tup e) (.Assign [t] v sp) :=
    fun a b c => ps_imp (ps_asg pe pg a b c) fun D' σ H hw => asg_goal hw
  rcases tg_shape h1 with ⟨i, x, p, rfl, rfl, rfl, hn⟩ | ⟨es, n, p, rfl, rfl⟩
  · cases hc : notComp v with
    | true => exact go (show swapsWith v (some (.Name x p)) sp.line X.env = pure false from swaps_no hc) stores_name rfl
    | false =>
      rcases comp_term h2 hc with ⟨elt, own, tg, tup, it, ifs, rfl⟩ | ⟨elt, own, tg, tup, it, vs, tg1, tup1, it1, rfl⟩
      · exact lc_asg A tk hn h2
      · exact lcc_asg A tk hn h2
  · refine go (show swapsWith v (some (.Tuple es n p)) sp.line X.env = pure false from swaps_tup) ?_ rfl
    cases v <;> first | exact noSwap_ok A h3 | exact stores_no (by intros; exact fun z => nomatch z)
end
end Pi

/-! PiStm3: statements, one by one. -/
namespace Pi
open PySem L2 PyProof.Rows
section
variable {s : SC} {C : CallT} {k : Nat} {X : Cx} {W : WX}
/-! ### a, b = x, y -/
theorem fm2 {f : Expr → Option Str} {a b : Expr} {x y : Str} (h1 : f a = some x) (h2 : f b = some y) : [a, b].filterMap f = [x, y] := by
  simp only [List.filterMap_cons, List.filterMap_nil, h1, h2]
theorem fm3 {f : Expr → Option Str} {a b c : Expr} {x y z : Str} (h1 : f a = some x) (h2 : f b = some y) (h3 : f c = some z) : [a, b, c].filterMap f = [x, y, z] := by
  simp only [List.filterMap_cons, List.filterMap_nil, h1, h2, h3]
theorem fm_one {b : Bool} {x : Str} (h : b = true) : (if b = true then some x else none) = some x := by rw [h]; rfl
theorem swapped2 (A : Amb s C k X) {x y : Str} {px py pt pt2 : Pos} {kt k2 : Nat} {vs : List Expr} (hv : vs.length = 2) (hst : vs.all notStar = true) (hx : X.env.scope.names.lookup x = some .local) (hy : X.env.scope.names.lookup y = some .local) (hl : (py.line == px.line) = true) (ne : x ≠ y)
    (h1 : vs.all (foldedForSure 8) = false) (h2 : vs.all (constantsAlone 8) = false) : swappedStores [.Tuple [.Name x px, .Name y py] kt pt] (.Tuple vs k2 pt2) X.env = pure (some [x, y]) := by
  have kx : (X.env.kindOf x == some .local) = true := by show (X.env.scope.names.lookup x == some .local) = true; rw [hx]; rfl
  have ky : (X.env.kindOf y == some .local) = true := by show (X.env.scope.names.lookup y == some .local) = true; rw [hy]; rfl
  have ed : ([x, y] : List Str).eraseDups = [x, y] := by
    have : (y == x) = false := beq_eq_false_iff_ne.mpr (Ne.symm ne)
    simp [List.eraseDups_cons, this]
  unfold swappedStores
  simp only [hv, List.length_cons, List.length_nil, kind_fn A]
  rw [if_neg (by decide), if_neg ?_]
  · rw [fm2 (x := x) (y := y) (fm_one (by rw [kx, Bool.true_and]; exact beq_self_eq_true px.line)) (fm_one (by rw [ky, Bool.true_and]; exact hl)), ed, if_neg (by simp), if_neg (by rw [h1]; decide), if_neg (by rw [h2]; decide)]
  · intro h
    obtain ⟨e, he, hq⟩ := List.any_eq_true.mp h
    have hs := List.all_eq_true.mp hst e he
    cases e <;> first | (cases hq; done) | (cases hs; done)
theorem swapped3 (A : Amb s C k X) {x y z : Str} {px py pz pt pt2 : Pos} {kt k2 : Nat} {vs : List Expr} (hv : vs.length = 3) (hst : vs.all notStar = true) (hx : X.env.scope.names.lookup x = some .local) (hy : X.env.scope.names.lookup y = some .local) (hz : X.env.scope.names.lookup z = some .local)
    (hl : (py.line == px.line) = true) (hl2 : (pz.line == px.line) = true) (n1 : x ≠ y) (n2 : x ≠ z) (n3 : y ≠ z)
    (h1 : vs.all (foldedForSure 8) = false) (h2 : vs.all (constantsAlone 8) = false) : swappedStores [.Tuple [.Name x px, .Name y py, .Name z pz] kt pt] (.Tuple vs k2 pt2) X.env = pure (some [x, y, z]) := by
  have kx : (X.env.kindOf x == some .local) = true := by show (X.env.scope.names.lookup x == some .local) = true; rw [hx]; rfl
  have ky : (X.env.kindOf y == some .local) = true := by show (X.env.scope.names.lookup y == some .local) = true; rw [hy]; rfl
  have kz : (X.env.kindOf z == some .local) = true := by show (X.env.scope.names.lookup z == some .local) = true; rw [hz]; rfl
  have ed : ([x, y, z] : List Str).eraseDups = [x, y, z] := by
    have e1 : (y == x) = false := beq_eq_false_iff_ne.mpr (Ne.symm n1)
    have e2 : (z == x) = false := beq_eq_false_iff_ne.mpr (Ne.symm n2)
    have e3 : (z == y) = false := beq_eq_false_iff_ne.mpr (Ne.symm n3)
    simp [List.eraseDups_cons, e1, e2, e3]
  unfold swappedStores
  simp only [hv, List.length_cons, List.length_nil, kind_fn A]
  rw [if_neg (by decide), if_neg ?_]
  · rw [fm3 (x := x) (y := y) (z := z) (fm_one (by rw [kx, Bool.true_and]; exact beq_self_eq_true px.line)) (fm_one (by rw [ky, Bool.true_and]; exact hl)) (fm_one (by rw [kz, Bool.true_and]; exact hl2)), ed, if_neg (by simp), if_neg (by rw [h1]; decide), if_neg (by rw [h2]; decide)]
  · intro h
    obtain ⟨e, he, hq⟩ := List.any_eq_true.mp h
    have hs := List.all_eq_true.mp hst e he
    cases e <;> first | (cases hq; done) | (cases hs; done)
theorem s_par (A : Amb s C k X) (tk : Takes X W) {tg : List Nat} {es : IEs} {ts vs : List Expr} {n m : Nat} {p q sp : Pos} (h1 : namesAt s tg ts = true) (h2 : okP s es vs = true) (h3 : parB s ts vs = true) (h4 : tg.Nodup) :
    pS X W C (.par tg es) (.Assign [.Tuple ts n p] (.Tuple vs m q) sp) := by
  have nd : X.N.Nodup := by rw [A.N]; exact A.nd
  have al := (par_ok es).p A tk h2
  have pa := al.toS.pa
  unfold parB at h3
  simp only [Bool.and_eq_true, Bool.or_eq_true, decide_eq_true_eq, Bool.not_eq_true'] at h3
  obtain ⟨⟨⟨⟨⟨h5, h6⟩, h7⟩, h8⟩, h9⟩, h10⟩ := h3
  split at h8
  · rename_i x px y py
    simp only [Bool.and_eq_true, Bool.not_eq_true', decide_eq_false_iff_not] at h8
    obtain ⟨⟨⟨hx, hy⟩, hl⟩, ne⟩ := h8
    match tg, h1, h4 with
    | [i, j], h1, h4 =>
      have g : (nameAt s i (.Name x px) && (nameAt s j (.Name y py) && true)) = true := h1
      simp only [Bool.and_eq_true] at g
      obtain ⟨_, _, e1, i1, _, _⟩ := nameAt_ok A g.1
      cases e1
      obtain ⟨_, _, e2, i2, _, _⟩ := nameAt_ok A g.2.1
      cases e2
      have hij : i ≠ j := by simpa using h4
      match vs, h6 with
      | [a, b], h6 =>
        refine ps_imp (ps_par A.calm nd i1 i2 hij (A.lcl hx) (A.lcl hy) pa (swapped2 A rfl h7 (A.lcl hx) (A.lcl hy) hl ne h9 h10)) fun D' σ H ⟨φ, S, D, E, fr, sr, hw, l, lx⟩ => ?_
        refine ⟨φ, S, _, _, fr, sr, hw, fun ds S1 us H1 hz e1 s1 r => ?_, lx.toE⟩
        obtain ⟨hlen, hq⟩ := hz
        match ds, hlen, r with
        | [d, e], _, .cons (v := v) r1 (.cons (v := w) r2 .nil) =>
          exact ⟨v, w, rfl, l.nx _ S1 H1 _ hq e1 s1 (((fr.mono (e1.tk sr)).set r1).set r2)⟩
    | [], h1, _ => cases h1
    | [_], h1, _ => exact absurd h1 (by intro z; have z' : (nameAt s _ (.Name x px) && false) = true := z; rw [Bool.and_false] at z'; cases z')
    | i :: j :: l :: r, h1, _ => exact absurd h1 (by intro z; have z' : (nameAt s i (.Name x px) && (nameAt s j (.Name y py) && false)) = true := z; rw [Bool.and_false, Bool.and_false] at z'; cases z')
  · rename_i x px y py z pz
    simp only [Bool.and_eq_true, Bool.not_eq_true', decide_eq_false_iff_not] at h8
    obtain ⟨⟨⟨⟨⟨⟨⟨hx, hy⟩, hz⟩, hl⟩, hl2⟩, n1⟩, n2⟩, n3⟩ := h8
    match tg, h1, h4 with
    | [i, j, l], h1, h4 =>
      have g : (nameAt s i (.Name x px) && (nameAt s j (.Name y py) && (nameAt s l (.Name z pz) && true))) = true := h1
      simp only [Bool.and_eq_true] at g
      obtain ⟨_, _, e1, i1, _, _⟩ := nameAt_ok A g.1
      cases e1
      obtain ⟨_, _, e2, i2, _, _⟩ := nameAt_ok A g.2.1
      cases e2
      obtain ⟨_, _, e3, i3, _, _⟩ := nameAt_ok A g.2.2.1
      cases e3
      have hn : (i ≠ j ∧ i ≠ l) ∧ j ≠ l := by simpa using h4
      match vs, h6 with
      | [a, b, c], h6 =>
        refine ps_imp (ps_par3 A.calm nd i1 i2 i3 hn.1.1 hn.1.2 hn.2 (A.lcl hx) (A.lcl hy) (A.lcl hz) pa (swapped3 A rfl h7 (A.lcl hx) (A.lcl hy) (A.lcl hz) hl hl2 n1 n2 n3 h9 h10)) fun D' σ H ⟨φ, S, D, E, fr, sr, hw, ld, lx⟩ => ?_
        refine ⟨φ, S, _, _, fr, sr, hw, fun ds S1 us H1 hz e1 s1 r => ?_, lx.toE⟩
        obtain ⟨hlen, hq⟩ := hz
        match ds, hlen, r with
        | [d, e, f], _, .cons (v := v) r1 (.cons (v := w) r2 (.cons (v := u) r3 .nil)) =>
          exact ⟨v, w, u, rfl, ld.nx _ S1 H1 _ hq e1 s1 ((((fr.mono (e1.tk sr)).set r1).set r2).set r3)⟩
    | [], h1, _ => cases h1
    | [_], h1, _ => exact absurd h1 (by intro z; have z' : (nameAt s _ (.Name x px) && false) = true := z; rw [Bool.and_false] at z'; cases z')
    | [i, j], h1, _ => exact absurd h1 (by intro z; have z' : (nameAt s i (.Name x px) && (nameAt s j (.Name y py) && false)) = true := z; rw [Bool.and_false, Bool.and_false] at z'; cases z')
    | i :: j :: l :: o :: r, h1, _ => exact absurd h1 (by intro z; have z' : (nameAt s i (.Name x px) && (nameAt s j (.Name y py) && (nameAt s l (.Name _ pz) && false))) = true := z; rw [Bool.and_false, Bool.and_false, Bool.and_false] at z'; cases z')
  · cases h8
end
end Pi

/-! PiStm4: a statement that matches a piece of syntax says what the piece does. -/
namespace Pi
open PySem L2 PyProof.Rows
section
variable {s : SC} {C : CallT} {k : Nat} {X : Cx} {W : WX}
theorem s_sto (A : Amb s C k X) (tk : Takes X W) {o i e : IE} {p q v : Expr} {tp sp : Pos} (h1 : okE s o p = true) (h2 : okE s i q = true) (h3 : okE s e v = true) (h4 : notSlice q = true) (h5 : notComp v = true) :
    pS X W C (.sto o i e) (.Assign [.Subscript p q tp] v sp) := by
  have pg := pg_sub (pos := tp) (exp_ok o A tk h1).1 (exp_ok i A tk h2).1 (set_P (X := X) (by have := A.hu; omega)) (by
    intro v
    cases q <;> first | rfl | cases h4)
  refine ps_imp (ps_asg (exp_ok e A tk h3).1 pg (show swapsWith v (some (.Subscript p q tp)) sp.line X.env = pure false from swaps_no h5) (by cases v <;> rfl) rfl) fun D' σ H ⟨φ, S, D, E, fr, sr, hw, l, lx⟩ => ?_
  have hw : wE C e φ S (fun v S1 => wE C o φ S1 (fun x S2 => wE C i φ S2 (fun y S3 => stoW x y v S3 fun S4 => D.nx φ S4) fun c a S' => E c a φ S') fun c a S' => E c a φ S') (fun c a S' => E c a φ S') := hw
  refine ⟨φ, S, _, _, fr, sr, hw, fun v S1 u H1 h1 e1 s1 r1 => ⟨φ, S1, _, _, fr.mono (e1.tk sr), s1, h1, fun x S2 ux H2 h2 e2 s2 r2 => ⟨φ, S2, _, _, fr.mono ((e1.trans e2).tk sr), s2, h2, fun y S3 uy H3 h3 e3 s3 r3 => ?_, (lx.after (e1.trans e2)).toE⟩, (lx.after e1).toE⟩, lx.toE⟩
  refine ⟨S3, x, y, v, _, s3, r2.mono (e3.tk s2), r3, r1.mono ((e2.trans e3).tk s1), h3, fun S4 H4 h4 e4 s4 => ?_⟩
  exact l.nx _ S4 H4 _ h4 (e1.trans (e2.trans (e3.trans e4))) s4 (fr.mono ((e1.trans (e2.trans (e3.trans e4))).tk sr))
def rAug (K : PySem.W.Frag) (mg : Str → Option Value) (op : BOp) : TIp := fun x y H Q => ∃ S d e q, SR K mg S H ∧ Rp K mg H x d ∧ Rp K mg H y e ∧ augW op d e q ∧ ∀ z v, q z → Rp K mg H v z → Q v H
theorem iop_mulW : OpR X (inplaceOp .Mult) (rI CMulW fun i j => .int (i * j)) := opI fun _ _ _ _ _ _ _ hc q => imul_int q hc.ok
theorem ip_P (op : BOp) : PIp X op.py (rAug X.K X.mg op) := by
  intro pins st σ H x y v u Q I rx ry ⟨S, d, e, q, sr, rd, re, hw, l⟩
  unfold augW at hw
  split at hw
  · cases rd
    cases re
    exact ip_add pins st σ H _ _ v u Q I rx ry ⟨_, _, rfl, rfl, l _ _ hw (.int _)⟩
  · cases rd
    cases re
    exact ip_sub pins st σ H _ _ v u Q I rx ry ⟨_, _, rfl, rfl, l _ _ hw (.int _)⟩
  · cases rd
    cases re
    rcases hw with ⟨hm | hm | hm, hw⟩
    · exact iop_mul pins st σ H _ _ v u Q I rx ry ⟨_, _, rfl, rfl, .inl hm, l _ _ hw (.int _)⟩
    · exact iop_mul pins st σ H _ _ v u Q I rx ry ⟨_, _, rfl, rfl, .inr hm, l _ _ hw (.int _)⟩
    · exact iop_mulW pins st σ H _ _ v u Q I rx ry ⟨_, _, rfl, rfl, hm, l _ _ hw (.int _)⟩
  · exact hw.elim
theorem s_aug (A : Amb s C k X) (tk : Takes X W) {i : Nat} {op : BOp} {e : IE} {x : Str} {v : Expr} {tp sp : Pos} (h1 : atN s i x = true) (h2 : stB s x = true) (h3 : okE s e v = true) : pS X W C (.aug i op e) (.AugAssign (.Name x tp) op.py v sp) := by
  obtain ⟨a, b⟩ := A.st h2
  refine ps_imp (ps_aug (by rw [A.N]; exact A.nd) (A.ix h1) a (exp_ok e A tk h3).1 (ip_P op) b) fun D' σ H ⟨φ, S, D, E, fr, sr, hw, l, lx⟩ => ?_
  obtain ⟨d, hd, hw⟩ := hw
  obtain ⟨u, hu, ru⟩ := fr.2 i d hd
  refine ⟨u, hu, φ, S, _, _, fr, sr, hw, fun y S1 w H1 hz e1 s1 r1 => ?_, lx.toE⟩
  exact ⟨S1, d, y, _, s1, ru.mono (e1.tk sr), r1, hz, fun z vz hq rz => l.nx _ S1 H1 _ hq e1 s1 ((fr.mono (e1.tk sr)).set rz)⟩
theorem s_exp (A : Amb s C k X) (tk : Takes X W) {e : IE} {v : Expr} {sp : Pos} (h1 : okE s e v = true) (h2 : notComp v = true) : pS X W C (.exp e) (.Expr v sp) :=
  ps_imp (ps_expr (exp_ok e A tk h1).1 (swaps_no h2)) fun D' σ H ⟨φ, S, D, E, fr, sr, hw, l, lx⟩ => ⟨φ, S, _, _, fr, sr, hw, fun z S1 u H1 hz e1 s1 r => l.nx _ S1 H1 _ hz e1 s1 (fr.mono (e1.tk sr)), lx.toE⟩
theorem s_ret (A : Amb s C k X) (tk : Takes X W) {e : IE} {v : Expr} {sp : Pos} (h1 : okE s e v = true) : pS X W C (.ret e) (.Return (some v) sp) :=
  ps_imp (ps_ret (exp_ok e A tk h1).1) fun D' σ H ⟨φ, S, D, E, fr, sr, hw, l, lx⟩ => ⟨φ, S, _, _, fr, sr, hw, fun z S1 u H1 hz e1 s1 r => l.rt z S1 H1 u hz e1 s1 r, lx.toE⟩
theorem s_retN {sp : Pos} : pS X W C .retN (.Return none sp) := ps_imp ps_retN fun D' σ H ⟨φ, S, D, E, fr, sr, hw, l, lx⟩ => l.rt _ S H _ hw Ev.refl sr .non
theorem s_brk {sp : Pos} : pS X W C .brk (.Break sp) := ps_imp ps_break fun D' σ H ⟨φ, S, D, E, fr, sr, hw, l, lx⟩ => l.bk φ S H σ hw Ev.refl sr fr
theorem s_cnt {sp : Pos} : pS X W C .cnt (.Continue sp) := ps_imp ps_continue fun D' σ H ⟨φ, S, D, E, fr, sr, hw, l, lx⟩ => l.ct φ S H σ hw Ev.refl sr fr
theorem s_pas {sp : Pos} : pS X W C .pas (.Pass sp) := ps_imp ps_pass fun D' σ H ⟨φ, S, D, E, fr, sr, hw, l, lx⟩ => l.nx φ S H σ hw Ev.refl sr fr
theorem s_iff {c : IE} {a b : ISs} {t : Expr} {x y : List Stmt} {sp : Pos} (hc : pT X W C c t) (ha : pSs X W C a x) (hb : pSs X W C b y) : pS X W C (.iff c a b) (.If t x y sp) :=
  ps_imp (ps_if hc ha hb) fun D' σ H ⟨φ, S, D, E, fr, sr, hw, l, lx⟩ => ⟨φ, S, _, _, fr, sr, hw, fun z S1 H1 ⟨kk, hz, hk⟩ e1 s1 => ⟨kk, hz, by
    cases kk with
    | true => exact ⟨φ, S1, D, E, fr.mono (e1.tk sr), s1, hk, l.after e1, lx.after e1⟩
    | false => exact ⟨φ, S1, D, E, fr.mono (e1.tk sr), s1, hk, l.after e1, lx.after e1⟩⟩, lx.toE⟩
theorem s_whl (hp : PassesOwn (model X.prog X.w) X.A X.env X.xe) {c : IE} {b : ISs} {t : Expr} {x : List Stmt} {sp : Pos} (hc : pT X W C c t) (hb : pSs X W C b x) : pS X W C (.whl c b) (.While t x [] sp) := by
  refine ps_imp (ps_while hp hc hb) fun D' σ H ⟨φ, S, D, E, fr, sr, hw, l, lx⟩ => ?_
  obtain ⟨n, hw⟩ := hw
  refine ⟨fun m σ' H' => ∃ φ' S', FR X.K X.mg H' σ' φ' ∧ SR X.K X.mg S' H' ∧ Ev S H S' H' ∧ whlW (fun φ S Q => wE C c φ S Q fun c a S' => E c a φ S') (fun D φ S => wSs C b D E φ S) D m φ' S', ⟨n, φ, S, fr, sr, Ev.refl, hw⟩, fun m σ' H' ⟨φ', S', fr', sr', ev, hl⟩ => ?_⟩
  cases m with
  | zero => exact hl.elim
  | succ m =>
    refine ⟨φ', S', _, _, fr', sr', hl, fun z S1 H1 ⟨kk, hz, hk⟩ e1 s1 => ⟨kk, hz, ?_⟩, (lx.after ev).toE⟩
    have e2 := ev.trans e1
    have f1 := fr'.mono (e1.tk sr')
    cases kk with
    | false => exact l.nx _ S1 H1 _ hk e2 s1 f1
    | true =>
      refine ⟨_, fun σ2 H2 z => ⟨m, Nat.lt_succ_self m, z⟩, φ', S1, _, E, f1, s1, hk, ⟨fun φ3 S3 H3 σ3 h3 e3 s3 f3 => ⟨φ3, S3, f3, s3, e2.trans e3, h3⟩, fun z3 S3 H3 v3 h3 e3 s3 r3 => l.rt z3 S3 H3 v3 h3 (e2.trans e3) s3 r3,
        fun φ3 S3 H3 σ3 h3 e3 s3 f3 => l.nx φ3 S3 H3 σ3 h3 (e2.trans e3) s3 f3, fun φ3 S3 H3 σ3 h3 e3 s3 f3 => ⟨φ3, S3, f3, s3, e2.trans e3, h3⟩⟩, lx.after e2⟩
theorem s_for (A : Amb s C k X) (hp : PassesOwn (model X.prog X.w) X.A X.env X.xe) {tg : List Nat} {tup : Bool} {it : II} {b : ISs} {t i : Expr} {x : List Stmt} {sp : Pos} (hg : PG X t (tG X.K X.mg tg tup)) (hi : pI X W C t it i) (hs : notSet i = true) (hb : pSs X W C b x) :
    pS X W C (.for_ tg tup it b) (.For t i x [] sp) := by
  refine ps_imp (ps_for hp A.calm hi hg hb (foldS_of hs _)) fun D' σ H ⟨φ, S, D, E, fr, sr, hw, l, lx⟩ => ?_
  have hw : wI C it φ S (fun src S1 => loopW src.ok (fun d φ S2 N => tgW tg tup d S2 φ fun φ1 => wSs C b { D with nx := N, ct := N, bk := D.nx } E φ1 S2) D.nx src.items φ S1) (fun c a S' => E c a φ S') := hw
  refine ⟨φ, S, _, _, fr, sr, hw, fun src S1 H1 J hl e1 s1 jok => ?_, lx.toE⟩
  refine ⟨fun i m σ' H' => i + m = src.items.length ∧ ∃ φ' S', FR X.K X.mg H' σ' φ' ∧ SR X.K X.mg S' H' ∧ Ev S1 H1 S' H' ∧ loopW src.ok (fun d φ S2 N => tgW tg tup d S2 φ fun φ1 => wSs C b { D with nx := N, ct := N, bk := D.nx } E φ1 S2) D.nx (src.items.drop i) φ' S',
    ⟨src.items.length, Nat.zero_add _, φ, S1, fr.mono (e1.tk sr), s1, Ev.refl, by simpa using hl⟩, fun i m σ' H' ⟨him, φ', S', fr', sr', ev, hl⟩ => ?_⟩
  have t1 := ev.tk s1
  cases m with
  | zero =>
    rw [List.drop_eq_nil_of_le (by omega)] at hl
    unfold loopW at hl
    exact .inl ⟨jok.stop i S' H' (by omega) (by omega) t1 sr' hl.1, l.nx _ S' H' _ hl.2 (e1.trans ev) sr' fr'⟩
  | succ m =>
    have hi : i < src.items.length := by omega
    rw [List.drop_eq_getElem_cons hi] at hl
    unfold loopW at hl
    refine .inr ⟨jok.go i S' H' hi t1 sr' hl.1, fun σ2 H2 => ∃ φ2 S2, FR X.K X.mg H2 σ2 φ2 ∧ SR X.K X.mg S2 H2 ∧ Ev S1 H1 S2 H2 ∧ loopW src.ok (fun d φ S2 N => tgW tg tup d S2 φ fun φ1 => wSs C b { D with nx := N, ct := N, bk := D.nx } E φ1 S2) D.nx (src.items.drop (i + 1)) φ2 S2,
      fun σ2 H2 z => ⟨m, Nat.lt_succ_self m, by omega, z⟩, fun v H2 hy => ?_⟩
    obtain ⟨e2, s2, rx⟩ := jok.yld i S' H' v H2 _ (List.getElem?_eq_getElem hi) t1 sr' hl.1 hy
    have f2 := fr'.mono (e2.tk sr')
    refine ⟨_, φ', S', _, f2, s2, rx, hl.2, fun φ3 σ3 hq f3 _ => ?_⟩
    have e3 := ev.trans e2
    refine ⟨φ3, S', _, E, f3, s2, hq, ⟨fun φ4 S4 H4 σ4 h4 e4 s4 f4 => ⟨φ4, S4, f4, s4, e3.trans e4, h4⟩, fun z4 S4 H4 v4 h4 e4 s4 r4 => l.rt z4 S4 H4 v4 h4 (e1.trans (e3.trans e4)) s4 r4,
      fun φ4 S4 H4 σ4 h4 e4 s4 f4 => l.nx φ4 S4 H4 σ4 h4 (e1.trans (e3.trans e4)) s4 f4, fun φ4 S4 H4 σ4 h4 e4 s4 f4 => ⟨φ4, S4, f4, s4, e3.trans e4, h4⟩⟩, lx.after (e1.trans e3)⟩
theorem s_rai (A : Amb s C k X) (tk : Takes X W) {c m : Str} {j : Nat} {p p2 pos sp : Pos} (hg : glB s.sc c = true) (hn : okName c = true) (he : c ∈ s.exc) : pS X W C (.rai c (.cons (.lit (.str m)) .nil)) (.Raise (some (.Call (.Name c p) [.Constant (.str m) j p2] [] pos)) none sp) := by
  obtain ⟨a, g, h1, h2, h3, h4⟩ := A.exc c he
  refine ps_imp (ps_raise A.calm tk (pmk_own PySem.F.excBase_ValueError h1 g h2 (raises_own h3 h4) (A.gl hg) (okName_ok hn).1)) fun D' σ H ⟨φ, S, D, E, fr, sr, hw, l, lx⟩ => ?_
  have hw : ∃ x, [Pi.D.str m] = [Pi.D.str x] ∧ E c (.str x) φ S := hw
  obtain ⟨x, _, hE⟩ := hw
  exact lx c _ φ S (.ref a) none σ H hE Ev.refl sr fr ⟨a, g, rfl, rfl⟩
theorem s_cons {st : IS} {r : ISs} {x : Stmt} {xs : List Stmt} (h : pS X W C st x) (hr : pSs X W C r xs) : pSs X W C (.cons st r) (x :: xs) :=
  pss_imp (pss_cons h hr) fun D' σ H ⟨φ, S, D, E, fr, sr, hw, l, lx⟩ => ⟨φ, S, _, E, fr, sr, hw, ⟨fun φ1 S1 H1 σ1 h1 e1 s1 f1 => ⟨φ1, S1, D, E, f1, s1, h1, l.after e1, lx.after e1⟩, l.rt, l.bk, l.ct⟩, lx⟩
theorem s_nil : pSs X W C .nil [] := pss_imp pss_nil fun D' σ H ⟨φ, S, D, E, fr, sr, hw, l, lx⟩ => l.nx φ S H σ hw Ev.refl sr fr
end
def SOk (C : CallT) (st : IS) : Prop := ∀ {s : SC} {k : Nat} {X : Cx} {W : WX} {x : Stmt}, Amb s C k X → Takes X W → PassesOwn (model X.prog X.w) X.A X.env X.xe → okS s st x = true → pS X W C st x
def SsOk (C : CallT) (st : ISs) : Prop := ∀ {s : SC} {k : Nat} {X : Cx} {W : WX} {x : List Stmt}, Amb s C k X → Takes X W → PassesOwn (model X.prog X.w) X.A X.env X.xe → okSs s st x = true → pSs X W C st x
section
variable {C : CallT}
theorem sok_simple (st : IS) (hn : ∀ c a b, st ≠ .iff c a b) (hw : ∀ c b, st ≠ .whl c b) (hf : ∀ tg tup it b, st ≠ .for_ tg tup it b) : SOk C st := by
  intro s k X W x A tk hp h
  unfold okS at h
  split at h
  · simp only [Bool.and_eq_true] at h
    exact s_asg A tk h.1.1 h.1.2 h.2
  · simp only [Bool.and_eq_true, decide_eq_true_eq] at h
    exact s_par A tk h.1.1.1 h.1.1.2 h.1.2 h.2
  · simp only [Bool.and_eq_true] at h
    exact s_sto A tk h.1.1.1.1 h.1.1.1.2 h.1.1.2 h.1.2 h.2
  · simp only [Bool.and_eq_true, decide_eq_true_eq] at h
    obtain ⟨⟨⟨⟨h1, h2⟩, h3⟩, h4⟩, h5⟩ := h
    subst h4
    exact s_aug A tk h1 h2 h5
  · simp only [Bool.and_eq_true] at h
    exact s_exp A tk h.1 h.2
  · exact absurd rfl (hn _ _ _)
  · exact absurd rfl (hw _ _)
  · exact absurd rfl (hf _ _ _ _)
  · exact s_ret A tk h
  · exact s_retN
  · exact s_brk
  · exact s_cnt
  · exact s_pas
  · simp only [Bool.and_eq_true, decide_eq_true_eq] at h
    obtain ⟨⟨⟨⟨h1, h2⟩, h3⟩, h4⟩, h5⟩ := h
    subst h1 h2
    exact s_rai A tk h3 h4 h5
  · cases h
theorem sok_iff {c : IE} {a b : ISs} (ha : SsOk C a) (hb : SsOk C b) : SOk C (.iff c a b) := by
  intro s k X W x A tk hp h
  unfold okS at h
  split at h <;> first | (cases ‹IS.iff c a b = _›; done) | (cases h; done) | skip
  cases ‹IS.iff c a b = _›
  simp only [Bool.and_eq_true] at h
  exact s_iff ((exp_ok c A tk h.1.1.1).2 h.1.1.2) (ha A tk hp h.1.2) (hb A tk hp h.2)
theorem sok_whl {c : IE} {b : ISs} (hb : SsOk C b) : SOk C (.whl c b) := by
  intro s k X W x A tk hp h
  unfold okS at h
  split at h <;> first | (cases ‹IS.whl c b = _›; done) | (cases h; done) | skip
  cases ‹IS.whl c b = _›
  simp only [Bool.and_eq_true] at h
  exact s_whl hp ((exp_ok c A tk h.1.1).2 h.1.2) (hb A tk hp h.2)
theorem sok_for {tg : List Nat} {tup : Bool} {it : II} {b : ISs} (hb : SsOk C b) : SOk C (.for_ tg tup it b) := by
  intro s k X W x A tk hp h
  unfold okS at h
  split at h <;> first | (cases ‹IS.for_ tg tup it b = _›; done) | (cases h; done) | skip
  cases ‹IS.for_ tg tup it b = _›
  simp only [Bool.and_eq_true] at h
  exact s_for A hp (pg_tg A h.1.1.1) (ite_ok it A tk h.1.1.2 (tup_of h.1.1.1)) h.1.2 (hb A tk hp h.2)
theorem ssok_nil : SsOk C .nil := by
  intro s k X W x A tk hp h
  cases x with
  | nil => exact s_nil
  | cons _ _ => cases h
theorem ssok_cons {st : IS} {r : ISs} (hs : SOk C st) (hr : SsOk C r) : SsOk C (.cons st r) := by
  intro s k X W x A tk hp h
  cases x with
  | nil => cases h
  | cons y ys =>
    have h' : (okS s st y && okSs s r ys) = true := h
    rw [Bool.and_eq_true] at h'
    exact s_cons (hs A tk hp h'.1) (hr A tk hp h'.2)
mutual
theorem stm_ok : ∀ st : IS, SOk C st
  | .iff c a b => sok_iff (stms_ok a) (stms_ok b)
  | .whl c b => sok_whl (stms_ok b)
  | .for_ tg tup it b => sok_for (stms_ok b)
  | .asg a b c => sok_simple _ (by intros; exact fun z => nomatch z) (by intros; exact fun z => nomatch z) (by intros; exact fun z => nomatch z)
  | .par a b => sok_simple _ (by intros; exact fun z => nomatch z) (by intros; exact fun z => nomatch z) (by intros; exact fun z => nomatch z)
  | .sto a b c => sok_simple _ (by intros; exact fun z => nomatch z) (by intros; exact fun z => nomatch z) (by intros; exact fun z => nomatch z)
  | .aug a b c => sok_simple _ (by intros; exact fun z => nomatch z) (by intros; exact fun z => nomatch z) (by intros; exact fun z => nomatch z)
  | .exp a => sok_simple _ (by intros; exact fun z => nomatch z) (by intros; exact fun z => nomatch z) (by intros; exact fun z => nomatch z)
  | .ret a => sok_simple _ (by intros; exact fun z => nomatch z) (by intros; exact fun z => nomatch z) (by intros; exact fun z => nomatch z)
  | .retN => sok_simple _ (by intros; exact fun z => nomatch z) (by intros; exact fun z => nomatch z) (by intros; exact fun z => nomatch z)
  | .brk => sok_simple _ (by intros; exact fun z => nomatch z) (by intros; exact fun z => nomatch z) (by intros; exact fun z => nomatch z)
  | .cnt => sok_simple _ (by intros; exact fun z => nomatch z) (by intros; exact fun z => nomatch z) (by intros; exact fun z => nomatch z)
  | .pas => sok_simple _ (by intros; exact fun z => nomatch z) (by intros; exact fun z => nomatch z) (by intros; exact fun z => nomatch z)
  | .rai a b => sok_simple _ (by intros; exact fun z => nomatch z) (by intros; exact fun z => nomatch z) (by intros; exact fun z => nomatch z)
theorem stms_ok : ∀ st : ISs, SsOk C st
  | .nil => ssok_nil
  | .cons st r => ssok_cons (stm_ok st) (stms_ok r)
end
end
end Pi

/-! PiTop: all defs of a table keep what the terms say. -/
namespace Pi
open PySem L2 PyProof.Rows
structure DefX where
  dd : He.DefD
  N : List Str
  fd : FD
/-- what a def promises: its terms' meaning -/
def spC (K : PySem.W.Frag) (mg : Str → Option Value) (C : CallT) (f : Str) (fd : FD) : Sp := fun vs H Q E => vs.length = fd.ps.length ∧ ∃ S ds q e, SR K mg S H ∧ Rps K mg H vs ds ∧ C f ds S q e ∧ Lk K mg S H q Q ∧
  ∀ c a S' cls dx H', e c a S' → Ev S H S' H' → SR K mg S' H' → RX mg c cls dx → E cls dx H'
def tabOf (ds : List DefX) : Tab := ds.map fun d => (d.dd.name, d.fd)
def scOf (s : SC) (d : DefX) : SC := { s with N := d.N, sc := d.dd.scope, fn := fun _ => true }
def scopeB (N ps : List Str) (sc : Scope) : Bool := (match sc.kind with | .function => true | _ => false) && !sc.isCoroutine && !sc.isGenerator && decide N.Nodup && decide (N.take ps.length = ps) &&
  (ps.all fun x => locB sc x) && sc.names.all fun y => (match y.2 with | .free => false | _ => true)
def defB (s : SC) (d : DefX) : Bool := scopeB d.N d.fd.ps d.dd.scope && decide (d.N.length = d.fd.n) && okSs (scOf s d) d.fd.body d.dd.body
theorem scopeB_ok {N ps : List Str} {sc : Scope} (h : scopeB N ps sc = true) : FnScope N ps sc := by
  unfold scopeB at h
  simp only [Bool.and_eq_true, decide_eq_true_eq, Bool.not_eq_true', List.all_eq_true] at h
  obtain ⟨⟨⟨⟨⟨⟨h1, h2⟩, h3⟩, h4⟩, h5⟩, h6⟩, h7⟩ := h
  refine ⟨?_, h2, h3, h4, h5, fun x hx => ?_, fun y hy e => ?_⟩
  · split at h1
    · assumption
    · cases h1
  · have q := h6 x hx
    unfold locB at q
    split at q
    · exact .inl (by assumption)
    · exact .inr (by assumption)
    · cases q
  · have q := h7 y hy
    rw [e] at q
    cases q
/-- what the head tells -/
structure Facts (K : PySem.W.Frag) (mg : Str → Option Value) (s : SC) (ds : List DefX) : Prop where
  tab : s.tab = tabOf ds
  free : ∀ x, s.free.contains x = true → mg x = none
  con : ∀ x d, s.con.lookup x = some d → ∃ u v, mg x = some u ∧ RelV v u ∧ ∀ H, Rp K mg H v d
  exc : ∀ c, c ∈ s.exc → ∃ a, mg c = some (.ref a) ∧ PySem.W.excIn K a He.veBase "ValueError.__new__" = true ∧ PySem.W.keepIn K (.ref a) = true ∧ PySem.W.subIn K (.ref a) (.type "BaseException") = some true ∧ PySem.W.typeIn K (.ref a) = some (.type "type")
  defs : ∀ d ∈ ds, ∃ fa fdt, mg d.dd.name = some (.ref fa) ∧ FunD K d.dd.name d.dd.qual d.dd.params d.dd.body d.dd.scope [] [] fa fdt ∧ (∀ us : List Value, us.length = d.fd.ps.length → bindArgs fdt ⟨us, []⟩ = pure (d.fd.ps.zip us)) ∧
    ∀ n ks rs, (d.dd.name, n, ks, rs) ∈ s.kwp → n + rs.length = d.fd.ps.length ∧ (∀ r ∈ rs, r ∈ ks) ∧ ∀ us ws : List Value, us.length = n → ws.length = ks.length → bindArgs fdt ⟨us, ks.zip ws⟩ = pure (d.fd.ps.zip (us ++ rs.map fun r => ((ks.zip ws).lookup r).getD .none))
theorem tab_mem {ds : List DefX} {f : Str} {fd : FD} (h : (tabOf ds).lookup f = some fd) : ∃ d ∈ ds, d.dd.name = f ∧ d.fd = fd := by
  have m := PySem.mem_of_lookup h
  unfold tabOf at m
  obtain ⟨d, hd, e⟩ := List.mem_map.mp m
  cases e
  exact ⟨d, hd, rfl, rfl⟩
theorem wC_len {Φ : Tab} : ∀ {k : Nat} {f : Str} {fd : FD} {ds : List D} {S : Sto} {q : KE} {e : XE}, Φ.lookup f = some fd → wC Φ k f ds S q e → ds.length = fd.ps.length
  | 0, _, _, _, _, _, _, _, h => h.elim
  | k + 1, _, _, _, _, _, _, hl, h => by
    obtain ⟨fd', h1, h2, _⟩ := h
    rw [hl] at h1
    cases h1
    exact h2
theorem fr_start {K : PySem.W.Frag} {mg : Str → Option Value} {H : Hp} {N : List Str} {n : Nat} {vs : List V} {ds : List D} (hn : N.length = n) (r : Rps K mg H vs ds) : FR K mg H (L2.start N vs) (startF n ds) := by
  have hl := r.len
  refine ⟨?_, fun i d e => ?_⟩
  · unfold L2.start startF
    simp only [List.length_append, List.length_map, List.length_replicate, hl, hn]
  · unfold startF at e
    by_cases hi : i < ds.length
    · rw [List.getElem?_append_left (by simpa using hi), List.getElem?_map] at e
      cases q : ds[i]? with
      | none => rw [q] at e; cases e
      | some d' =>
        rw [q] at e
        have e' : d' = d := by simpa using e
        subst e'
        obtain ⟨v, hv, rv⟩ := r.get q
        refine ⟨v, ?_, rv⟩
        unfold L2.start
        rw [List.getElem?_append_left (by rw [List.length_map, hl]; exact hi), List.getElem?_map, hv]
        rfl
    · rw [List.getElem?_append_right (by simpa using hi), List.getElem?_replicate] at e
      split at e <;> cases e
theorem all_fn {P : Program} {w : World} {K : PySem.W.Frag} {mg : Str → Option Value} {base : Heap} {s : SC} {ds : List DefX} (Fa : Facts K mg s ds) (hB : ∀ d ∈ ds, defB s d = true) :
    ∀ (k : Nat) (d : DefX), d ∈ ds → s.tab.lookup d.dd.name = some d.fd → ∀ fa fdt, mg d.dd.name = some (.ref fa) → FunD K d.dd.name d.dd.qual d.dd.params d.dd.body d.dd.scope [] [] fa fdt →
      FnG P w K mg base k fa fdt d.fd.ps (spC K mg (wC s.tab k) d.dd.name d.fd)
  | 0, d, _, _, _, _, _, _ => ⟨fun vs H Q E h => h.1, fun A outer st H args us vs Q E _ _ _ _ _ h => by
      obtain ⟨_, S, ds, q, e, _, _, hc, _⟩ := h
      exact hc.elim⟩
  | k + 1, d, hd, hl, fa, fdt, g, F => by
    have ih := all_fn (P := P) (w := w) (base := base) Fa hB k
    have hb := hB d hd
    unfold defB at hb
    simp only [Bool.and_eq_true, decide_eq_true_eq] at hb
    obtain ⟨⟨h1, h2⟩, h3⟩ := hb
    have FS := scopeB_ok h1
    obtain ⟨oc, od, dV, kV, doc, pm, an, cdv, ct, osl, rfl, lk, hcd, _, _⟩ := F.ex
    refine fnG_of lk hcd FS (fun vs H Q E h => h.1) fun A outer st H vs Q E hr hgu hsp => ?_
    obtain ⟨hlen, S, dd, q, e, sr, rs, hc, l, lx⟩ := hsp
    obtain ⟨fd', e1, e2, hw⟩ := hc
    rw [hl] at e1
    cases e1
    have amb : Amb (scOf s d) (wC s.tab k) k (cxOf (L2.CX P w) P w K mg base d.N d.dd.qual d.dd.scope fa cdv A outer st H E) :=
      { N := rfl, nd := FS.nd, sc := rfl, kd := FS.kind, calm := rfl, gu := hgu, rm := hr, fn := fun _ _ => rfl, free := Fa.free, con := Fa.con, exc := Fa.exc,
        cl := fun f fd ds S q e hf hc => wC_len hf hc,
        cal := fun f fd hf => by
          have hf' := hf
          rw [show (scOf s d).tab = s.tab from rfl, Fa.tab] at hf'
          obtain ⟨d', hd', n1, n2⟩ := tab_mem hf'
          obtain ⟨fa', fdt', g', F', b1, b2⟩ := Fa.defs d' hd'
          subst n1 n2
          exact ⟨fa', fdt', g', F'.kp, b1, ih d' hd' hf fa' fdt' g' F', b2⟩ }
    have tk : Takes (cxOf (L2.CX P w) P w K mg base d.N d.dd.qual d.dd.scope fa cdv A outer st H E) (fun cls dx _ H' => E cls dx H') := takes_of rfl rfl rfl rfl
    have hp : PassesOwn (model P w) (cxOf (L2.CX P w) P w K mg base d.N d.dd.qual d.dd.scope fa cdv A outer st H E).A (cxOf (L2.CX P w) P w K mg base d.N d.dd.qual d.dd.scope fa cdv A outer st H E).env (cxOf (L2.CX P w) P w K mg base d.N d.dd.qual d.dd.scope fa cdv A outer st H E).xe :=
      passes_of (X := cxOf (L2.CX P w) P w K mg base d.N d.dd.qual d.dd.scope fa cdv A outer st H E) rfl
    refine ⟨_, stms_ok d.fd.body amb tk hp h3, startF d.fd.n dd, S, _, _, fr_start h2 rs, sr, hw, ⟨fun φ' S' H' σ' h ev s' f => l _ S' .non H' h ev s' .non, fun z S' H' v h ev s' r => l z S' v H' h ev s' r, fun _ _ _ _ h => h.elim, fun _ _ _ _ h => h.elim⟩, fun c a φ' S' cls dx σ' H' h ev s' f r => lx c a S' cls dx H' h ev s' r⟩
end Pi

/-! PiEnd: the law's end: from the terms' answer to the row's. -/
namespace Pi
open PySem L2 PyProof.Rows
/-- the heap as it is seen at the entry: nothing, or the script alone -/
def seen (K : PySem.W.Frag) (a : Addr) (ob : Obj) (xs : List V) : Hp := fun b => if b = a ∧ K.lookup a = none then some (.frz ob (.lst xs)) else none
theorem seen_some {K : PySem.W.Frag} {a b : Addr} {ob : Obj} {xs : List V} {u : HO} (h : seen K a ob xs b = some u) : b = a ∧ K.lookup a = none ∧ u = .frz ob (.lst xs) := by
  unfold seen at h
  split at h
  · rename_i z
    injection h with h
    exact ⟨z.1, z.2, h.symm⟩
  · cases h
theorem seen_none {K : PySem.W.Frag} {a b : Addr} {ob : Obj} {xs : List V} (h : ¬(b = a ∧ K.lookup a = none)) : seen K a ob xs b = none := if_neg h
theorem enter {P : Program} {w : World} {K : PySem.W.Frag} {mg mb : Str → Option Value} {k : Nat} {fa a : Addr} {fdt : FuncData} {x : Str} {st : Shared} {vs : List Value} {ns : List Int} {sp : Sp}
    (hK : K.In st.heap) (gm : st.heap.Ns mainGlobals mg) (gb : st.heap.Ns builtinsNs mb) (gbb : ∀ y : Str, y ≠ "__name__" → mb y = bootBuiltins y) (gl : st.heap.NoLimit) (gg : st.gens = #[])
    (at_ : st.heap.get? a = some { cls := .type "list", data := .seq vs.toArray }) (hi : IntsAre vs ns) (hz : ns.length ≤ sizeLine) (room : Room k callerA)
    (F : ∀ base : Heap, FnG P w K mg base k fa fdt [x] sp) (hb : ∀ u : Value, BindsTo st fdt ⟨[u], []⟩ [(x, u)])
    (hs : ∀ H : Hp, (∀ b u, H b = some u → ∃ o xs, u = .frz o (.lst xs)) → SqF K H a (ns.map V.int) → sp [.ref a] H (fun v _ => v = .bl true) fun _ _ _ => False) :
    codeAny (model P w) callerA (.call (.ref fa) ⟨[.ref a], []⟩) (fun r s' => r = .ok (.ret (.bool true)) ∧ OldK st.heap s'.heap ∧ s'.os = st.os ∧ AllBare s'.gens) st := by
  obtain ⟨ob, eob⟩ : ∃ ob : Obj, ob = { cls := .type "list", data := .seq vs.toArray } := ⟨_, rfl⟩
  rw [← eob] at at_
  have rv := L2.vals_ints hi
  obtain ⟨H, eH⟩ : ∃ H : Hp, H = seen K a ob (ns.map V.int) := ⟨_, rfl⟩
  have only : ∀ b u, H b = some u → b = a ∧ K.lookup a = none ∧ u = .frz ob (.lst (ns.map V.int)) := fun b u h => by rw [eH] at h; exact seen_some h
  have keepB : ∀ {b : Addr} {o : Obj}, st.heap.get? b = some o → b ≠ a → (hidT st.heap H).get? b = some o := fun {b o} e ne => hidT_get e (by rw [eH]; exact seen_none fun z => ne z.1)
  have nsB : ∀ {b : Addr} {m : Str → Option Value}, st.heap.Ns b m → (hidT st.heap H).Ns b m := by
    rintro b m ⟨o, es, ep, e, d, r⟩
    refine ⟨o, es, ep, keepB e fun z => ?_, d, r⟩
    subst z
    rw [at_] at e
    injection e with e
    rw [← e, eob] at d
    exact nomatch (show Data.seq vs.toArray _ = Data.dict es ep from d)
  have kB : K.In (hidT st.heap H) := fun b o e => by
    refine hidT_get (hK b o e) ?_
    rw [eH]
    refine seen_none fun z => ?_
    rw [z.1, z.2] at e
    cases e
  have hokH : HOk P w H st.heap := fun b u h => by
    obtain ⟨e1, e2, e3⟩ := only b u h
    subst e1 e3
    exact ⟨at_, by rw [List.length_map]; exact hz, vs, _, rv, by rw [at_, eob]⟩
  have md : L2.Mod K mg (hidT st.heap H) := by
    obtain ⟨ml, l1, l2⟩ := gl
    exact ⟨kB, nsB gm, ⟨mb, nsB gb, gbb⟩, ⟨ml, nsB l1, l2⟩⟩
  have e0 : Env0 P w K mg (hidT st.heap H) callerA [] st H :=
    { frames := rfl, mod := md, bs := fun b o e => of_hidT e, bsz := Nat.le_of_eq (hidT_size _ _), funs := trivial, frf := fun b hb => (nomatch hb), hok := hokH, bare := .of_eq gg }
  have sq : SqF K H a (ns.map V.int) := by
    cases q : K.lookup a with
    | none =>
      have z : H a = some (.frz ob (.lst (ns.map V.int))) := by rw [eH]; exact if_pos ⟨rfl, q⟩
      exact ⟨.inl (.inr ⟨ob, z⟩), .inl ⟨ob, z⟩⟩
    | some o =>
      have e := hK a o q
      rw [at_] at e
      injection e with e
      have al : ∀ H' : Hp, SqL K H' a (ns.map V.int) := fun H' => .inr ⟨o, vs.toArray, _, q, by rw [← e, eob], by rw [← e, eob], by rw [← e, eob], by rw [List.size_toArray, hi.length]; exact hz, by simpa using rv⟩
      exact ⟨al H, .inr al⟩
  refine codeAny_mono ((F _).run callerA [] st H ⟨[.ref a], []⟩ [.ref a] [.ref a] _ _ room rfl e0 (hb (.ref a)) (.cons rfl .nil) (hs H (fun b u h => ⟨_, _, (only b u h).2.2⟩) sq)) fun r s' hr => ?_
  cases r with
  | error e =>
    obtain ⟨_, _, _, _, _, _, _, _, _, _, _, _, no⟩ := hr
    exact no.elim
  | ok fl =>
    cases fl with
    | ret u =>
      obtain ⟨v, H', os, bare, un, hok', rvu, ev⟩ := hr
      have ev : v = .bl true := ev
      subst ev
      have eu : u = .bool true := rvu
      subst eu
      refine ⟨rfl, OldK.of_keep fun b o e => ?_, os, bare⟩
      cases q : H b with
      | none => exact un.keep b o e q (fun z => nomatch z) (fun z => nomatch z)
      | some h =>
        obtain ⟨e1, e2, e3⟩ := only b h q
        subst e1 e3
        have h1 := (hok' _ _ (un.frzs _ ob _ q)).1
        rw [at_] at e
        injection e with e
        rw [← e]
        exact h1
    | next => exact hr.elim
    | brk => exact hr.elim
    | cont => exact hr.elim
/-- a law, by its terms -/
theorem law_end {l : PySem.W.OpenLaw} {n k : Nat} {q : Program} {loose : List Str} {XP : (Str → Option Value) → Heap → Prop} {YP : World → Heap → Prop} {d : DefRec} {x : Str}
    (hn : l.most = some n) (hn2 : n ≤ sizeLine) (hdf : d.params.defaults = []) (room : Room k callerA) (s : SC) (ds : List DefX) (dl : DefX) (hdl : dl ∈ ds) (hname : dl.dd.name = d.name) (hps : dl.fd.ps = [x]) (htab : (tabOf ds).lookup dl.dd.name = some dl.fd) (hB : ∀ d ∈ ds, defB s d = true)
    (F : ∀ (w : World) (mg : Str → Option Value) (h : Heap), YP w h → h.Ns mainGlobals mg → ∃ K : PySem.W.Frag, K.In h ∧ Facts K mg s ds)
    (pure_ : ∀ ns : List Int, ns.length ≤ n → wC (tabOf ds) k d.name [.fls (ns.map D.int)] (fun _ => none) (fun z _ => z = .bl true) XF) :
    PySem.W.WalkO q loose XP YP l.row.toRowW d [] (fun f vs => PySem.call f vs) := by
  refine Att.attach_call hn hdf fun w s₀ s₁ mg mb fa o pm cd doc a vs ns G Y ho hd hcd hmg hobj hints hlen hg => ?_
  obtain ⟨K, KX, Fa⟩ := F w mg _ Y G.T.g
  obtain ⟨fa', fdt, g, FD, b, _⟩ := Fa.defs dl hdl
  have ef : fa' = fa := by
    rw [hname, hmg] at g
    injection g with g
    injection g with g
    exact g.symm
  subst ef
  have tl : s.tab.lookup dl.dd.name = some dl.fd := by rw [Fa.tab]; exact htab
  have all := fun base : Heap => all_fn (P := l.prog) (w := w) (base := base) Fa hB k dl hdl tl fa' fdt g FD
  rw [hps] at all
  refine enter KX G.T.g G.T.b G.T.builtins G.T.nolimit hg hobj hints (Nat.le_trans hlen hn2) room all (fun u => .of_eq (by rw [b [u] (by rw [hps]; rfl), hps]; rfl)) fun H hH sq => ?_
  refine ⟨by rw [hps]; rfl, fun _ => none, [.fls (ns.map D.int)], _, XF, fun a o h => (nomatch h), .cons (.fls sq ?_) .nil, by rw [Fa.tab, hname]; exact pure_ ns hlen, fun z S' v H' hz e' s' r => ?_, fun _ _ _ _ _ _ h => h.elim⟩
  · clear sq hlen hints
    induction ns with
    | nil => exact .nil
    | cons i r ih => exact .cons (.int i) ih
  · have hz : z = .bl true := hz
    subst hz
    cases r
    rfl
end Pi

/-! PiFacts: from the head's facts to what PiTop asks. -/
namespace Pi
open PySem L2 PyProof.Rows
def isFree (x : Str) : He.Fa → Bool
  | .free y => decide (x = y)
  | _ => false
def isGlo (x : Str) : He.Fa → Bool
  | .glo y => decide (x = y)
  | _ => false
def isExc (x : Str) : He.Fa → Bool
  | .exc y => decide (x = y)
  | _ => false
def isCon (x : Str) : D → He.Fa → Bool
  | .int i, .int y j => decide (x = y) && decide (i = j)
  | .str z, .str y u => decide (x = y) && decide (z = u)
  | _, _ => false
abbrev Kws := List (Nat × List Str × List Str)
def kwpOf (l : List (Str × Kws)) : List (Str × Nat × List Str × List Str) := l.flatMap fun p => p.2.map fun q => (p.1, q.1, q.2.1, q.2.2)
/-- how a def's parameters take what a call gives -/
structure BindOk (d : DefX) (kw : Kws) : Prop where
  p : ∀ (kV doc pm : Value) (an : Option Addr) (cdv ct : Value) (us : List Value), us.length = d.fd.ps.length → bindArgs (PySem.W.fnOf d.dd.name d.dd.qual d.dd.params d.dd.body d.dd.scope .none kV doc pm an cdv ct) ⟨us, []⟩ = pure (d.fd.ps.zip us)
  k : ∀ q ∈ kw, q.1 + q.2.2.length = d.fd.ps.length ∧ (∀ r ∈ q.2.2, r ∈ q.2.1) ∧ ∀ (kV doc pm : Value) (an : Option Addr) (cdv ct : Value) (us ws : List Value), us.length = q.1 → ws.length = q.2.1.length →
    bindArgs (PySem.W.fnOf d.dd.name d.dd.qual d.dd.params d.dd.body d.dd.scope .none kV doc pm an cdv ct) ⟨us, q.2.1.zip ws⟩ = pure (d.fd.ps.zip (us ++ q.2.2.map fun r => ((q.2.1.zip ws).lookup r).getD .none))
def headB (fa : List He.Fa) (s : SC) (ds : List DefX) (kw : List Kws) : Bool :=
  (s.free.all fun x => fa.any (isFree x)) && (s.con.all fun p => fa.any (isCon p.1 p.2)) && (s.exc.all fun x => fa.any (isExc x) && fa.any (isGlo x)) &&
  (ds.all fun d => fa.any (isGlo d.dd.name) && decide (d.dd.at_ = (d.dd.name, none)) && d.dd.dfl.isEmpty && d.dd.kwd.isEmpty) && decide ((ds.map fun d => d.dd.name).Nodup)
theorem inj_of_nodup {α β : Type} {f : α → β} : ∀ {l : List α} {a b : α}, (l.map f).Nodup → a ∈ l → b ∈ l → f a = f b → a = b
  | [], _, _, _, h, _, _ => by cases h
  | x :: l, a, b, nd, ha, hb, e => by
    rw [List.map_cons, List.nodup_cons] at nd
    rcases List.mem_cons.mp ha with h1 | h1
    · rcases List.mem_cons.mp hb with h2 | h2
      · rw [h1, h2]
      · exact absurd (by rw [← h1, e]; exact List.mem_map_of_mem h2) nd.1
    · rcases List.mem_cons.mp hb with h2 | h2
      · exact absurd (by rw [← h2, ← e]; exact List.mem_map_of_mem h1) nd.1
      · exact inj_of_nodup nd.2 h1 h2 e
theorem con_of (X' : True) {K : PySem.W.Frag} {h : Heap} {mg : Str → Option Value} (X : K.In h) (G : h.Ns mainGlobals mg) {x : Str} {d : D} {f : He.Fa} (hi : isCon x d f = true) (ok : f.ok K = true) : ∃ u v, mg x = some u ∧ RelV v u ∧ ∀ H, Rp K mg H v d := by
  unfold isCon at hi
  split at hi
  · simp only [Bool.and_eq_true, decide_eq_true_eq] at hi
    obtain ⟨rfl, rfl⟩ := hi
    obtain ⟨t, e⟩ := He.int_ok X G ok
    exact ⟨_, .int _, e, ⟨t, rfl⟩, fun H => .int _⟩
  · simp only [Bool.and_eq_true, decide_eq_true_eq] at hi
    obtain ⟨rfl, rfl⟩ := hi
    obtain ⟨t, e⟩ := He.str_ok X G ok
    exact ⟨_, .str _, e, ⟨t, rfl⟩, fun H => .str _⟩
  · cases hi
/-- kw: for each def, its keyword calls -/
theorem facts_of {K : PySem.W.Frag} {h : Heap} {mg : Str → Option Value} {fa : List He.Fa} {fn : List He.DefD} {s : SC} {ds : List DefX} {kw : List Kws} (X : K.In h) (G : h.Ns mainGlobals mg) (c : He.SaysD fa fn K)
    (htab : s.tab = tabOf ds) (hfn : fn = ds.map fun d => d.dd) (hkw : s.kwp = kwpOf ((ds.zip kw).map fun p => (p.1.dd.name, p.2))) (hb : headB fa s ds kw = true) (bnd : ∀ p ∈ ds.zip kw, BindOk p.1 p.2) (hlen : kw.length = ds.length) : Facts K mg s ds := by
  have fact : ∀ {f : He.Fa}, f ∈ fa → f.ok K = true := fun {f} hf => by
    obtain ⟨i, hi⟩ := List.mem_iff_getElem?.mp hf
    exact c.fact i hi
  have anyF : ∀ {p : He.Fa → Bool}, fa.any p = true → ∃ f, p f = true ∧ f.ok K = true := fun {p} ha => by
    obtain ⟨f, hf, hp⟩ := List.any_eq_true.mp ha
    exact ⟨f, hp, fact hf⟩
  have glo : ∀ {x : Str}, fa.any (isGlo x) = true → mg x = some (.ref (He.ga K x)) := fun {x} ha => by
    obtain ⟨f, hp, ok⟩ := anyF ha
    unfold isGlo at hp
    split at hp
    · have e := of_decide_eq_true hp
      subst e
      exact He.glo_ok X G ok
    · cases hp
  unfold headB at hb
  simp only [Bool.and_eq_true, decide_eq_true_eq, List.all_eq_true] at hb
  obtain ⟨⟨⟨⟨b1, b2⟩, b3⟩, b4⟩, b5⟩ := hb
  refine ⟨htab, fun x hx => ?_, fun x d hx => ?_, fun x hx => ?_, fun d hd => ?_⟩
  · obtain ⟨f, hp, ok⟩ := anyF (b1 x (by simpa using hx))
    unfold isFree at hp
    split at hp
    · have e := of_decide_eq_true hp
      subst e
      exact He.free_ok X G ok
    · cases hp
  · obtain ⟨f, hp, ok⟩ := anyF (b2 (x, d) (PySem.mem_of_lookup hx))
    exact con_of trivial X G hp ok
  · obtain ⟨h1, h2⟩ := b3 x hx
    obtain ⟨f, hp, ok⟩ := anyF h1
    unfold isExc at hp
    split at hp
    · have e := of_decide_eq_true hp
      subst e
      obtain ⟨q1, q2, q3, q4⟩ := He.exc_ok ok
      exact ⟨_, glo h2, q1, q2, q3, q4⟩
    · cases hp
  · obtain ⟨⟨⟨g1, g2⟩, g3⟩, g4⟩ := b4 d hd
    obtain ⟨i, hi⟩ := List.mem_iff_getElem?.mp (show d.dd ∈ fn by rw [hfn]; exact List.mem_map_of_mem hd)
    obtain ⟨fdt, F⟩ := c.def_ i hi
    have ea : He.fAd K d.dd.at_ = He.ga K d.dd.name := by rw [g2]; rfl
    have e1 : d.dd.dvs K = [] := by unfold He.DefD.dvs; rw [List.isEmpty_iff.mp g3]; rfl
    have e2 : d.dd.kws K = [] := by unfold He.DefD.kws; rw [List.isEmpty_iff.mp g4]; rfl
    rw [ea, e1, e2] at F
    have pick : ∀ q : Kws, (d, q) ∈ ds.zip kw → True := fun _ _ => trivial
    obtain ⟨j, hj⟩ := List.mem_iff_getElem?.mp hd
    have hjl : j < kw.length := by rw [hlen]; exact (List.getElem?_eq_some_iff.mp hj).1
    have hz : (d, kw[j]) ∈ ds.zip kw := List.mem_iff_getElem?.mpr ⟨j, by rw [List.getElem?_zip_eq_some]; exact ⟨hj, List.getElem?_eq_getElem hjl⟩⟩
    have B := bnd _ hz
    obtain ⟨oc, od, dV, kV, doc, pm, an, cdv, ct, osl, rfl, lk, hcd, hD, hK⟩ := F.ex
    have dn : dV = .none := by
      rcases hD with ⟨_, e⟩ | ⟨e, _⟩
      · exact e
      · exact absurd rfl e
    subst dn
    refine ⟨_, _, glo g1, F, B.p kV doc pm an cdv ct, fun n ks rs hm => ?_⟩
    rw [hkw] at hm
    unfold kwpOf at hm
    obtain ⟨p, hp1, hp2⟩ := List.mem_flatMap.mp hm
    obtain ⟨z, hz1, hz2⟩ := List.mem_map.mp hp1
    obtain ⟨q, hq1, hq2⟩ := List.mem_map.mp hp2
    subst hz2
    simp only [Prod.mk.injEq] at hq2
    obtain ⟨en, rfl, rfl, rfl⟩ := hq2
    have ed : z.1 = d := inj_of_nodup b5 (List.of_mem_zip hz1).1 hd en
    have Bz := bnd z hz1
    rw [ed] at Bz
    obtain ⟨q1, q2, q3⟩ := Bz.k q hq1
    exact ⟨q1, q2, q3 kV doc pm an cdv ct⟩
end Pi

/-! PiSimp: what the terms ask, case by case, for rewriting. -/
namespace Pi
open PySem
section
variable {S : Sto} {Q : KE} {q : Bool → Prop} {i j : Int} {x y : Str} {a b : Nat} {xs ys : List D} {c d : Bool} {v w : D}
theorem x_add : bopW .add (.int i) (.int j) S Q = Q (.int (i + j)) S := rfl
theorem x_adds : bopW .add (.str x) (.str y) S Q = (x.length + y.length ≤ sizeLine ∧ Q (.str (x ++ y)) S) := rfl
theorem x_addl : bopW .add (.ref a) (.ref b) S Q = (∃ xs, S a = some (.lst xs) ∧ ∃ ys, S b = some (.lst ys) ∧ xs.length + ys.length ≤ sizeLine ∧ ∀ p, S p = none → Q (.ref p) (put S p (.lst (xs ++ ys)))) := by
  apply propext
  exact ⟨fun ⟨xs, ys, h1, h2, h3⟩ => ⟨xs, h1, ys, h2, h3⟩, fun ⟨xs, h1, ys, h2, h3⟩ => ⟨xs, ys, h1, h2, h3⟩⟩
theorem x_addt : bopW .add (.tup xs) (.tup ys) S Q = (xs.length + ys.length ≤ sizeLine ∧ Q (.tup (xs ++ ys)) S) := rfl
theorem x_sub : bopW .sub (.int i) (.int j) S Q = Q (.int (i - j)) S := rfl
theorem x_mul : bopW .mul (.int i) (.int j) S Q = ((SmallI i ∨ SmallI j ∨ L2.CMulW i j) ∧ Q (.int (i * j)) S) := rfl
theorem x_mult : bopW .mul (.tup xs) (.int i) S Q = (-(2 ^ 63) ≤ i ∧ i ≤ 1000 ∧ xs.length ≤ 1000 ∧ Q (.tup (rep i.toNat xs)) S) := rfl
theorem x_mull : bopW .mul (.ref a) (.int i) S Q = (∃ xs, S a = some (.lst xs) ∧ -(2 ^ 63) ≤ i ∧ i < 2 ^ 63 ∧ xs.length * i.toNat ≤ sizeLine ∧ ∀ p, S p = none → Q (.ref p) (put S p (.lst (rep i.toNat xs)))) := rfl
theorem x_fdv : bopW .fdv (.int i) (.int j) S Q = ((0 < j ∧ (j < 1073741824 ∨ j.natAbs.log2 < 9000)) ∧ Q (.int (i / j)) S) := rfl
theorem x_mod : bopW .mod (.int i) (.int j) S Q = (0 < j ∧ Q (.int (i % j)) S) := rfl
theorem x_pow : bopW .pow (.int i) (.int j) S Q = ((0 ≤ j ∧ j ≤ 1000000 ∧ i.natAbs < 2 ^ 64) ∧ Q (.int (i ^ j.toNat)) S) := rfl
theorem x_auga {r : D → Prop} : augW .add (.int i) (.int j) r = r (.int (i + j)) := rfl
theorem x_augs {r : D → Prop} : augW .sub (.int i) (.int j) r = r (.int (i - j)) := rfl
theorem x_augm {r : D → Prop} : augW .mul (.int i) (.int j) r = ((SmallI i ∨ SmallI j ∨ L2.CMulW i j) ∧ r (.int (i * j))) := rfl
theorem x_eqi : copW .eq (.int i) (.int j) S q = q (decide (i = j)) := rfl
theorem x_eqs : copW .eq (.str x) (.str y) S q = q (decide (x = y)) := rfl
theorem x_eqb : copW .eq (.bl c) (.bl d) S q = q (decide (c = d)) := rfl
theorem x_nei : copW .ne (.int i) (.int j) S q = q (!decide (i = j)) := rfl
theorem x_nes : copW .ne (.str x) (.str y) S q = q (!decide (x = y)) := rfl
theorem x_neb : copW .ne (.bl c) (.bl d) S q = q (!decide (c = d)) := rfl
def eqD (x y : D) (S : Sto) (q : Bool → Prop) : Prop := ∃ d e, PyOf S x d ∧ PyOf S y e ∧ SeqAt.shaped d = true ∧ SeqAt.shaped e = true ∧ q (PyData.eqv d e)
theorem x_eqtt : copW .eq (.tup xs) (.tup ys) S q = eqD (.tup xs) (.tup ys) S q := rfl
theorem x_eqrr : copW .eq (.ref a) (.ref b) S q = eqD (.ref a) (.ref b) S q := rfl
theorem x_eqtr : copW .eq (.tup xs) (.ref b) S q = eqD (.tup xs) (.ref b) S q := rfl
theorem x_eqrt : copW .eq (.ref a) (.tup ys) S q = eqD (.ref a) (.tup ys) S q := rfl
theorem x_eqst : copW .eq (.str x) (.tup ys) S q = eqD (.str x) (.tup ys) S q := rfl
theorem x_eqts : copW .eq (.tup xs) (.str y) S q = eqD (.tup xs) (.str y) S q := rfl
theorem x_nett : copW .ne (.tup xs) (.tup ys) S q = eqD (.tup xs) (.tup ys) S (fun b => q (!b)) := rfl
theorem x_nerr : copW .ne (.ref a) (.ref b) S q = eqD (.ref a) (.ref b) S (fun b => q (!b)) := rfl
theorem x_netr : copW .ne (.tup xs) (.ref b) S q = eqD (.tup xs) (.ref b) S (fun b => q (!b)) := rfl
theorem x_nert : copW .ne (.ref a) (.tup ys) S q = eqD (.ref a) (.tup ys) S (fun b => q (!b)) := rfl
theorem x_nest : copW .ne (.str x) (.tup ys) S q = eqD (.str x) (.tup ys) S (fun b => q (!b)) := rfl
theorem x_nets : copW .ne (.tup xs) (.str y) S q = eqD (.tup xs) (.str y) S (fun b => q (!b)) := rfl
theorem x_lt : copW .lt (.int i) (.int j) S q = q (decide (i < j)) := rfl
theorem x_le : copW .le (.int i) (.int j) S q = q (decide (i ≤ j)) := rfl
theorem x_gt : copW .gt (.int i) (.int j) S q = q (decide (j < i)) := rfl
theorem x_ge : copW .ge (.int i) (.int j) S q = q (decide (j ≤ i)) := rfl
theorem x_ins : copW .isin (.str x) (.str y) S q = ∃ n : Nat, x = ⟨#[n]⟩ ∧ q (decide (n ∈ y.cps.toList)) := rfl
theorem x_isn : copW .is_ v .non S q = q (isNon v) := rfl
theorem x_isnt : copW .isnt v .non S q = q (!isNon v) := rfl
theorem x_ixt : idxW (.tup xs) (.int i) S Q = ∃ v, L2.atI xs i = some v ∧ Q v S := rfl
theorem x_ixl : idxW (.ref a) (.int i) S Q = ∃ xs, S a = some (.lst xs) ∧ ∃ v, L2.atI xs i = some v ∧ Q v S := by
  apply propext
  exact ⟨fun ⟨xs, v, h1, h2, h3⟩ => ⟨xs, h1, v, h2, h3⟩, fun ⟨xs, h1, v, h2, h3⟩ => ⟨xs, v, h1, h2, h3⟩⟩
theorem x_ixd : idxW (.ref a) (.str x) S Q = ∃ kvs, S a = some (.dct kvs) ∧ ∃ v, getK kvs x = some v ∧ Q v S := by
  apply propext
  exact ⟨fun ⟨xs, v, h1, h2, h3⟩ => ⟨xs, h1, v, h2, h3⟩, fun ⟨xs, h1, v, h2, h3⟩ => ⟨xs, v, h1, h2, h3⟩⟩
theorem x_ixs : idxW (.str x) (.int i) S Q = (x.length ≤ sizeLine ∧ ∃ c, L2.atI x.cps.toList i = some c ∧ Q (.str ⟨#[c]⟩) S) := rfl
variable {lo hi : Option Int}
theorem x_slt : slcW (.tup xs) lo hi S Q = Q (.tup (cutD xs lo hi)) S := rfl
theorem x_sll : slcW (.ref a) lo hi S Q = ∃ xs, S a = some (.lst xs) ∧ ∀ p, S p = none → Q (.ref p) (put S p (.lst (cutD xs lo hi))) := rfl
theorem x_sls : slcW (.str x) lo hi S Q = (x.length ≤ sizeLine ∧ Q (.str (L2.cutS x lo hi)) S) := rfl
variable {r : Sto → Prop}
theorem x_std : stoW (.ref a) (.str x) v S r = ∃ kvs, S a = some (.dct kvs) ∧ kvs.length < 1000 ∧ r (put S a (.dct (setK kvs x v))) := rfl
theorem x_stl : stoW (.ref a) (.int i) v S r = ∃ xs, S a = some (.lst xs) ∧ ∃ j, L2.ixN xs.length i = some j ∧ r (put S a (.lst (xs.set j v))) := by
  apply propext
  exact ⟨fun ⟨xs, v, h1, h2, h3⟩ => ⟨xs, h1, v, h2, h3⟩, fun ⟨xs, h1, v, h2, h3⟩ => ⟨xs, v, h1, h2, h3⟩⟩
variable {ts : List Ty}
theorem x_isin : isiW .non ts S q = q false := rfl
theorem x_isis : isiW (.str x) ts S q = q (ts.any (isTy .str)) := by
  apply propext
  exact ⟨fun ⟨t, h, h2⟩ => by cases h; exact h2, fun h => ⟨_, rfl, h⟩⟩
theorem x_isit : isiW (.tup xs) ts S q = q (ts.any (isTy .tuple)) := by
  apply propext
  exact ⟨fun ⟨t, h, h2⟩ => by cases h; exact h2, fun h => ⟨_, rfl, h⟩⟩
theorem x_isii : isiW (.int i) ts S q = q (ts.any (isTy .int)) := by
  apply propext
  exact ⟨fun ⟨t, h, h2⟩ => by cases h; exact h2, fun h => ⟨_, rfl, h⟩⟩
theorem x_isib : isiW (.bl c) ts S q = q (ts.any (isTy .bool)) := by
  apply propext
  exact ⟨fun ⟨t, h, h2⟩ => by cases h; exact h2, fun h => ⟨_, rfl, h⟩⟩
theorem x_isir (h : S a = some (.lst xs)) : isiW (.ref a) ts S q = q (ts.any (isTy .list)) := by
  have e : tyOf S (.ref a) = some .list := by show (match S a with | some (.lst _) => some Ty.list | some (.dct _) => some .dict | none => none) = _; rw [h]
  apply propext
  exact ⟨fun ⟨t, h1, h2⟩ => by rw [e] at h1; cases h1; exact h2, fun h => ⟨_, e, h⟩⟩
theorem x_lens : biW .len [.str x] S Q = (x.length ≤ sizeLine ∧ Q (.int x.length) S) := rfl
theorem x_lent : biW .len [.tup xs] S Q = Q (.int xs.length) S := rfl
theorem x_lenf : biW .len [.fls xs] S Q = Q (.int xs.length) S := rfl
theorem x_lenl : biW .len [.ref a] S Q = ∃ xs, S a = some (.lst xs) ∧ Q (.int xs.length) S := rfl
theorem x_inti : biW .int [.int i] S Q = Q (.int i) S := rfl
theorem x_intb : biW .int [.bl c] S Q = Q (.int (if c then 1 else 0)) S := rfl
theorem x_abs : biW .abs [.int i] S Q = Q (.int (if i < 0 then -i else i)) S := rfl
theorem x_max2 : biW .max [.int i, .int j] S Q = Q (.int (if j > i then j else i)) S := rfl
theorem x_min2 : biW .min [.int i, .int j] S Q = Q (.int (if j < i then j else i)) S := rfl
theorem x_maxl : biW .max [.ref a] S Q = ∃ xs, S a = some (.lst xs) ∧ ∃ ns, intsB xs = some ns ∧ 0 < ns.length ∧ ∀ m, m ∈ ns → (∀ y, y ∈ ns → y ≤ m) → Q (.int m) S := by
  apply propext
  exact ⟨fun ⟨xs, v, h1, h2, h3⟩ => ⟨xs, h1, v, h2, h3⟩, fun ⟨xs, h1, v, h2, h3⟩ => ⟨xs, v, h1, h2, h3⟩⟩
theorem x_minl : biW .min [.ref a] S Q = ∃ xs, S a = some (.lst xs) ∧ ∃ ns, intsB xs = some ns ∧ 0 < ns.length ∧ ∀ m, m ∈ ns → (∀ y, y ∈ ns → m ≤ y) → Q (.int m) S := by
  apply propext
  exact ⟨fun ⟨xs, v, h1, h2, h3⟩ => ⟨xs, h1, v, h2, h3⟩, fun ⟨xs, h1, v, h2, h3⟩ => ⟨xs, v, h1, h2, h3⟩⟩
theorem x_mxd : mxdW (.ref a) v S Q = ∃ xs, S a = some (.lst xs) ∧ ∃ ns, intsB xs = some ns ∧ (ns = [] → Q v S) ∧ (ns ≠ [] → ∀ m, m ∈ ns → (∀ y, y ∈ ns → y ≤ m) → Q (.int m) S) := by
  apply propext
  exact ⟨fun ⟨xs, v, h1, h2, h3⟩ => ⟨xs, h1, v, h2, h3⟩, fun ⟨xs, h1, v, h2, h3⟩ => ⟨xs, v, h1, h2, h3⟩⟩
theorem x_tupl : biW .tuple [.ref a] S Q = ∃ xs, S a = some (.lst xs) ∧ Q (.tup xs) S := rfl
theorem x_tupt : biW .tuple [.tup xs] S Q = Q (.tup xs) S := rfl
theorem x_lisl : biW .list [.ref a] S Q = ∃ xs, S a = some (.lst xs) ∧ ∀ p, S p = none → Q (.ref p) (put S p (.lst xs)) := rfl
theorem x_list : biW .list [.tup xs] S Q = ∀ p, S p = none → Q (.ref p) (put S p (.lst xs)) := rfl
theorem x_liss : biW .list [.str x] S Q = (x.length ≤ 1000 ∧ ∀ p, S p = none → Q (.ref p) (put S p (.lst (x.cps.toList.map fun c => .str ⟨#[c]⟩)))) := rfl
theorem x_all : biW .all [.ref a] S Q = ∃ xs, S a = some (.lst xs) ∧ ∃ b, allB xs = some b ∧ Q (.bl b) S := by
  apply propext
  exact ⟨fun ⟨xs, v, h1, h2, h3⟩ => ⟨xs, h1, v, h2, h3⟩, fun ⟨xs, h1, v, h2, h3⟩ => ⟨xs, v, h1, h2, h3⟩⟩
theorem x_any : biW .any [.ref a] S Q = ∃ xs, S a = some (.lst xs) ∧ ∃ b, anyB xs = some b ∧ Q (.bl b) S := by
  apply propext
  exact ⟨fun ⟨xs, v, h1, h2, h3⟩ => ⟨xs, h1, v, h2, h3⟩, fun ⟨xs, h1, v, h2, h3⟩ => ⟨xs, v, h1, h2, h3⟩⟩
theorem x_sum : biW .sum [.ref a] S Q = ∃ xs, S a = some (.lst xs) ∧ ∃ ns, intsB xs = some ns ∧ Q (.int ns.sum) S := by
  apply propext
  exact ⟨fun ⟨xs, v, h1, h2, h3⟩ => ⟨xs, h1, v, h2, h3⟩, fun ⟨xs, h1, v, h2, h3⟩ => ⟨xs, v, h1, h2, h3⟩⟩
theorem x_repr : biW .repr [v] S Q = ∃ d, PyOf S v d ∧ d.showable = true ∧ d.hasDict = false ∧ d.depth ≤ 64 ∧ d.shown.length ≤ sizeLine ∧ Q (.str d.shown) S := rfl
theorem x_app : mtW .append (.ref a) [v] S Q = ∃ xs, S a = some (.lst xs) ∧ xs.length < sizeLine ∧ Q .non (put S a (.lst (xs ++ [v]))) := rfl
theorem x_ext : mtW .extend (.ref a) [.ref b] S Q = ∃ xs, S a = some (.lst xs) ∧ ∃ ys, S b = some (.lst ys) ∧ xs.length + ys.length ≤ sizeLine ∧ Q .non (put S a (.lst (xs ++ ys))) := by
  apply propext
  exact ⟨fun ⟨xs, v, h1, h2, h3⟩ => ⟨xs, h1, v, h2, h3⟩, fun ⟨xs, h1, v, h2, h3⟩ => ⟨xs, v, h1, h2, h3⟩⟩
theorem x_pop : mtW .pop (.ref a) [] S Q = ∃ xs, S a = some (.lst xs) ∧ ∃ v, xs[xs.length - 1]? = some v ∧ Q v (put S a (.lst xs.dropLast)) := by
  apply propext
  exact ⟨fun ⟨xs, v, h1, h2, h3⟩ => ⟨xs, h1, v, h2, h3⟩, fun ⟨xs, h1, v, h2, h3⟩ => ⟨xs, v, h1, h2, h3⟩⟩
theorem x_popa : mtW .popAt (.ref a) [.int i] S Q = ∃ xs, S a = some (.lst xs) ∧ ∃ k v, -(2 ^ 63) ≤ i ∧ i < 2 ^ 63 ∧ seqIndex? i xs.length = some k ∧ xs[k]? = some v ∧ Q v (put S a (.lst (xs.eraseIdx k))) := by
  apply propext
  exact ⟨fun ⟨xs, k, v, h1, h2⟩ => ⟨xs, h1, k, v, h2⟩, fun ⟨xs, h1, k, v, h2⟩ => ⟨xs, k, v, h1, h2⟩⟩
theorem x_join : mtW .join (.str x) [.ref a] S Q = ∃ xs, S a = some (.lst xs) ∧ ∃ ys, textsB xs = some ys ∧ (ys.map Str.length).sum + x.length * ys.length ≤ 16777216 ∧ Q (.str (Txt.join x ys)) S := by
  apply propext
  exact ⟨fun ⟨xs, v, h1, h2, h3⟩ => ⟨xs, h1, v, h2, h3⟩, fun ⟨xs, h1, v, h2, h3⟩ => ⟨xs, v, h1, h2, h3⟩⟩
theorem x_rcva : rcvW .append (.ref a) S = ∃ xs, S a = some (.lst xs) := rfl
theorem x_rcve : rcvW .extend (.ref a) S = ∃ xs, S a = some (.lst xs) := rfl
theorem x_rcvp : rcvW .pop (.ref a) S = ∃ xs, S a = some (.lst xs) := rfl
theorem x_rcvq : rcvW .popAt (.ref a) S = ∃ xs, S a = some (.lst xs) := rfl
theorem x_rcvj : rcvW .join (.str x) S = True := rfl
variable {s : Src → Prop} {z : List D → (Sto → Prop) → Prop}
theorem x_srct : srcW (.tup xs) S s = s ⟨xs, fun _ => True⟩ := rfl
theorem x_srcf : srcW (.fls xs) S s = s ⟨xs, fun _ => True⟩ := rfl
theorem x_srcs : srcW (.str x) S s = s ⟨x.cps.toList.map fun c => .str ⟨#[c]⟩, fun _ => True⟩ := rfl
theorem x_srcl : srcW (.ref a) S s = ∃ xs, S a = some (.lst xs) ∧ s ⟨xs, fun S' => IsL S' a xs⟩ := rfl
theorem x_seqt : seqW (.tup xs) S z = z xs fun _ => True := rfl
theorem x_seql : seqW (.ref a) S z = ∃ xs, S a = some (.lst xs) ∧ z xs fun S' => IsL S' a xs := rfl
theorem x_enu : enuW (.ref a) S s = ∃ xs, S a = some (.lst xs) ∧ s ⟨numbered 0 xs, fun S' => IsL S' a xs⟩ := rfl
theorem x_enut : enuW (.tup xs) S s = s ⟨numbered 0 xs, fun _ => True⟩ := rfl
theorem x_zipl : zipW (.ref a) (.ref b) S s = ∃ xs, S a = some (.lst xs) ∧ ∃ ys, S b = some (.lst ys) ∧ s ⟨zipped xs ys, fun S' => IsL S' a xs ∧ IsL S' b ys⟩ := by
  apply propext
  exact ⟨fun ⟨xs, v, h1, h2, h3⟩ => ⟨xs, h1, v, h2, h3⟩, fun ⟨xs, h1, v, h2, h3⟩ => ⟨xs, v, h1, h2, h3⟩⟩
theorem x_zipt : zipW (.tup xs) (.tup ys) S s = s ⟨zipped xs ys, fun _ => True⟩ := rfl
theorem x_rng1 : rngW [.int j] s = (Big j ∧ s ⟨intsF 0 j.toNat, fun _ => True⟩) := rfl
theorem x_rng2 : rngW [.int i, .int j] s = ((Big i ∧ Big j) ∧ s ⟨intsF i (j - i).toNat, fun _ => True⟩) := rfl
variable {φ : Fr} {p : Fr → Prop} {n : Nat} {tg : List Nat}
theorem x_tg1 : tgW [n] false v S φ p = p (φ.set n (some v)) := by
  apply propext
  exact ⟨fun ⟨j, e, h⟩ => by cases e; exact h, fun h => ⟨n, rfl, h⟩⟩
theorem x_tgt : tgW tg true (.tup xs) S φ p = (xs.length = tg.length ∧ p (setF φ tg xs)) := by
  apply propext
  exact ⟨fun ⟨ys, e, h⟩ => by rcases e with e | ⟨a, e, _⟩ <;> cases e; exact h, fun h => ⟨xs, .inl rfl, h⟩⟩
theorem x_tgl : tgW tg true (.ref a) S φ p = ∃ xs, S a = some (.lst xs) ∧ xs.length = tg.length ∧ p (setF φ tg xs) := by
  apply propext
  exact ⟨fun ⟨ys, e, h⟩ => by rcases e with e | ⟨a, e, g⟩ <;> cases e; exact ⟨ys, g, h⟩, fun ⟨xs, g, h⟩ => ⟨xs, .inr ⟨a, rfl, g⟩, h⟩⟩
theorem x_var {C : CallT} {E : XE} : wE C (.var n) φ S Q E = ∃ d, φ[n]? = some (some d) ∧ Q d S := rfl
theorem x_put : put S a o a = some o := put_same
theorem x_puto {o : O} (h : ¬ b = a) : put S a o b = S b := put_ne h
theorem x_puto' {o : O} (h : ¬ a = b) : put S a o b = S b := put_ne (Ne.symm h)
theorem x_ex {α : Type} {u : α} {p : α → Prop} : (∃ t, some u = some t ∧ p t) = p u := by
  apply propext
  exact ⟨fun ⟨t, e, h⟩ => by cases e; exact h, fun h => ⟨u, rfl, h⟩⟩
theorem x_exv {u : D} {p : D → Prop} : (∃ t, some (some u) = some (some t) ∧ p t) = p u := by
  apply propext
  exact ⟨fun ⟨t, e, h⟩ => by cases e; exact h, fun h => ⟨u, rfl, h⟩⟩
theorem x_exl {us : List D} {p : List D → Prop} : (∃ t, some (O.lst us) = some (O.lst t) ∧ p t) = p us := by
  apply propext
  exact ⟨fun ⟨t, e, h⟩ => by cases e; exact h, fun h => ⟨us, rfl, h⟩⟩
theorem x_exl0 {us : List D} : (∃ t, some (O.lst us) = some (O.lst t)) = True := by
  apply propext
  exact ⟨fun _ => trivial, fun _ => ⟨us, rfl⟩⟩
theorem x_exd {us : List (Str × D)} {p : List (Str × D) → Prop} : (∃ t, some (O.dct us) = some (O.dct t) ∧ p t) = p us := by
  apply propext
  exact ⟨fun ⟨t, e, h⟩ => by cases e; exact h, fun h => ⟨us, rfl, h⟩⟩
theorem x_exb {u : Bool} {p : Bool → Prop} : (∃ t, D.bl u = D.bl t ∧ p t) = p u := by
  apply propext
  exact ⟨fun ⟨t, e, h⟩ => by cases e; exact h, fun h => ⟨u, rfl, h⟩⟩
theorem x_exi {u : Int} {p : Int → Prop} : (∃ t, D.int u = D.int t ∧ p t) = p u := by
  apply propext
  exact ⟨fun ⟨t, e, h⟩ => by cases e; exact h, fun h => ⟨u, rfl, h⟩⟩
theorem x_dec {P : Prop} [Decidable P] {α : Prop} {β : Prop} : (if decide P = true then α else β) = if P then α else β := by
  by_cases h : P
  · simp [h]
  · simp [h]
theorem x_decf {P : Prop} [Decidable P] {α : Prop} {β : Prop} : (if decide P = false then α else β) = if P then β else α := by
  by_cases h : P
  · simp [h]
  · simp [h]
theorem x_ndec {P : Prop} [Decidable P] {α : Prop} {β : Prop} : (if (!decide P) = true then α else β) = if P then β else α := by
  by_cases h : P
  · simp [h]
  · simp [h]
theorem x_ndecf {P : Prop} [Decidable P] {α : Prop} {β : Prop} : (if (!decide P) = false then α else β) = if P then α else β := by
  by_cases h : P
  · simp [h]
  · simp [h]
theorem x_ty_str_str : [Ty.str].any (isTy Ty.str) = true := rfl
theorem x_ty_str_tuple : [Ty.tuple].any (isTy Ty.str) = false := rfl
theorem x_ty_str_int : [Ty.int].any (isTy Ty.str) = false := rfl
theorem x_ty_str_bool : [Ty.bool].any (isTy Ty.str) = false := rfl
theorem x_ty_str_list : [Ty.list].any (isTy Ty.str) = false := rfl
theorem x_ty_str_dict : [Ty.dict].any (isTy Ty.str) = false := rfl
theorem x_ty_str_list_tuple : [Ty.list, Ty.tuple].any (isTy Ty.str) = false := rfl
theorem x_ty_str_tuple_list : [Ty.tuple, Ty.list].any (isTy Ty.str) = false := rfl
theorem x_ty_str_str_tuple : [Ty.str, Ty.tuple].any (isTy Ty.str) = true := rfl
theorem x_ty_str_tuple_str : [Ty.tuple, Ty.str].any (isTy Ty.str) = true := rfl
theorem x_ty_str_int_bool : [Ty.int, Ty.bool].any (isTy Ty.str) = false := rfl
theorem x_ty_str_bool_int : [Ty.bool, Ty.int].any (isTy Ty.str) = false := rfl
theorem x_ty_str_str_int : [Ty.str, Ty.int].any (isTy Ty.str) = true := rfl
theorem x_ty_str_int_str : [Ty.int, Ty.str].any (isTy Ty.str) = true := rfl
theorem x_ty_tuple_str : [Ty.str].any (isTy Ty.tuple) = false := rfl
theorem x_ty_tuple_tuple : [Ty.tuple].any (isTy Ty.tuple) = true := rfl
theorem x_ty_tuple_int : [Ty.int].any (isTy Ty.tuple) = false := rfl
theorem x_ty_tuple_bool : [Ty.bool].any (isTy Ty.tuple) = false := rfl
theorem x_ty_tuple_list : [Ty.list].any (isTy Ty.tuple) = false := rfl
theorem x_ty_tuple_dict : [Ty.dict].any (isTy Ty.tuple) = false := rfl
theorem x_ty_tuple_list_tuple : [Ty.list, Ty.tuple].any (isTy Ty.tuple) = true := rfl
theorem x_ty_tuple_tuple_list : [Ty.tuple, Ty.list].any (isTy Ty.tuple) = true := rfl
theorem x_ty_tuple_str_tuple : [Ty.str, Ty.tuple].any (isTy Ty.tuple) = true := rfl
theorem x_ty_tuple_tuple_str : [Ty.tuple, Ty.str].any (isTy Ty.tuple) = true := rfl
theorem x_ty_tuple_int_bool : [Ty.int, Ty.bool].any (isTy Ty.tuple) = false := rfl
theorem x_ty_tuple_bool_int : [Ty.bool, Ty.int].any (isTy Ty.tuple) = false := rfl
theorem x_ty_tuple_str_int : [Ty.str, Ty.int].any (isTy Ty.tuple) = false := rfl
theorem x_ty_tuple_int_str : [Ty.int, Ty.str].any (isTy Ty.tuple) = false := rfl
theorem x_ty_int_str : [Ty.str].any (isTy Ty.int) = false := rfl
theorem x_ty_int_tuple : [Ty.tuple].any (isTy Ty.int) = false := rfl
theorem x_ty_int_int : [Ty.int].any (isTy Ty.int) = true := rfl
theorem x_ty_int_bool : [Ty.bool].any (isTy Ty.int) = false := rfl
theorem x_ty_int_list : [Ty.list].any (isTy Ty.int) = false := rfl
theorem x_ty_int_dict : [Ty.dict].any (isTy Ty.int) = false := rfl
theorem x_ty_int_list_tuple : [Ty.list, Ty.tuple].any (isTy Ty.int) = false := rfl
theorem x_ty_int_tuple_list : [Ty.tuple, Ty.list].any (isTy Ty.int) = false := rfl
theorem x_ty_int_str_tuple : [Ty.str, Ty.tuple].any (isTy Ty.int) = false := rfl
theorem x_ty_int_tuple_str : [Ty.tuple, Ty.str].any (isTy Ty.int) = false := rfl
theorem x_ty_int_int_bool : [Ty.int, Ty.bool].any (isTy Ty.int) = true := rfl
theorem x_ty_int_bool_int : [Ty.bool, Ty.int].any (isTy Ty.int) = true := rfl
theorem x_ty_int_str_int : [Ty.str, Ty.int].any (isTy Ty.int) = true := rfl
theorem x_ty_int_int_str : [Ty.int, Ty.str].any (isTy Ty.int) = true := rfl
theorem x_ty_bool_str : [Ty.str].any (isTy Ty.bool) = false := rfl
theorem x_ty_bool_tuple : [Ty.tuple].any (isTy Ty.bool) = false := rfl
theorem x_ty_bool_int : [Ty.int].any (isTy Ty.bool) = true := rfl
theorem x_ty_bool_bool : [Ty.bool].any (isTy Ty.bool) = true := rfl
theorem x_ty_bool_list : [Ty.list].any (isTy Ty.bool) = false := rfl
theorem x_ty_bool_dict : [Ty.dict].any (isTy Ty.bool) = false := rfl
theorem x_ty_bool_list_tuple : [Ty.list, Ty.tuple].any (isTy Ty.bool) = false := rfl
theorem x_ty_bool_tuple_list : [Ty.tuple, Ty.list].any (isTy Ty.bool) = false := rfl
theorem x_ty_bool_str_tuple : [Ty.str, Ty.tuple].any (isTy Ty.bool) = false := rfl
theorem x_ty_bool_tuple_str : [Ty.tuple, Ty.str].any (isTy Ty.bool) = false := rfl
theorem x_ty_bool_int_bool : [Ty.int, Ty.bool].any (isTy Ty.bool) = true := rfl
theorem x_ty_bool_bool_int : [Ty.bool, Ty.int].any (isTy Ty.bool) = true := rfl
theorem x_ty_bool_str_int : [Ty.str, Ty.int].any (isTy Ty.bool) = true := rfl
theorem x_ty_bool_int_str : [Ty.int, Ty.str].any (isTy Ty.bool) = true := rfl
theorem x_ty_list_str : [Ty.str].any (isTy Ty.list) = false := rfl
theorem x_ty_list_tuple : [Ty.tuple].any (isTy Ty.list) = false := rfl
theorem x_ty_list_int : [Ty.int].any (isTy Ty.list) = false := rfl
theorem x_ty_list_bool : [Ty.bool].any (isTy Ty.list) = false := rfl
theorem x_ty_list_list : [Ty.list].any (isTy Ty.list) = true := rfl
theorem x_ty_list_dict : [Ty.dict].any (isTy Ty.list) = false := rfl
theorem x_ty_list_list_tuple : [Ty.list, Ty.tuple].any (isTy Ty.list) = true := rfl
theorem x_ty_list_tuple_list : [Ty.tuple, Ty.list].any (isTy Ty.list) = true := rfl
theorem x_ty_list_str_tuple : [Ty.str, Ty.tuple].any (isTy Ty.list) = false := rfl
theorem x_ty_list_tuple_str : [Ty.tuple, Ty.str].any (isTy Ty.list) = false := rfl
theorem x_ty_list_int_bool : [Ty.int, Ty.bool].any (isTy Ty.list) = false := rfl
theorem x_ty_list_bool_int : [Ty.bool, Ty.int].any (isTy Ty.list) = false := rfl
theorem x_ty_list_str_int : [Ty.str, Ty.int].any (isTy Ty.list) = false := rfl
theorem x_ty_list_int_str : [Ty.int, Ty.str].any (isTy Ty.list) = false := rfl
theorem x_ty_dict_str : [Ty.str].any (isTy Ty.dict) = false := rfl
theorem x_ty_dict_tuple : [Ty.tuple].any (isTy Ty.dict) = false := rfl
theorem x_ty_dict_int : [Ty.int].any (isTy Ty.dict) = false := rfl
theorem x_ty_dict_bool : [Ty.bool].any (isTy Ty.dict) = false := rfl
theorem x_ty_dict_list : [Ty.list].any (isTy Ty.dict) = false := rfl
theorem x_ty_dict_dict : [Ty.dict].any (isTy Ty.dict) = true := rfl
theorem x_ty_dict_list_tuple : [Ty.list, Ty.tuple].any (isTy Ty.dict) = false := rfl
theorem x_ty_dict_tuple_list : [Ty.tuple, Ty.list].any (isTy Ty.dict) = false := rfl
theorem x_ty_dict_str_tuple : [Ty.str, Ty.tuple].any (isTy Ty.dict) = false := rfl
theorem x_ty_dict_tuple_str : [Ty.tuple, Ty.str].any (isTy Ty.dict) = false := rfl
theorem x_ty_dict_int_bool : [Ty.int, Ty.bool].any (isTy Ty.dict) = false := rfl
theorem x_ty_dict_bool_int : [Ty.bool, Ty.int].any (isTy Ty.dict) = false := rfl
theorem x_ty_dict_str_int : [Ty.str, Ty.int].any (isTy Ty.dict) = false := rfl
theorem x_ty_dict_int_str : [Ty.int, Ty.str].any (isTy Ty.dict) = false := rfl
end
end Pi

namespace PiLaw
open PySem PySem.Spec PyProof.Rows L2 Pi
def f_is_number : FD := ⟨["thing"], 1, (.cons (.ret (.boo true (.cons (.isi (.var 0) [.int]) (.cons (.inv (.isi (.var 0) [.bool])) .nil)))) .nil)⟩
def f_is_name : FD := ⟨["thing"], 2, (.cons (.ret (.boo true (.cons (.isi (.var 0) [.str]) (.cons (.chn .le .le (.lit (.int 1)) (.bui .len (.cons (.var 0) .nil)) (.glo "LONGEST" (.int 3))) (.cons (.bui .all (.cons (.lc (.cmp .isin (.var 1) (.glo "LETTERS" (.str "abcdefghijklmnopqrstuvwxyz"))) [1] [1] false (.of (.var 0)) .nil) .nil)) .nil))))) .nil)⟩
def f_has_form : FD := ⟨["thing", "deep"], 3, (.cons (.iff (.cal "is_name" (.cons (.var 0) .nil)) (.cons (.ret (.lit (.bl true))) .nil) .nil) (.cons (.iff (.boo false (.cons (.inv (.isi (.var 0) [.tuple])) (.cons (.cmp .eq (.var 1) (.lit (.int 0))) (.cons (.inv (.chn .le .le (.lit (.int 2)) (.bui .len (.cons (.var 0) .nil)) (.glo "MOST_ITEMS" (.int 8)))) .nil)))) (.cons (.ret (.lit (.bl false))) .nil) .nil) (.cons (.ret (.boo true (.cons (.cal "is_name" (.cons (.idx (.var 0) (.neg (.lit (.int 1)))) .nil)) (.cons (.bui .all (.cons (.lc (.cal "has_form" (.cons (.var 2) (.cons (.bin .sub (.var 1) (.lit (.int 1))) .nil))) [2] [2] false (.of (.slc (.var 0) .nil (.cons (.neg (.lit (.int 1))) .nil))) .nil) .nil)) .nil)))) .nil)))⟩
def f_inner_params : FD := ⟨["kind"], 1, (.cons (.ret (.ife (.isi (.var 0) [.str]) (.tup .nil) (.slc (.var 0) .nil (.cons (.neg (.lit (.int 1))) .nil)))) .nil)⟩
def f_inner_end : FD := ⟨["kind"], 1, (.cons (.ret (.ife (.isi (.var 0) [.str]) (.var 0) (.idx (.var 0) (.neg (.lit (.int 1)))))) .nil)⟩
def f_inner_names : FD := ⟨["kind"], 3, (.cons (.iff (.isi (.var 0) [.str]) (.cons (.ret (.tup (.cons (.var 0) .nil))) .nil) .nil) (.cons (.ret (.bui .tuple (.cons (.lcc (.var 2) [1, 2] [1] false (.of (.var 0)) [2] [2] false (.of (.cal "inner_names" (.cons (.var 1) .nil)))) .nil))) .nil))⟩
def f_is_kind : FD := ⟨["thing"], 1, (.cons (.ret (.boo true (.cons (.cal "has_form" (.cons (.var 0) (.cons (.glo "MOST_DEEP" (.int 4)) .nil))) (.cons (.cmp .le (.bui .len (.cons (.cal "inner_names" (.cons (.var 0) .nil)) .nil)) (.glo "MOST_PLACES" (.int 14))) .nil)))) .nil)⟩
def f_need_kind : FD := ⟨["kind"], 1, (.cons (.iff (.inv (.cal "is_kind" (.cons (.var 0) .nil))) (.cons (.rai "BadKind" (.cons (.lit (.str "not a kind")) .nil)) .nil) .nil) .nil)⟩
def f_hand_below : FD := ⟨["hand", "param"], 2, (.cons (.ret (.tup (.star (.var 0) (.star (.cal "inner_params" (.cons (.var 1) .nil)) .nil)))) .nil)⟩
def f_is_head : FD := ⟨["hand", "want", "thing"], 4, (.cons (.iff (.boo false (.cons (.inv (.isi (.var 2) [.tuple])) (.cons (.cmp .eq (.bui .len (.cons (.var 2) .nil)) (.lit (.int 0))) (.cons (.inv (.cal "is_number" (.cons (.idx (.var 2) (.lit (.int 0))) .nil))) (.cons (.inv (.chn .le .lt (.lit (.int 0)) (.idx (.var 2) (.lit (.int 0))) (.bui .len (.cons (.var 0) .nil)))) .nil))))) (.cons (.ret (.lit (.bl false))) .nil) .nil) (.cons (.asg [3] false (.idx (.var 0) (.idx (.var 2) (.lit (.int 0))))) (.cons (.ret (.boo true (.cons (.cmp .eq (.cal "inner_end" (.cons (.var 3) .nil)) (.var 1)) (.cons (.cmp .eq (.bui .len (.cons (.var 2) .nil)) (.bin .add (.bui .len (.cons (.cal "inner_params" (.cons (.var 3) .nil)) .nil)) (.lit (.int 1)))) .nil)))) .nil)))⟩
def f_is_term : FD := ⟨["hand", "want", "thing"], 5, (.cons (.iff (.inv (.cal "is_head" (.cons (.var 0) (.cons (.var 1) (.cons (.var 2) .nil))))) (.cons (.ret (.lit (.bl false))) .nil) .nil) (.cons (.for_ [3, 4] true (.zip (.cal "inner_params" (.cons (.idx (.var 0) (.idx (.var 2) (.lit (.int 0)))) .nil)) (.slc (.var 2) (.cons (.lit (.int 1)) .nil) .nil)) (.cons (.iff (.inv (.cal "is_term" (.cons (.cal "hand_below" (.cons (.var 0) (.cons (.var 3) .nil))) (.cons (.cal "inner_end" (.cons (.var 3) .nil)) (.cons (.var 4) .nil))))) (.cons (.ret (.lit (.bl false))) .nil) .nil) .nil)) (.cons (.ret (.lit (.bl true))) .nil)))⟩
def f_is_inner_program : FD := ⟨["kind", "thing"], 2, (.cons (.ret (.cal "is_term" (.cons (.cal "inner_params" (.cons (.var 0) .nil)) (.cons (.cal "inner_end" (.cons (.var 0) .nil)) (.cons (.var 1) .nil))))) .nil)⟩
def f_is_program : FD := ⟨["kind", "thing"], 2, (.cons (.exp (.cal "need_kind" (.cons (.var 0) .nil))) (.cons (.ret (.cal "is_inner_program" (.cons (.var 0) (.cons (.var 1) .nil)))) .nil))⟩
def f_need_program : FD := ⟨["kind", "program"], 2, (.cons (.exp (.cal "need_kind" (.cons (.var 0) .nil))) (.cons (.iff (.inv (.cal "is_inner_program" (.cons (.var 0) (.cons (.var 1) .nil)))) (.cons (.rai "BadProgram" (.cons (.lit (.str "not a program of the kind")) .nil)) .nil) .nil) .nil))⟩
def f_terms_in : FD := ⟨["term"], 2, (.cons (.ret (.bin .add (.lit (.int 1)) (.bui .sum (.cons (.lc (.cal "terms_in" (.cons (.var 1) .nil)) [1] [1] false (.of (.slc (.var 0) (.cons (.lit (.int 1)) .nil) .nil)) .nil) .nil)))) .nil)⟩
def f_size_of : FD := ⟨["kind", "program"], 2, (.cons (.exp (.cal "need_program" (.cons (.var 0) (.cons (.var 1) .nil)))) (.cons (.ret (.cal "terms_in" (.cons (.var 1) .nil))) .nil))⟩
def f_deep_in : FD := ⟨["term"], 2, (.cons (.ret (.bin .add (.lit (.int 1)) (.mxd (.lc (.cal "deep_in" (.cons (.var 1) .nil)) [1] [1] false (.of (.slc (.var 0) (.cons (.lit (.int 1)) .nil) .nil)) .nil) (.lit (.int 0))))) .nil)⟩
def f_depth_of : FD := ⟨["kind", "program"], 2, (.cons (.exp (.cal "need_program" (.cons (.var 0) (.cons (.var 1) .nil)))) (.cons (.ret (.cal "deep_in" (.cons (.var 1) .nil))) .nil))⟩
def f_paths_in : FD := ⟨["term"], 5, (.cons (.asg [1] false (.lst (.cons (.tup .nil) .nil))) (.cons (.for_ [2, 3] true (.enu (.slc (.var 0) (.cons (.lit (.int 1)) .nil) .nil)) (.cons (.exp (.met .extend (.var 1) (.cons (.lc (.tup (.cons (.var 2) (.star (.var 4) .nil))) [4] [4] false (.of (.cal "paths_in" (.cons (.var 3) .nil))) .nil) .nil))) .nil)) (.cons (.ret (.var 1)) .nil)))⟩
def f_paths : FD := ⟨["kind", "program"], 2, (.cons (.exp (.cal "need_program" (.cons (.var 0) (.cons (.var 1) .nil)))) (.cons (.ret (.cal "paths_in" (.cons (.var 1) .nil))) .nil))⟩
def f_is_row : FD := ⟨["thing"], 2, (.cons (.ret (.boo true (.cons (.isi (.var 0) [.tuple]) (.cons (.bui .all (.cons (.lc (.cal "is_number" (.cons (.var 1) .nil)) [1] [1] false (.of (.var 0)) .nil) .nil)) .nil)))) .nil)⟩
def f_found_at : FD := ⟨["kind", "draft", "path"], 8, (.cons (.par [4, 5, 6] (.cons (.cal "inner_params" (.cons (.var 0) .nil)) (.cons (.cal "inner_end" (.cons (.var 0) .nil)) (.cons (.var 1) .nil)))) (.cons (.for_ [3] false (.of (.var 2)) (.cons (.iff (.boo false (.cons (.cmp .is_ (.var 6) (.lit .non)) (.cons (.inv (.chn .le .lt (.lit (.int 0)) (.var 3) (.bin .sub (.bui .len (.cons (.var 6) .nil)) (.lit (.int 1))))) .nil))) (.cons (.ret (.lit .non)) .nil) .nil) (.cons (.asg [7] false (.idx (.cal "inner_params" (.cons (.idx (.var 4) (.idx (.var 6) (.lit (.int 0)))) .nil)) (.var 3))) (.cons (.par [4, 5, 6] (.cons (.cal "hand_below" (.cons (.var 4) (.cons (.var 7) .nil))) (.cons (.cal "inner_end" (.cons (.var 7) .nil)) (.cons (.idx (.var 6) (.bin .add (.var 3) (.lit (.int 1)))) .nil)))) .nil)))) (.cons (.ret (.tup (.cons (.var 4) (.cons (.var 5) (.cons (.var 6) .nil))))) .nil)))⟩
def f_need_path : FD := ⟨["kind", "program", "path"], 4, (.cons (.asg [3] false (.ife (.cal "is_row" (.cons (.var 2) .nil)) (.cal "found_at" (.cons (.var 0) (.cons (.var 1) (.cons (.var 2) .nil)))) (.lit .non))) (.cons (.iff (.cmp .is_ (.var 3) (.lit .non)) (.cons (.rai "BadPath" (.cons (.lit (.str "not a path to a term of the program")) .nil)) .nil) .nil) (.cons (.ret (.var 3)) .nil)))⟩
def f_hand_at : FD := ⟨["kind", "program", "path"], 3, (.cons (.exp (.cal "need_program" (.cons (.var 0) (.cons (.var 1) .nil)))) (.cons (.ret (.idx (.cal "need_path" (.cons (.var 0) (.cons (.var 1) (.cons (.var 2) .nil)))) (.lit (.int 0)))) .nil))⟩
def f__law_begun : FD := ⟨["_law_script"], 3, (.cons (.asg [1] false (.lc (.bin .sub (.bui .abs (.cons (.var 2) .nil)) (.bin .pow (.lit (.int 10)) (.lit (.int 18)))) [2] [2] false (.of (.var 0)) (.cons (.cmp .ge (.bui .abs (.cons (.var 2) .nil)) (.bin .pow (.lit (.int 10)) (.lit (.int 18)))) .nil))) (.cons (.ret (.dis ["large", "rest", "cells", "turn"] (.cons (.var 1) (.cons (.lit (.int 0)) (.cons (.lc (.bui .abs (.cons (.var 2) .nil)) [2] [2] false (.of (.var 0)) .nil) (.cons (.lit (.int 0)) .nil)))))) .nil))⟩
def f__law_mixed : FD := ⟨["_law_draw"], 6, (.cons (.sto (.var 0) (.lit (.str "turn")) (.bin .add (.idx (.var 0) (.lit (.str "turn"))) (.lit (.int 1)))) (.cons (.par [2, 3] (.cons (.bui .int (.cons (.idx (.var 0) (.lit (.str "turn"))) .nil)) (.cons (.lit (.int 0)) .nil))) (.cons (.for_ [1] false (.of (.lst (.cons (.lit (.int 2147483629)) (.cons (.lit (.int 2147483587)) (.cons (.lit (.int 2147483579)) .nil))))) (.cons (.asg [4] false (.bin .mod (.bin .add (.bin .mul (.var 2) (.lit (.int 69621))) (.bin .fdv (.var 1) (.lit (.int 7)))) (.var 1))) (.cons (.for_ [5] false (.of (.idx (.var 0) (.lit (.str "cells")))) (.cons (.asg [4] false (.bin .mod (.bin .add (.bin .mul (.var 4) (.lit (.int 48271))) (.bui .int (.cons (.var 5) .nil))) (.var 1))) .nil)) (.cons (.asg [3] false (.bin .add (.bin .mul (.var 3) (.lit (.int 2147483647))) (.bin .mod (.bin .pow (.var 4) (.lit (.int 5))) (.var 1)))) .nil)))) (.cons (.ret (.var 3)) .nil))))⟩
def f__law_take : FD := ⟨["_law_draw", "_law_amount"], 3, (.cons (.iff (.cmp .eq (.idx (.var 0) (.lit (.str "rest"))) (.lit (.int 0))) (.cons (.sto (.var 0) (.lit (.str "rest")) (.ife (.cmp .ne (.idx (.var 0) (.lit (.str "large"))) (.lst .nil)) (.met .popAt (.idx (.var 0) (.lit (.str "large"))) (.cons (.lit (.int 0)) .nil)) (.cal "_law_mixed" (.cons (.var 0) .nil)))) .nil) .nil) (.cons (.asg [2] false (.bin .mod (.bui .int (.cons (.idx (.var 0) (.lit (.str "rest"))) .nil)) (.var 1))) (.cons (.sto (.var 0) (.lit (.str "rest")) (.bin .fdv (.bui .int (.cons (.idx (.var 0) (.lit (.str "rest"))) .nil)) (.var 1))) (.cons (.ret (.var 2)) .nil))))⟩
def f__law_pick : FD := ⟨["_law_draw", "_law_some"], 2, (.cons (.ret (.idx (.var 1) (.cal "_law_take" (.cons (.var 0) (.cons (.bui .len (.cons (.var 1) .nil)) .nil))))) .nil)⟩
def f__law_shuffled : FD := ⟨["_law_draw", "_law_some"], 4, (.cons (.par [2, 3] (.cons (.bui .list (.cons (.var 1) .nil)) (.cons (.lst .nil) .nil))) (.cons (.whl (.cmp .ne (.var 2) (.lst .nil)) (.cons (.exp (.met .append (.var 3) (.cons (.met .popAt (.var 2) (.cons (.cal "_law_take" (.cons (.var 0) (.cons (.bui .len (.cons (.var 2) .nil)) .nil))) .nil)) .nil))) .nil)) (.cons (.ret (.var 3)) .nil)))⟩
def f__law_repeated : FD := ⟨["_law_many"], 3, (.cons (.asg [1] false (.tup (.cons (.lit (.int 1)) .nil))) (.cons (.for_ [2] false (.rng (.cons (.var 0) .nil)) (.cons (.asg [1] false (.tup (.cons (.lit (.int 0)) (.cons (.var 1) .nil)))) .nil)) (.cons (.ret (.var 1)) .nil)))⟩
def f__law_numbers_right : FD := ⟨["_law_draw", "_law_a"], 6, (.cons (.par [3, 4] (.cons (.tup (.cons (.tup (.cons (.var 1) (.cons (.var 1) .nil))) (.cons (.var 1) (.cons (.var 1) .nil)))) (.cons (.cal "_law_take" (.cons (.var 0) (.cons (.lit (.int 25)) .nil))) .nil))) (.cons (.asg [2] false (.cal "_law_repeated" (.cons (.var 4) .nil))) (.cons (.iff (.boo false (.cons (.inv (.cal "is_program" (.cons (.var 3) (.cons (.var 2) .nil)))) (.cons (.cmp .ne (.lst (.cons (.cal "size_of" (.cons (.var 3) (.cons (.var 2) .nil))) (.cons (.cal "depth_of" (.cons (.var 3) (.cons (.var 2) .nil))) .nil))) (.lst (.cons (.bin .add (.var 4) (.lit (.int 1))) (.cons (.bin .add (.var 4) (.lit (.int 1))) .nil)))) .nil))) (.cons (.ret (.lit (.bl false))) .nil) .nil) (.cons (.iff (.boo false (.cons (.cmp .ne (.cal "paths" (.cons (.var 3) (.cons (.var 2) .nil))) (.lc (.bin .mul (.tup (.cons (.lit (.int 0)) .nil)) (.var 5)) [5] [5] false (.rng (.cons (.bin .add (.var 4) (.lit (.int 1))) .nil)) .nil)) (.cons (.cmp .ne (.cal "hand_at" (.cons (.var 3) (.cons (.var 2) (.cons (.bin .mul (.tup (.cons (.lit (.int 0)) .nil)) (.var 4)) .nil)))) (.tup (.cons (.tup (.cons (.var 1) (.cons (.var 1) .nil))) (.cons (.var 1) .nil)))) .nil))) (.cons (.ret (.lit (.bl false))) .nil) .nil) (.cons (.ret (.boo true (.cons (.inv (.cal "is_program" (.cons (.var 3) (.cons (.tup (.cons (.lit (.int 0)) (.cons (.var 2) (.cons (.var 2) .nil)))) .nil)))) (.cons (.inv (.cal "is_program" (.cons (.var 3) (.cons (.tup (.cons (.lit (.int 2)) .nil)) .nil)))) (.cons (.inv (.cal "is_program" (.cons (.var 3) (.cons (.tup (.cons (.lit (.int 0)) .nil)) .nil)))) .nil))))) .nil)))))⟩
def f__law_handed_right : FD := ⟨["_law_a", "_law_b", "_law_c"], 6, (.cons (.asg [3] false (.tup (.cons (.tup (.cons (.tup (.cons (.var 0) (.cons (.var 1) .nil))) (.cons (.var 2) .nil))) (.cons (.var 1) (.cons (.var 2) .nil))))) (.cons (.iff (.boo false (.cons (.inv (.cal "is_program" (.cons (.var 3) (.cons (.tup (.cons (.lit (.int 0)) (.cons (.tup (.cons (.lit (.int 1)) .nil)) .nil))) .nil)))) (.cons (.cmp .ne (.cal "hand_at" (.cons (.var 3) (.cons (.tup (.cons (.lit (.int 0)) (.cons (.tup (.cons (.lit (.int 1)) .nil)) .nil))) (.cons (.tup (.cons (.lit (.int 0)) .nil)) .nil)))) (.tup (.cons (.tup (.cons (.tup (.cons (.var 0) (.cons (.var 1) .nil))) (.cons (.var 2) .nil))) (.cons (.var 1) (.cons (.var 0) .nil))))) .nil))) (.cons (.ret (.lit (.bl false))) .nil) .nil) (.cons (.iff (.boo false (.cons (.cmp .ne (.cal "is_program" (.cons (.var 3) (.cons (.tup (.cons (.lit (.int 0)) (.cons (.tup (.cons (.lit (.int 2)) .nil)) .nil))) .nil))) (.cmp .eq (.var 0) (.var 1))) (.cons (.cmp .ne (.cal "is_program" (.cons (.var 3) (.cons (.tup (.cons (.lit (.int 1)) .nil)) .nil))) (.cmp .eq (.var 1) (.var 2))) .nil))) (.cons (.ret (.lit (.bl false))) .nil) .nil) (.cons (.asg [4] false (.tup (.cons (.tup (.cons (.tup (.cons (.tup (.cons (.var 0) (.cons (.var 1) .nil))) (.cons (.var 1) .nil))) (.cons (.var 1) .nil))) (.cons (.var 0) (.cons (.var 1) .nil))))) (.cons (.asg [5] false (.tup (.cons (.lit (.int 0)) (.cons (.tup (.cons (.lit (.int 2)) (.cons (.tup (.cons (.lit (.int 1)) .nil)) .nil))) .nil)))) (.cons (.ret (.boo true (.cons (.cal "is_program" (.cons (.var 4) (.cons (.var 5) .nil))) (.cons (.cmp .eq (.cal "paths" (.cons (.var 4) (.cons (.var 5) .nil))) (.lst (.cons (.tup .nil) (.cons (.tup (.cons (.lit (.int 0)) .nil)) (.cons (.tup (.cons (.lit (.int 0)) (.cons (.lit (.int 0)) .nil))) .nil))))) (.cons (.cmp .eq (.cal "depth_of" (.cons (.var 4) (.cons (.var 5) .nil))) (.lit (.int 3))) .nil))))) .nil))))))⟩
def f__law_sides_right : FD := ⟨["_law_a", "_law_b", "_law_c"], 7, (.cons (.asg [3] false (.tup (.cons (.tup (.cons (.tup (.cons (.var 0) (.cons (.var 0) .nil))) (.cons (.tup (.cons (.var 1) (.cons (.var 1) .nil))) (.cons (.var 2) .nil)))) (.cons (.var 2) .nil)))) (.cons (.iff (.boo false (.cons (.inv (.cal "is_program" (.cons (.var 3) (.cons (.tup (.cons (.lit (.int 0)) (.cons (.tup (.cons (.lit (.int 1)) .nil)) (.cons (.tup (.cons (.lit (.int 1)) .nil)) .nil)))) .nil)))) (.cons (.cal "is_program" (.cons (.var 3) (.cons (.tup (.cons (.lit (.int 0)) (.cons (.tup (.cons (.lit (.int 1)) .nil)) (.cons (.tup (.cons (.lit (.int 2)) .nil)) .nil)))) .nil))) .nil))) (.cons (.ret (.lit (.bl false))) .nil) .nil) (.cons (.iff (.cmp .ne (.cal "hand_at" (.cons (.var 3) (.cons (.tup (.cons (.lit (.int 0)) (.cons (.tup (.cons (.lit (.int 1)) .nil)) (.cons (.tup (.cons (.lit (.int 1)) .nil)) .nil)))) (.cons (.tup (.cons (.lit (.int 1)) .nil)) .nil)))) (.tup (.cons (.tup (.cons (.tup (.cons (.var 0) (.cons (.var 0) .nil))) (.cons (.tup (.cons (.var 1) (.cons (.var 1) .nil))) (.cons (.var 2) .nil)))) (.cons (.var 1) .nil)))) (.cons (.ret (.lit (.bl false))) .nil) .nil) (.cons (.asg [3, 5] true (.tup (.cons (.tup (.cons (.tup (.cons (.tup (.cons (.var 0) (.cons (.var 0) .nil))) (.cons (.var 1) (.cons (.tup (.cons (.var 2) (.cons (.var 2) .nil))) (.cons (.var 0) .nil))))) (.cons (.var 1) (.cons (.var 0) .nil)))) (.cons (.tup (.cons (.lit (.int 0)) (.cons (.tup (.cons (.lit (.int 2)) .nil)) (.cons (.tup (.cons (.lit (.int 1)) .nil)) (.cons (.tup (.cons (.lit (.int 2)) .nil)) .nil))))) .nil)))) (.cons (.iff (.boo false (.cons (.inv (.cal "is_program" (.cons (.var 3) (.cons (.var 5) .nil)))) (.cons (.cal "is_program" (.cons (.var 3) (.cons (.tup (.cons (.lit (.int 0)) (.cons (.tup (.cons (.lit (.int 2)) .nil)) (.cons (.tup (.cons (.lit (.int 1)) .nil)) (.cons (.tup (.cons (.lit (.int 3)) .nil)) .nil))))) .nil))) .nil))) (.cons (.ret (.lit (.bl false))) .nil) .nil) (.cons (.asg [4] false (.lc (.slc (.cal "hand_at" (.cons (.var 3) (.cons (.var 5) (.cons (.tup (.cons (.var 6) .nil)) .nil)))) (.cons (.lit (.int 1)) .nil) .nil) [6] [6] false (.rng (.cons (.lit (.int 3)) .nil)) .nil)) (.cons (.ret (.cmp .eq (.var 4) (.lst (.cons (.tup (.cons (.var 1) (.cons (.var 0) .nil))) (.cons (.tup (.cons (.var 1) .nil)) (.cons (.tup (.cons (.var 1) (.cons (.var 2) .nil))) .nil)))))) .nil)))))))⟩
def f__law_choices_right : FD := ⟨["_law_a", "_law_b"], 4, (.cons (.iff (.boo false (.cons (.inv (.cal "is_program" (.cons (.tup (.cons (.var 0) (.cons (.var 1) (.cons (.var 0) .nil)))) (.cons (.tup (.cons (.lit (.int 0)) .nil)) .nil)))) (.cons (.cmp .ne (.cal "is_program" (.cons (.tup (.cons (.var 0) (.cons (.var 1) (.cons (.var 0) .nil)))) (.cons (.tup (.cons (.lit (.int 1)) .nil)) .nil))) (.cmp .eq (.var 0) (.var 1))) (.cons (.cal "is_program" (.cons (.tup (.cons (.var 0) (.cons (.var 1) (.cons (.var 0) .nil)))) (.cons (.tup (.cons (.lit (.int 2)) .nil)) .nil))) .nil)))) (.cons (.ret (.lit (.bl false))) .nil) .nil) (.cons (.asg [2] false (.tup (.cons (.tup (.cons (.var 0) (.cons (.var 1) .nil))) (.cons (.tup (.cons (.var 1) (.cons (.var 0) (.cons (.var 1) .nil)))) (.cons (.var 0) (.cons (.var 1) .nil)))))) (.cons (.iff (.boo false (.cons (.inv (.cal "is_program" (.cons (.var 2) (.cons (.tup (.cons (.lit (.int 0)) (.cons (.tup (.cons (.lit (.int 2)) .nil)) .nil))) .nil)))) (.cons (.inv (.cal "is_program" (.cons (.var 2) (.cons (.tup (.cons (.lit (.int 1)) (.cons (.tup (.cons (.lit (.int 0)) (.cons (.tup (.cons (.lit (.int 2)) .nil)) .nil))) (.cons (.tup (.cons (.lit (.int 2)) .nil)) .nil)))) .nil)))) .nil))) (.cons (.ret (.lit (.bl false))) .nil) .nil) (.cons (.asg [3] false (.tup (.cons (.lit (.int 1)) (.cons (.tup (.cons (.lit (.int 1)) (.cons (.tup (.cons (.lit (.int 0)) (.cons (.tup (.cons (.lit (.int 2)) .nil)) .nil))) (.cons (.tup (.cons (.lit (.int 2)) .nil)) .nil)))) (.cons (.tup (.cons (.lit (.int 2)) .nil)) .nil))))) (.cons (.iff (.cmp .ne (.lst (.cons (.cal "size_of" (.cons (.var 2) (.cons (.var 3) .nil))) (.cons (.cal "depth_of" (.cons (.var 2) (.cons (.var 3) .nil))) (.cons (.bui .len (.cons (.cal "paths" (.cons (.var 2) (.cons (.var 3) .nil))) .nil)) .nil)))) (.lst (.cons (.lit (.int 6)) (.cons (.lit (.int 4)) (.cons (.lit (.int 6)) .nil))))) (.cons (.ret (.lit (.bl false))) .nil) .nil) (.cons (.ret (.inv (.cal "is_program" (.cons (.var 0) (.cons (.tup (.cons (.lit (.int 0)) .nil)) .nil))))) .nil))))))⟩
def f_law : FD := ⟨["_law_script"], 7, (.cons (.asg [1] false (.cal "_law_begun" (.cons (.var 0) .nil))) (.cons (.for_ [2] false (.rng (.cons (.bin .add (.lit (.int 6)) (.bui .min (.cons (.bui .len (.cons (.var 0) .nil)) (.cons (.lit (.int 24)) .nil)))) .nil)) (.cons (.asg [3] false (.cal "_law_pick" (.cons (.var 1) (.cons (.lst (.cons (.lst (.cons (.lit (.str "a")) (.cons (.lit (.str "b")) (.cons (.lit (.str "c")) .nil)))) (.cons (.lst (.cons (.lit (.str "a")) (.cons (.lit (.str "a")) (.cons (.lit (.str "b")) .nil)))) (.cons (.lst (.cons (.lit (.str "a")) (.cons (.lit (.str "b")) (.cons (.lit (.str "a")) .nil)))) (.cons (.lst (.cons (.lit (.str "a")) (.cons (.lit (.str "b")) (.cons (.lit (.str "b")) .nil)))) (.cons (.lst (.cons (.lit (.str "x")) (.cons (.lit (.str "yy")) (.cons (.lit (.str "zzz")) .nil)))) .nil)))))) .nil)))) (.cons (.asg [4, 5, 6] true (.cal "_law_shuffled" (.cons (.var 1) (.cons (.var 3) .nil)))) (.cons (.iff (.boo false (.cons (.inv (.cal "_law_numbers_right" (.cons (.var 1) (.cons (.var 4) .nil)))) (.cons (.inv (.cal "_law_handed_right" (.cons (.var 4) (.cons (.var 5) (.cons (.var 6) .nil))))) (.cons (.inv (.cal "_law_choices_right" (.cons (.var 4) (.cons (.var 5) .nil)))) .nil)))) (.cons (.ret (.lit (.bl false))) .nil) .nil) (.cons (.iff (.inv (.cal "_law_sides_right" (.cons (.var 4) (.cons (.var 5) (.cons (.var 6) .nil))))) (.cons (.ret (.lit (.bl false))) .nil) .nil) .nil))))) (.cons (.ret (.lit (.bl true))) .nil)))⟩
def tab : Tab := ([("is_number", f_is_number), ("is_name", f_is_name), ("has_form", f_has_form), ("inner_params", f_inner_params), ("inner_end", f_inner_end), ("inner_names", f_inner_names), ("is_kind", f_is_kind), ("need_kind", f_need_kind), ("hand_below", f_hand_below), ("is_head", f_is_head), ("is_term", f_is_term), ("is_inner_program", f_is_inner_program), ("is_program", f_is_program), ("need_program", f_need_program), ("terms_in", f_terms_in), ("size_of", f_size_of), ("deep_in", f_deep_in), ("depth_of", f_depth_of), ("paths_in", f_paths_in), ("paths", f_paths), ("is_row", f_is_row), ("found_at", f_found_at), ("need_path", f_need_path), ("hand_at", f_hand_at), ("_law_begun", f__law_begun)] : List (Str × FD)) ++ ([("_law_mixed", f__law_mixed), ("_law_take", f__law_take), ("_law_pick", f__law_pick), ("_law_shuffled", f__law_shuffled), ("_law_repeated", f__law_repeated), ("_law_numbers_right", f__law_numbers_right), ("_law_handed_right", f__law_handed_right), ("_law_sides_right", f__law_sides_right), ("_law_choices_right", f__law_choices_right), ("law", f_law)] : List (Str × FD))
def top (i : Nat) : Stmt := PySem.Challenge.pw_typetells_k10_known_programs.main.body.getD i (.Pass ⟨0, 0, 0, 0⟩)
def mkD (x : Str) (i : Nat) : He.DefD := ⟨(x, none), x, x, defArgs (top i), defBody (top i), defScope (top i), [], []⟩
def x_is_number : DefX := ⟨mkD "is_number" 11, ["thing"], f_is_number⟩
def x_is_name : DefX := ⟨mkD "is_name" 12, ["thing", "sign"], f_is_name⟩
def x_has_form : DefX := ⟨mkD "has_form" 13, ["thing", "deep", "item"], f_has_form⟩
def x_inner_params : DefX := ⟨mkD "inner_params" 14, ["kind"], f_inner_params⟩
def x_inner_end : DefX := ⟨mkD "inner_end" 15, ["kind"], f_inner_end⟩
def x_inner_names : DefX := ⟨mkD "inner_names" 16, ["kind", "item", "name"], f_inner_names⟩
def x_is_kind : DefX := ⟨mkD "is_kind" 17, ["thing"], f_is_kind⟩
def x_need_kind : DefX := ⟨mkD "need_kind" 18, ["kind"], f_need_kind⟩
def x_hand_below : DefX := ⟨mkD "hand_below" 20, ["hand", "param"], f_hand_below⟩
def x_is_head : DefX := ⟨mkD "is_head" 21, ["hand", "want", "thing", "helper"], f_is_head⟩
def x_is_term : DefX := ⟨mkD "is_term" 22, ["hand", "want", "thing", "param", "item"], f_is_term⟩
def x_is_inner_program : DefX := ⟨mkD "is_inner_program" 23, ["kind", "thing"], f_is_inner_program⟩
def x_is_program : DefX := ⟨mkD "is_program" 24, ["kind", "thing"], f_is_program⟩
def x_need_program : DefX := ⟨mkD "need_program" 25, ["kind", "program"], f_need_program⟩
def x_terms_in : DefX := ⟨mkD "terms_in" 26, ["term", "item"], f_terms_in⟩
def x_size_of : DefX := ⟨mkD "size_of" 27, ["kind", "program"], f_size_of⟩
def x_deep_in : DefX := ⟨mkD "deep_in" 28, ["term", "item"], f_deep_in⟩
def x_depth_of : DefX := ⟨mkD "depth_of" 29, ["kind", "program"], f_depth_of⟩
def x_paths_in : DefX := ⟨mkD "paths_in" 30, ["term", "found", "at", "item", "path"], f_paths_in⟩
def x_paths : DefX := ⟨mkD "paths" 31, ["kind", "program"], f_paths⟩
def x_is_row : DefX := ⟨mkD "is_row" 32, ["thing", "at"], f_is_row⟩
def x_found_at : DefX := ⟨mkD "found_at" 33, ["kind", "draft", "path", "at", "hand", "want", "term", "param"], f_found_at⟩
def x_need_path : DefX := ⟨mkD "need_path" 34, ["kind", "program", "path", "found"], f_need_path⟩
def x_hand_at : DefX := ⟨mkD "hand_at" 35, ["kind", "program", "path"], f_hand_at⟩
def x__law_begun : DefX := ⟨mkD "_law_begun" 37, ["_law_script", "_law_large", "_law_grain"], f__law_begun⟩
def x__law_mixed : DefX := ⟨mkD "_law_mixed" 38, ["_law_draw", "_law_prime", "_law_turn", "_law_found", "_law_blend", "_law_grain"], f__law_mixed⟩
def x__law_take : DefX := ⟨mkD "_law_take" 39, ["_law_draw", "_law_amount", "_law_found"], f__law_take⟩
def x__law_pick : DefX := ⟨mkD "_law_pick" 40, ["_law_draw", "_law_some"], f__law_pick⟩
def x__law_shuffled : DefX := ⟨mkD "_law_shuffled" 41, ["_law_draw", "_law_some", "_law_pool", "_law_found"], f__law_shuffled⟩
def x__law_repeated : DefX := ⟨mkD "_law_repeated" 42, ["_law_many", "_law_found", "_law_turn"], f__law_repeated⟩
def x__law_numbers_right : DefX := ⟨mkD "_law_numbers_right" 43, ["_law_draw", "_law_a", "_law_term", "_law_shape", "_law_many", "_law_k"], f__law_numbers_right⟩
def x__law_handed_right : DefX := ⟨mkD "_law_handed_right" 44, ["_law_a", "_law_b", "_law_c", "_law_shape", "_law_twice", "_law_term"], f__law_handed_right⟩
def x__law_sides_right : DefX := ⟨mkD "_law_sides_right" 45, ["_law_a", "_law_b", "_law_c", "_law_shape", "_law_told", "_law_term", "_law_k"], f__law_sides_right⟩
def x__law_choices_right : DefX := ⟨mkD "_law_choices_right" 46, ["_law_a", "_law_b", "_law_shape", "_law_term"], f__law_choices_right⟩
def x_law : DefX := ⟨mkD "law" 47, ["_law_script", "_law_draw", "_law_turn", "_law_some", "_law_a", "_law_b", "_law_c"], f_law⟩
def defs : List DefX := ([x_is_number, x_is_name, x_has_form, x_inner_params, x_inner_end, x_inner_names, x_is_kind, x_need_kind, x_hand_below, x_is_head, x_is_term, x_is_inner_program, x_is_program, x_need_program, x_terms_in, x_size_of, x_deep_in, x_depth_of, x_paths_in, x_paths, x_is_row, x_found_at, x_need_path, x_hand_at, x__law_begun] : List DefX) ++ ([x__law_mixed, x__law_take, x__law_pick, x__law_shuffled, x__law_repeated, x__law_numbers_right, x__law_handed_right, x__law_sides_right, x__law_choices_right, x_law] : List DefX)
theorem law_in : x_law ∈ defs := List.mem_iff_getElem?.mpr ⟨34, rfl⟩
def k_is_number : Kws := []
def k_is_name : Kws := []
def k_has_form : Kws := []
def k_inner_params : Kws := []
def k_inner_end : Kws := []
def k_inner_names : Kws := []
def k_is_kind : Kws := []
def k_need_kind : Kws := []
def k_hand_below : Kws := []
def k_is_head : Kws := []
def k_is_term : Kws := []
def k_is_inner_program : Kws := []
def k_is_program : Kws := []
def k_need_program : Kws := []
def k_terms_in : Kws := []
def k_size_of : Kws := []
def k_deep_in : Kws := []
def k_depth_of : Kws := []
def k_paths_in : Kws := []
def k_paths : Kws := []
def k_is_row : Kws := []
def k_found_at : Kws := []
def k_need_path : Kws := []
def k_hand_at : Kws := []
def k__law_begun : Kws := []
def k__law_mixed : Kws := []
def k__law_take : Kws := []
def k__law_pick : Kws := []
def k__law_shuffled : Kws := []
def k__law_repeated : Kws := []
def k__law_numbers_right : Kws := []
def k__law_handed_right : Kws := []
def k__law_sides_right : Kws := []
def k__law_choices_right : Kws := []
def k_law : Kws := []
def kws : List Kws := ([k_is_number, k_is_name, k_has_form, k_inner_params, k_inner_end, k_inner_names, k_is_kind, k_need_kind, k_hand_below, k_is_head, k_is_term, k_is_inner_program, k_is_program, k_need_program, k_terms_in, k_size_of, k_deep_in, k_depth_of, k_paths_in, k_paths, k_is_row, k_found_at, k_need_path, k_hand_at, k__law_begun] : List Kws) ++ ([k__law_mixed, k__law_take, k__law_pick, k__law_shuffled, k__law_repeated, k__law_numbers_right, k__law_handed_right, k__law_sides_right, k__law_choices_right, k_law] : List Kws)
def sc : SC where
  N := []
  sc := defScope (top 0)
  fn := fun _ => true
  free := (["ValueError", "isinstance", "str", "tuple", "zip", "enumerate", "range", "int", "all", "sum", "max", "list", "bool", "len", "abs", "min"] : List Str)
  con := [("LETTERS", D.str "abcdefghijklmnopqrstuvwxyz"), ("LONGEST", D.int 3), ("MOST_ITEMS", D.int 8), ("MOST_DEEP", D.int 4), ("MOST_PLACES", D.int 14)]
  tab := tabOf defs
  exc := ["BadKind", "BadProgram", "BadPath"]
  kwp := kwpOf ((defs.zip kws).map fun p => (p.1.dd.name, p.2))
theorem ok_is_number : defB sc x_is_number = true := by kernel_rfl
theorem ok_is_name : defB sc x_is_name = true := by kernel_rfl
theorem ok_has_form : defB sc x_has_form = true := by kernel_rfl
theorem ok_inner_params : defB sc x_inner_params = true := by kernel_rfl
theorem ok_inner_end : defB sc x_inner_end = true := by kernel_rfl
theorem ok_inner_names : defB sc x_inner_names = true := by kernel_rfl
theorem ok_is_kind : defB sc x_is_kind = true := by kernel_rfl
theorem ok_need_kind : defB sc x_need_kind = true := by kernel_rfl
theorem ok_hand_below : defB sc x_hand_below = true := by kernel_rfl
theorem ok_is_head : defB sc x_is_head = true := by kernel_rfl
theorem ok_is_term : defB sc x_is_term = true := by kernel_rfl
theorem ok_is_inner_program : defB sc x_is_inner_program = true := by kernel_rfl
theorem ok_is_program : defB sc x_is_program = true := by kernel_rfl
theorem ok_need_program : defB sc x_need_program = true := by kernel_rfl
theorem ok_terms_in : defB sc x_terms_in = true := by kernel_rfl
theorem ok_size_of : defB sc x_size_of = true := by kernel_rfl
theorem ok_deep_in : defB sc x_deep_in = true := by kernel_rfl
theorem ok_depth_of : defB sc x_depth_of = true := by kernel_rfl
theorem ok_paths_in : defB sc x_paths_in = true := by kernel_rfl
theorem ok_paths : defB sc x_paths = true := by kernel_rfl
theorem ok_is_row : defB sc x_is_row = true := by kernel_rfl
theorem ok_found_at : defB sc x_found_at = true := by kernel_rfl
theorem ok_need_path : defB sc x_need_path = true := by kernel_rfl
theorem ok_hand_at : defB sc x_hand_at = true := by kernel_rfl
theorem ok__law_begun : defB sc x__law_begun = true := by kernel_rfl
theorem ok__law_mixed : defB sc x__law_mixed = true := by kernel_rfl
theorem ok__law_take : defB sc x__law_take = true := by kernel_rfl
theorem ok__law_pick : defB sc x__law_pick = true := by kernel_rfl
theorem ok__law_shuffled : defB sc x__law_shuffled = true := by kernel_rfl
theorem ok__law_repeated : defB sc x__law_repeated = true := by kernel_rfl
theorem ok__law_numbers_right : defB sc x__law_numbers_right = true := by kernel_rfl
theorem ok__law_handed_right : defB sc x__law_handed_right = true := by kernel_rfl
theorem ok__law_sides_right : defB sc x__law_sides_right = true := by kernel_rfl
theorem ok__law_choices_right : defB sc x__law_choices_right = true := by kernel_rfl
theorem ok_law : defB sc x_law = true := by kernel_rfl
theorem oks : ∀ d ∈ defs, defB sc d = true := by
  show ∀ d ∈ (x_is_number :: x_is_name :: x_has_form :: x_inner_params :: x_inner_end :: x_inner_names :: x_is_kind :: x_need_kind :: x_hand_below :: x_is_head :: x_is_term :: x_is_inner_program :: x_is_program :: x_need_program :: x_terms_in :: x_size_of :: x_deep_in :: x_depth_of :: x_paths_in :: x_paths :: x_is_row :: x_found_at :: x_need_path :: x_hand_at :: x__law_begun :: x__law_mixed :: x__law_take :: x__law_pick :: x__law_shuffled :: x__law_repeated :: x__law_numbers_right :: x__law_handed_right :: x__law_sides_right :: x__law_choices_right :: x_law :: []), defB sc d = true
  exact List.forall_mem_cons.mpr ⟨ok_is_number, List.forall_mem_cons.mpr ⟨ok_is_name, List.forall_mem_cons.mpr ⟨ok_has_form, List.forall_mem_cons.mpr ⟨ok_inner_params, List.forall_mem_cons.mpr ⟨ok_inner_end, List.forall_mem_cons.mpr ⟨ok_inner_names, List.forall_mem_cons.mpr ⟨ok_is_kind, List.forall_mem_cons.mpr ⟨ok_need_kind, List.forall_mem_cons.mpr ⟨ok_hand_below, List.forall_mem_cons.mpr ⟨ok_is_head, List.forall_mem_cons.mpr ⟨ok_is_term, List.forall_mem_cons.mpr ⟨ok_is_inner_program, List.forall_mem_cons.mpr ⟨ok_is_program, List.forall_mem_cons.mpr ⟨ok_need_program, List.forall_mem_cons.mpr ⟨ok_terms_in, List.forall_mem_cons.mpr ⟨ok_size_of, List.forall_mem_cons.mpr ⟨ok_deep_in, List.forall_mem_cons.mpr ⟨ok_depth_of, List.forall_mem_cons.mpr ⟨ok_paths_in, List.forall_mem_cons.mpr ⟨ok_paths, List.forall_mem_cons.mpr ⟨ok_is_row, List.forall_mem_cons.mpr ⟨ok_found_at, List.forall_mem_cons.mpr ⟨ok_need_path, List.forall_mem_cons.mpr ⟨ok_hand_at, List.forall_mem_cons.mpr ⟨ok__law_begun, List.forall_mem_cons.mpr ⟨ok__law_mixed, List.forall_mem_cons.mpr ⟨ok__law_take, List.forall_mem_cons.mpr ⟨ok__law_pick, List.forall_mem_cons.mpr ⟨ok__law_shuffled, List.forall_mem_cons.mpr ⟨ok__law_repeated, List.forall_mem_cons.mpr ⟨ok__law_numbers_right, List.forall_mem_cons.mpr ⟨ok__law_handed_right, List.forall_mem_cons.mpr ⟨ok__law_sides_right, List.forall_mem_cons.mpr ⟨ok__law_choices_right, List.forall_mem_cons.mpr ⟨ok_law, fun _ h => nomatch h⟩⟩⟩⟩⟩⟩⟩⟩⟩⟩⟩⟩⟩⟩⟩⟩⟩⟩⟩⟩⟩⟩⟩⟩⟩⟩⟩⟩⟩⟩⟩⟩⟩⟩⟩
theorem b_is_number : BindOk x_is_number k_is_number := ⟨fun _ _ _ _ _ _ us hl => match us, hl with | [_], _ => rfl, fun q hq => nomatch hq⟩
theorem b_is_name : BindOk x_is_name k_is_name := ⟨fun _ _ _ _ _ _ us hl => match us, hl with | [_], _ => rfl, fun q hq => nomatch hq⟩
theorem b_has_form : BindOk x_has_form k_has_form := ⟨fun _ _ _ _ _ _ us hl => match us, hl with | [_, _], _ => rfl, fun q hq => nomatch hq⟩
theorem b_inner_params : BindOk x_inner_params k_inner_params := ⟨fun _ _ _ _ _ _ us hl => match us, hl with | [_], _ => rfl, fun q hq => nomatch hq⟩
theorem b_inner_end : BindOk x_inner_end k_inner_end := ⟨fun _ _ _ _ _ _ us hl => match us, hl with | [_], _ => rfl, fun q hq => nomatch hq⟩
theorem b_inner_names : BindOk x_inner_names k_inner_names := ⟨fun _ _ _ _ _ _ us hl => match us, hl with | [_], _ => rfl, fun q hq => nomatch hq⟩
theorem b_is_kind : BindOk x_is_kind k_is_kind := ⟨fun _ _ _ _ _ _ us hl => match us, hl with | [_], _ => rfl, fun q hq => nomatch hq⟩
theorem b_need_kind : BindOk x_need_kind k_need_kind := ⟨fun _ _ _ _ _ _ us hl => match us, hl with | [_], _ => rfl, fun q hq => nomatch hq⟩
theorem b_hand_below : BindOk x_hand_below k_hand_below := ⟨fun _ _ _ _ _ _ us hl => match us, hl with | [_, _], _ => rfl, fun q hq => nomatch hq⟩
theorem b_is_head : BindOk x_is_head k_is_head := ⟨fun _ _ _ _ _ _ us hl => match us, hl with | [_, _, _], _ => rfl, fun q hq => nomatch hq⟩
theorem b_is_term : BindOk x_is_term k_is_term := ⟨fun _ _ _ _ _ _ us hl => match us, hl with | [_, _, _], _ => rfl, fun q hq => nomatch hq⟩
theorem b_is_inner_program : BindOk x_is_inner_program k_is_inner_program := ⟨fun _ _ _ _ _ _ us hl => match us, hl with | [_, _], _ => rfl, fun q hq => nomatch hq⟩
theorem b_is_program : BindOk x_is_program k_is_program := ⟨fun _ _ _ _ _ _ us hl => match us, hl with | [_, _], _ => rfl, fun q hq => nomatch hq⟩
theorem b_need_program : BindOk x_need_program k_need_program := ⟨fun _ _ _ _ _ _ us hl => match us, hl with | [_, _], _ => rfl, fun q hq => nomatch hq⟩
theorem b_terms_in : BindOk x_terms_in k_terms_in := ⟨fun _ _ _ _ _ _ us hl => match us, hl with | [_], _ => rfl, fun q hq => nomatch hq⟩
theorem b_size_of : BindOk x_size_of k_size_of := ⟨fun _ _ _ _ _ _ us hl => match us, hl with | [_, _], _ => rfl, fun q hq => nomatch hq⟩
theorem b_deep_in : BindOk x_deep_in k_deep_in := ⟨fun _ _ _ _ _ _ us hl => match us, hl with | [_], _ => rfl, fun q hq => nomatch hq⟩
theorem b_depth_of : BindOk x_depth_of k_depth_of := ⟨fun _ _ _ _ _ _ us hl => match us, hl with | [_, _], _ => rfl, fun q hq => nomatch hq⟩
theorem b_paths_in : BindOk x_paths_in k_paths_in := ⟨fun _ _ _ _ _ _ us hl => match us, hl with | [_], _ => rfl, fun q hq => nomatch hq⟩
theorem b_paths : BindOk x_paths k_paths := ⟨fun _ _ _ _ _ _ us hl => match us, hl with | [_, _], _ => rfl, fun q hq => nomatch hq⟩
theorem b_is_row : BindOk x_is_row k_is_row := ⟨fun _ _ _ _ _ _ us hl => match us, hl with | [_], _ => rfl, fun q hq => nomatch hq⟩
theorem b_found_at : BindOk x_found_at k_found_at := ⟨fun _ _ _ _ _ _ us hl => match us, hl with | [_, _, _], _ => rfl, fun q hq => nomatch hq⟩
theorem b_need_path : BindOk x_need_path k_need_path := ⟨fun _ _ _ _ _ _ us hl => match us, hl with | [_, _, _], _ => rfl, fun q hq => nomatch hq⟩
theorem b_hand_at : BindOk x_hand_at k_hand_at := ⟨fun _ _ _ _ _ _ us hl => match us, hl with | [_, _, _], _ => rfl, fun q hq => nomatch hq⟩
theorem b__law_begun : BindOk x__law_begun k__law_begun := ⟨fun _ _ _ _ _ _ us hl => match us, hl with | [_], _ => rfl, fun q hq => nomatch hq⟩
theorem b__law_mixed : BindOk x__law_mixed k__law_mixed := ⟨fun _ _ _ _ _ _ us hl => match us, hl with | [_], _ => rfl, fun q hq => nomatch hq⟩
theorem b__law_take : BindOk x__law_take k__law_take := ⟨fun _ _ _ _ _ _ us hl => match us, hl with | [_, _], _ => rfl, fun q hq => nomatch hq⟩
theorem b__law_pick : BindOk x__law_pick k__law_pick := ⟨fun _ _ _ _ _ _ us hl => match us, hl with | [_, _], _ => rfl, fun q hq => nomatch hq⟩
theorem b__law_shuffled : BindOk x__law_shuffled k__law_shuffled := ⟨fun _ _ _ _ _ _ us hl => match us, hl with | [_, _], _ => rfl, fun q hq => nomatch hq⟩
theorem b__law_repeated : BindOk x__law_repeated k__law_repeated := ⟨fun _ _ _ _ _ _ us hl => match us, hl with | [_], _ => rfl, fun q hq => nomatch hq⟩
theorem b__law_numbers_right : BindOk x__law_numbers_right k__law_numbers_right := ⟨fun _ _ _ _ _ _ us hl => match us, hl with | [_, _], _ => rfl, fun q hq => nomatch hq⟩
theorem b__law_handed_right : BindOk x__law_handed_right k__law_handed_right := ⟨fun _ _ _ _ _ _ us hl => match us, hl with | [_, _, _], _ => rfl, fun q hq => nomatch hq⟩
theorem b__law_sides_right : BindOk x__law_sides_right k__law_sides_right := ⟨fun _ _ _ _ _ _ us hl => match us, hl with | [_, _, _], _ => rfl, fun q hq => nomatch hq⟩
theorem b__law_choices_right : BindOk x__law_choices_right k__law_choices_right := ⟨fun _ _ _ _ _ _ us hl => match us, hl with | [_, _], _ => rfl, fun q hq => nomatch hq⟩
theorem b_law : BindOk x_law k_law := ⟨fun _ _ _ _ _ _ us hl => match us, hl with | [_], _ => rfl, fun q hq => nomatch hq⟩
theorem bnds : ∀ p ∈ defs.zip kws, BindOk p.1 p.2 := by
  show ∀ p ∈ ((x_is_number, k_is_number) :: (x_is_name, k_is_name) :: (x_has_form, k_has_form) :: (x_inner_params, k_inner_params) :: (x_inner_end, k_inner_end) :: (x_inner_names, k_inner_names) :: (x_is_kind, k_is_kind) :: (x_need_kind, k_need_kind) :: (x_hand_below, k_hand_below) :: (x_is_head, k_is_head) :: (x_is_term, k_is_term) :: (x_is_inner_program, k_is_inner_program) :: (x_is_program, k_is_program) :: (x_need_program, k_need_program) :: (x_terms_in, k_terms_in) :: (x_size_of, k_size_of) :: (x_deep_in, k_deep_in) :: (x_depth_of, k_depth_of) :: (x_paths_in, k_paths_in) :: (x_paths, k_paths) :: (x_is_row, k_is_row) :: (x_found_at, k_found_at) :: (x_need_path, k_need_path) :: (x_hand_at, k_hand_at) :: (x__law_begun, k__law_begun) :: (x__law_mixed, k__law_mixed) :: (x__law_take, k__law_take) :: (x__law_pick, k__law_pick) :: (x__law_shuffled, k__law_shuffled) :: (x__law_repeated, k__law_repeated) :: (x__law_numbers_right, k__law_numbers_right) :: (x__law_handed_right, k__law_handed_right) :: (x__law_sides_right, k__law_sides_right) :: (x__law_choices_right, k__law_choices_right) :: (x_law, k_law) :: []), BindOk p.1 p.2
  exact List.forall_mem_cons.mpr ⟨b_is_number, List.forall_mem_cons.mpr ⟨b_is_name, List.forall_mem_cons.mpr ⟨b_has_form, List.forall_mem_cons.mpr ⟨b_inner_params, List.forall_mem_cons.mpr ⟨b_inner_end, List.forall_mem_cons.mpr ⟨b_inner_names, List.forall_mem_cons.mpr ⟨b_is_kind, List.forall_mem_cons.mpr ⟨b_need_kind, List.forall_mem_cons.mpr ⟨b_hand_below, List.forall_mem_cons.mpr ⟨b_is_head, List.forall_mem_cons.mpr ⟨b_is_term, List.forall_mem_cons.mpr ⟨b_is_inner_program, List.forall_mem_cons.mpr ⟨b_is_program, List.forall_mem_cons.mpr ⟨b_need_program, List.forall_mem_cons.mpr ⟨b_terms_in, List.forall_mem_cons.mpr ⟨b_size_of, List.forall_mem_cons.mpr ⟨b_deep_in, List.forall_mem_cons.mpr ⟨b_depth_of, List.forall_mem_cons.mpr ⟨b_paths_in, List.forall_mem_cons.mpr ⟨b_paths, List.forall_mem_cons.mpr ⟨b_is_row, List.forall_mem_cons.mpr ⟨b_found_at, List.forall_mem_cons.mpr ⟨b_need_path, List.forall_mem_cons.mpr ⟨b_hand_at, List.forall_mem_cons.mpr ⟨b__law_begun, List.forall_mem_cons.mpr ⟨b__law_mixed, List.forall_mem_cons.mpr ⟨b__law_take, List.forall_mem_cons.mpr ⟨b__law_pick, List.forall_mem_cons.mpr ⟨b__law_shuffled, List.forall_mem_cons.mpr ⟨b__law_repeated, List.forall_mem_cons.mpr ⟨b__law_numbers_right, List.forall_mem_cons.mpr ⟨b__law_handed_right, List.forall_mem_cons.mpr ⟨b__law_sides_right, List.forall_mem_cons.mpr ⟨b__law_choices_right, List.forall_mem_cons.mpr ⟨b_law, fun _ h => nomatch h⟩⟩⟩⟩⟩⟩⟩⟩⟩⟩⟩⟩⟩⟩⟩⟩⟩⟩⟩⟩⟩⟩⟩⟩⟩⟩⟩⟩⟩⟩⟩⟩⟩⟩⟩
end PiLaw
namespace PiLaw
open PySem Pi
/-! the draws -/
theorem wc {k : Nat} {f : Str} {fd : FD} {ds : List D} {S : Sto} {Q : KE} {E : XE} (h : tab.lookup f = some fd) (hl : ds.length = fd.ps.length) (hb : wSs (wC tab k) fd.body { nx := fun _ S' => Q .non S', rt := Q } (fun c a _ S' => E c a S') (startF fd.n ds) S) : wC tab (k + 1) f ds S Q E := ⟨fd, h, hl, hb⟩
abbrev iL (l : List Int) : List D := l.map D.int
def drw (l : Nat) (r : Int) (c : Nat) (t : Int) : List (Str × D) := [("large", .ref l), ("rest", .int r), ("cells", .ref c), ("turn", .int t)]
theorem drw_l {l c : Nat} {r t : Int} : getK (drw l r c t) "large" = some (.ref l) := rfl
theorem drw_r {l c : Nat} {r t : Int} : getK (drw l r c t) "rest" = some (.int r) := rfl
theorem drw_c {l c : Nat} {r t : Int} : getK (drw l r c t) "cells" = some (.ref c) := rfl
theorem drw_t {l c : Nat} {r t : Int} : getK (drw l r c t) "turn" = some (.int t) := rfl
theorem drw_sr {l c : Nat} {r t x : Int} : setK (drw l r c t) "rest" (.int x) = drw l x c t := rfl
theorem drw_st {l c : Nat} {r t x : Int} : setK (drw l r c t) "turn" (.int x) = drw l r c x := rfl
theorem drw_len {l c : Nat} {r t : Int} : (drw l r c t).length < 1000 := by show 4 < 1000; decide
structure Draw (S : Sto) (a l c : Nat) : Prop where
  al : a ≠ l
  ac : a ≠ c
  lc : l ≠ c
  ex : ∃ (r t : Int) (ls cs : List Int), S a = some (.dct (drw l r c t)) ∧ S l = some (.lst (iL ls)) ∧ S c = some (.lst (iL cs))
/-- what stays when a draw is made -/
structure Kp (a l : Nat) (S S' : Sto) : Prop where
  k : ∀ p o, S p = some o → p ≠ a → p ≠ l → S' p = some o
theorem Kp.refl {a l : Nat} {S : Sto} : Kp a l S S := ⟨fun _ _ h _ _ => h⟩
theorem Kp.trans {a l : Nat} {S S1 S2 : Sto} (h : Kp a l S S1) (g : Kp a l S1 S2) : Kp a l S S2 := ⟨fun p o e n m => g.k p o (h.k p o e n m) n m⟩
theorem Kp.new {a l p : Nat} {S : Sto} {o : O} (h : S p = none) : Kp a l S (put S p o) := ⟨fun q u e _ _ => by
  have ne : q ≠ p := fun z => by rw [z, h] at e; cases e
  rw [put_ne ne]; exact e⟩
theorem Kp.set {a l : Nat} {S : Sto} {o : O} : Kp a l S (put S a o) := ⟨fun q u e n _ => by rw [put_ne n]; exact e⟩
theorem Draw.new {S : Sto} {a l c p : Nat} {o : O} (d : Draw S a l c) (h : S p = none) : Draw (put S p o) a l c := by
  obtain ⟨h1, h2, h3, r, t, ls, cs, e1, e2, e3⟩ := d
  have n1 : a ≠ p := fun z => by rw [z, h] at e1; cases e1
  have n2 : l ≠ p := fun z => by rw [z, h] at e2; cases e2
  have n3 : c ≠ p := fun z => by rw [z, h] at e3; cases e3
  exact ⟨h1, h2, h3, r, t, ls, cs, by rw [put_ne n1]; exact e1, by rw [put_ne n2]; exact e2, by rw [put_ne n3]; exact e3⟩
/-- another object is written -/
theorem Draw.other {S : Sto} {a l c p : Nat} {o u : O} (d : Draw S a l c) (h1 : p ≠ a) (h2 : p ≠ l) (h3 : p ≠ c) : Draw (put S p o) a l c := by
  obtain ⟨n1, n2, n3, r, t, ls, cs, e1, e2, e3⟩ := d
  exact ⟨n1, n2, n3, r, t, ls, cs, by rw [put_ne h1.symm]; exact e1, by rw [put_ne h2.symm]; exact e2, by rw [put_ne h3.symm]; exact e3⟩
theorem Draw.ne {S : Sto} {a l c p : Nat} (d : Draw S a l c) (h : S p = none) : p ≠ a ∧ p ≠ l ∧ p ≠ c := by
  obtain ⟨h1, h2, h3, r, t, ls, cs, e1, e2, e3⟩ := d
  refine ⟨fun z => ?_, fun z => ?_, fun z => ?_⟩
  · rw [← z, h] at e1; cases e1
  · rw [← z, h] at e2; cases e2
  · rw [← z, h] at e3; cases e3
theorem loop_ok {α : Type} {ok : Sto → Prop} {step : D → α → Sto → (α → Sto → Prop) → Prop} {fin : α → Sto → Prop} (I : List D → α → Sto → Prop) (h0 : ∀ xs a S, I xs a S → ok S) (h1 : ∀ a S, I [] a S → fin a S)
    (h2 : ∀ x xs a S N, I (x :: xs) a S → (∀ b S', I xs b S' → N b S') → step x a S N) : ∀ {xs : List D} {a : α} {S : Sto}, I xs a S → loopW ok step fin xs a S
  | [], a, S, h => ⟨h0 _ _ _ h, h1 _ _ h⟩
  | x :: xs, a, S, h => ⟨h0 _ _ _ h, h2 _ _ _ _ _ h fun b S' h' => loop_ok I h0 h1 h2 h'⟩
theorem iL_py {S : Sto} : ∀ l : List Int, PyOfs S (iL l) (l.map PyData.int)
  | [] => .nil
  | i :: l => .cons (.int i) (iL_py l)
theorem sp_mixed {k a l c : Nat} {S : Sto} {Q : KE} {E : XE} (d : Draw S a l c) (hQ : ∀ i S', Draw S' a l c → Kp a l S S' → Q (.int i) S') : wC tab (k + 1) "_law_mixed" [.ref a] S Q E := by
  obtain ⟨n1, n2, n3, r, t, ls, cs, e1, e2, e3⟩ := d
  refine wc (fd := f__law_mixed) rfl rfl ?_
  unfold f__law_mixed
  try simp (maxSteps := 2000000) only [startF, wSs, wS, wE, wL, wO, wB, wI, x_add, x_adds, x_addl, x_addt, x_sub, x_mul, x_mult, x_mull, x_fdv, x_mod, x_pow, x_auga, x_augs, x_augm, x_eqi, x_eqs, x_eqb, x_nei, x_nes, x_neb, x_eqtt, x_eqrr, x_eqtr, x_eqrt, x_eqst, x_eqts, x_nett, x_nerr, x_netr, x_nert, x_nest, x_nets, x_lt, x_le, x_gt, x_ge, x_ins, x_isn, x_isnt, x_ixt, x_ixl, x_ixd, x_ixs, x_slt, x_sll, x_sls, x_std, x_stl, x_isin, x_isis, x_isit, x_isii, x_isib, x_lens, x_lent, x_lenf, x_lenl, x_inti, x_intb, x_abs, x_max2, x_min2, x_maxl, x_minl, x_mxd, x_tupl, x_tupt, x_lisl, x_list, x_liss, x_all, x_any, x_sum, x_repr, x_app, x_ext, x_pop, x_popa, x_join, x_rcva, x_rcve, x_rcvp, x_rcvq, x_rcvj, x_srct, x_srcf, x_srcs, x_srcl, x_seqt, x_seql, x_enu, x_enut, x_zipl, x_zipt, x_rng1, x_rng2, x_tg1, x_tgt, x_tgl, x_var, x_put, x_ex, x_exv, x_exl, x_exl0, x_exd, x_exb, x_exi, x_dec, x_decf, x_ndec, x_ndecf, x_ty_str_str, x_ty_str_tuple, x_ty_str_int, x_ty_str_bool, x_ty_str_list, x_ty_str_dict, x_ty_str_list_tuple, x_ty_str_tuple_list, x_ty_str_str_tuple, x_ty_str_tuple_str, x_ty_str_int_bool, x_ty_str_bool_int, x_ty_str_str_int, x_ty_str_int_str, x_ty_tuple_str, x_ty_tuple_tuple, x_ty_tuple_int, x_ty_tuple_bool, x_ty_tuple_list, x_ty_tuple_dict, x_ty_tuple_list_tuple, x_ty_tuple_tuple_list, x_ty_tuple_str_tuple, x_ty_tuple_tuple_str, x_ty_tuple_int_bool, x_ty_tuple_bool_int, x_ty_tuple_str_int, x_ty_tuple_int_str, x_ty_int_str, x_ty_int_tuple, x_ty_int_int, x_ty_int_bool, x_ty_int_list, x_ty_int_dict, x_ty_int_list_tuple, x_ty_int_tuple_list, x_ty_int_str_tuple, x_ty_int_tuple_str, x_ty_int_int_bool, x_ty_int_bool_int, x_ty_int_str_int, x_ty_int_int_str, x_ty_bool_str, x_ty_bool_tuple, x_ty_bool_int, x_ty_bool_bool, x_ty_bool_list, x_ty_bool_dict, x_ty_bool_list_tuple, x_ty_bool_tuple_list, x_ty_bool_str_tuple, x_ty_bool_tuple_str, x_ty_bool_int_bool, x_ty_bool_bool_int, x_ty_bool_str_int, x_ty_bool_int_str, x_ty_list_str, x_ty_list_tuple, x_ty_list_int, x_ty_list_bool, x_ty_list_list, x_ty_list_dict, x_ty_list_list_tuple, x_ty_list_tuple_list, x_ty_list_str_tuple, x_ty_list_tuple_str, x_ty_list_int_bool, x_ty_list_bool_int, x_ty_list_str_int, x_ty_list_int_str, x_ty_dict_str, x_ty_dict_tuple, x_ty_dict_int, x_ty_dict_bool, x_ty_dict_list, x_ty_dict_dict, x_ty_dict_list_tuple, x_ty_dict_tuple_list, x_ty_dict_str_tuple, x_ty_dict_tuple_str, x_ty_dict_int_bool, x_ty_dict_bool_int, x_ty_dict_str_int, x_ty_dict_int_str, x_puto, x_puto', List.map_cons, List.map_nil, List.length_cons, List.length_nil, List.cons_append, List.nil_append, List.replicate, Nat.sub_zero, Nat.sub_self, Nat.zero_add, Nat.reduceAdd, Nat.reduceSub, List.getElem?_cons_zero, List.getElem?_cons_succ, List.set_cons_zero, List.set_cons_succ, setF, wipeF, true_and, and_true, if_true, if_false, Bool.true_eq_false, Bool.false_eq_true, ite_true, ite_false, reduceIte, not_true_eq_false, not_false_eq_true, Bool.not_true, Bool.not_false, exists_eq_left', exists_const, ne_eq, e1, drw_t, drw_st, drw_len]
  refine ⟨by rw [sizeLine_eq]; decide, fun p hp => ?_⟩
  have pa : p ≠ a := fun z => by rw [z, put_same] at hp; cases hp
  have hp : S p = none := by rw [put_ne pa] at hp; exact hp
  have pl : p ≠ l := fun z => by rw [z, e2] at hp; cases hp
  have pc : p ≠ c := fun z => by rw [z, e3] at hp; cases hp
  refine loop_ok (fun xs φ S' => (∀ x ∈ xs, ∃ i : Int, x = .int i ∧ 0 < i ∧ i < 2 ^ 31) ∧ ∃ o1 o4 o5 f, φ = [some (.ref a), o1, some (.int (t + 1)), some (.int f), o4, o5] ∧ S' = put (put S a (.dct (drw l r c (t + 1)))) p (.lst [.int 2147483629, .int 2147483587, .int 2147483579])) ?_ ?_ ?_ ⟨?_, _, _, _, _, rfl, rfl⟩
  · rintro xs φ S' ⟨_, _, _, _, _, _, rfl⟩
    exact put_same
  · rintro φ S' ⟨_, o1, o4, o5, f, rfl, rfl⟩
    try simp (maxSteps := 2000000) only [startF, wSs, wS, wE, wL, wO, wB, wI, x_add, x_adds, x_addl, x_addt, x_sub, x_mul, x_mult, x_mull, x_fdv, x_mod, x_pow, x_auga, x_augs, x_augm, x_eqi, x_eqs, x_eqb, x_nei, x_nes, x_neb, x_eqtt, x_eqrr, x_eqtr, x_eqrt, x_eqst, x_eqts, x_nett, x_nerr, x_netr, x_nert, x_nest, x_nets, x_lt, x_le, x_gt, x_ge, x_ins, x_isn, x_isnt, x_ixt, x_ixl, x_ixd, x_ixs, x_slt, x_sll, x_sls, x_std, x_stl, x_isin, x_isis, x_isit, x_isii, x_isib, x_lens, x_lent, x_lenf, x_lenl, x_inti, x_intb, x_abs, x_max2, x_min2, x_maxl, x_minl, x_mxd, x_tupl, x_tupt, x_lisl, x_list, x_liss, x_all, x_any, x_sum, x_repr, x_app, x_ext, x_pop, x_popa, x_join, x_rcva, x_rcve, x_rcvp, x_rcvq, x_rcvj, x_srct, x_srcf, x_srcs, x_srcl, x_seqt, x_seql, x_enu, x_enut, x_zipl, x_zipt, x_rng1, x_rng2, x_tg1, x_tgt, x_tgl, x_var, x_put, x_ex, x_exv, x_exl, x_exl0, x_exd, x_exb, x_exi, x_dec, x_decf, x_ndec, x_ndecf, x_ty_str_str, x_ty_str_tuple, x_ty_str_int, x_ty_str_bool, x_ty_str_list, x_ty_str_dict, x_ty_str_list_tuple, x_ty_str_tuple_list, x_ty_str_str_tuple, x_ty_str_tuple_str, x_ty_str_int_bool, x_ty_str_bool_int, x_ty_str_str_int, x_ty_str_int_str, x_ty_tuple_str, x_ty_tuple_tuple, x_ty_tuple_int, x_ty_tuple_bool, x_ty_tuple_list, x_ty_tuple_dict, x_ty_tuple_list_tuple, x_ty_tuple_tuple_list, x_ty_tuple_str_tuple, x_ty_tuple_tuple_str, x_ty_tuple_int_bool, x_ty_tuple_bool_int, x_ty_tuple_str_int, x_ty_tuple_int_str, x_ty_int_str, x_ty_int_tuple, x_ty_int_int, x_ty_int_bool, x_ty_int_list, x_ty_int_dict, x_ty_int_list_tuple, x_ty_int_tuple_list, x_ty_int_str_tuple, x_ty_int_tuple_str, x_ty_int_int_bool, x_ty_int_bool_int, x_ty_int_str_int, x_ty_int_int_str, x_ty_bool_str, x_ty_bool_tuple, x_ty_bool_int, x_ty_bool_bool, x_ty_bool_list, x_ty_bool_dict, x_ty_bool_list_tuple, x_ty_bool_tuple_list, x_ty_bool_str_tuple, x_ty_bool_tuple_str, x_ty_bool_int_bool, x_ty_bool_bool_int, x_ty_bool_str_int, x_ty_bool_int_str, x_ty_list_str, x_ty_list_tuple, x_ty_list_int, x_ty_list_bool, x_ty_list_list, x_ty_list_dict, x_ty_list_list_tuple, x_ty_list_tuple_list, x_ty_list_str_tuple, x_ty_list_tuple_str, x_ty_list_int_bool, x_ty_list_bool_int, x_ty_list_str_int, x_ty_list_int_str, x_ty_dict_str, x_ty_dict_tuple, x_ty_dict_int, x_ty_dict_bool, x_ty_dict_list, x_ty_dict_dict, x_ty_dict_list_tuple, x_ty_dict_tuple_list, x_ty_dict_str_tuple, x_ty_dict_tuple_str, x_ty_dict_int_bool, x_ty_dict_bool_int, x_ty_dict_str_int, x_ty_dict_int_str, x_puto, x_puto', List.map_cons, List.map_nil, List.length_cons, List.length_nil, List.cons_append, List.nil_append, List.replicate, Nat.sub_zero, Nat.sub_self, Nat.zero_add, Nat.reduceAdd, Nat.reduceSub, List.getElem?_cons_zero, List.getElem?_cons_succ, List.set_cons_zero, List.set_cons_succ, setF, wipeF, true_and, and_true, if_true, if_false, Bool.true_eq_false, Bool.false_eq_true, ite_true, ite_false, reduceIte, not_true_eq_false, not_false_eq_true, Bool.not_true, Bool.not_false, exists_eq_left', exists_const, ne_eq]
    refine hQ _ _ ⟨n1, n2, n3, r, t + 1, ls, cs, ?_, ?_, ?_⟩ (Kp.set.trans (Kp.new ?_))
    · rw [put_ne pa.symm, put_same]
    · rw [put_ne pl.symm, put_ne n1.symm]; exact e2
    · rw [put_ne pc.symm, put_ne n2.symm]; exact e3
    · rw [put_ne pa]; exact hp
  · rintro x xs φ S' N ⟨hx, o1, o4, o5, f, rfl, rfl⟩ hN
    obtain ⟨i, rfl, i0, i1⟩ := hx x List.mem_cons_self
    have hca : put (put S a (.dct (drw l r c (t + 1)))) p (.lst [.int 2147483629, .int 2147483587, .int 2147483579]) a = some (.dct (drw l r c (t + 1))) := by rw [put_ne pa.symm, put_same]
    have hcc : put (put S a (.dct (drw l r c (t + 1)))) p (.lst [.int 2147483629, .int 2147483587, .int 2147483579]) c = some (.lst (iL cs)) := by rw [put_ne pc.symm, put_ne n2.symm]; exact e3
    try simp (maxSteps := 2000000) only [startF, wSs, wS, wE, wL, wO, wB, wI, x_add, x_adds, x_addl, x_addt, x_sub, x_mul, x_mult, x_mull, x_fdv, x_mod, x_pow, x_auga, x_augs, x_augm, x_eqi, x_eqs, x_eqb, x_nei, x_nes, x_neb, x_eqtt, x_eqrr, x_eqtr, x_eqrt, x_eqst, x_eqts, x_nett, x_nerr, x_netr, x_nert, x_nest, x_nets, x_lt, x_le, x_gt, x_ge, x_ins, x_isn, x_isnt, x_ixt, x_ixl, x_ixd, x_ixs, x_slt, x_sll, x_sls, x_std, x_stl, x_isin, x_isis, x_isit, x_isii, x_isib, x_lens, x_lent, x_lenf, x_lenl, x_inti, x_intb, x_abs, x_max2, x_min2, x_maxl, x_minl, x_mxd, x_tupl, x_tupt, x_lisl, x_list, x_liss, x_all, x_any, x_sum, x_repr, x_app, x_ext, x_pop, x_popa, x_join, x_rcva, x_rcve, x_rcvp, x_rcvq, x_rcvj, x_srct, x_srcf, x_srcs, x_srcl, x_seqt, x_seql, x_enu, x_enut, x_zipl, x_zipt, x_rng1, x_rng2, x_tg1, x_tgt, x_tgl, x_var, x_put, x_ex, x_exv, x_exl, x_exl0, x_exd, x_exb, x_exi, x_dec, x_decf, x_ndec, x_ndecf, x_ty_str_str, x_ty_str_tuple, x_ty_str_int, x_ty_str_bool, x_ty_str_list, x_ty_str_dict, x_ty_str_list_tuple, x_ty_str_tuple_list, x_ty_str_str_tuple, x_ty_str_tuple_str, x_ty_str_int_bool, x_ty_str_bool_int, x_ty_str_str_int, x_ty_str_int_str, x_ty_tuple_str, x_ty_tuple_tuple, x_ty_tuple_int, x_ty_tuple_bool, x_ty_tuple_list, x_ty_tuple_dict, x_ty_tuple_list_tuple, x_ty_tuple_tuple_list, x_ty_tuple_str_tuple, x_ty_tuple_tuple_str, x_ty_tuple_int_bool, x_ty_tuple_bool_int, x_ty_tuple_str_int, x_ty_tuple_int_str, x_ty_int_str, x_ty_int_tuple, x_ty_int_int, x_ty_int_bool, x_ty_int_list, x_ty_int_dict, x_ty_int_list_tuple, x_ty_int_tuple_list, x_ty_int_str_tuple, x_ty_int_tuple_str, x_ty_int_int_bool, x_ty_int_bool_int, x_ty_int_str_int, x_ty_int_int_str, x_ty_bool_str, x_ty_bool_tuple, x_ty_bool_int, x_ty_bool_bool, x_ty_bool_list, x_ty_bool_dict, x_ty_bool_list_tuple, x_ty_bool_tuple_list, x_ty_bool_str_tuple, x_ty_bool_tuple_str, x_ty_bool_int_bool, x_ty_bool_bool_int, x_ty_bool_str_int, x_ty_bool_int_str, x_ty_list_str, x_ty_list_tuple, x_ty_list_int, x_ty_list_bool, x_ty_list_list, x_ty_list_dict, x_ty_list_list_tuple, x_ty_list_tuple_list, x_ty_list_str_tuple, x_ty_list_tuple_str, x_ty_list_int_bool, x_ty_list_bool_int, x_ty_list_str_int, x_ty_list_int_str, x_ty_dict_str, x_ty_dict_tuple, x_ty_dict_int, x_ty_dict_bool, x_ty_dict_list, x_ty_dict_dict, x_ty_dict_list_tuple, x_ty_dict_tuple_list, x_ty_dict_str_tuple, x_ty_dict_tuple_str, x_ty_dict_int_bool, x_ty_dict_bool_int, x_ty_dict_str_int, x_ty_dict_int_str, x_puto, x_puto', List.map_cons, List.map_nil, List.length_cons, List.length_nil, List.cons_append, List.nil_append, List.replicate, Nat.sub_zero, Nat.sub_self, Nat.zero_add, Nat.reduceAdd, Nat.reduceSub, List.getElem?_cons_zero, List.getElem?_cons_succ, List.set_cons_zero, List.set_cons_succ, setF, wipeF, true_and, and_true, if_true, if_false, Bool.true_eq_false, Bool.false_eq_true, ite_true, ite_false, reduceIte, not_true_eq_false, not_false_eq_true, Bool.not_true, Bool.not_false, exists_eq_left', exists_const, ne_eq, hca, hcc, drw_c]
    refine ⟨.inr (.inl (by unfold SmallI; decide)), by decide, i0, ?_⟩
    refine loop_ok (fun xs φ S' => (∀ x ∈ xs, ∃ i : Int, x = .int i) ∧ ∃ o5 b, φ = [some (.ref a), some (.int i), some (.int (t + 1)), some (.int f), some (.int b), o5] ∧ 0 ≤ b ∧ b < i ∧ S' = put (put S a (.dct (drw l r c (t + 1)))) p (.lst [.int 2147483629, .int 2147483587, .int 2147483579])) ?_ ?_ ?_ ⟨?_, _, _, rfl, Int.emod_nonneg _ (by omega), Int.emod_lt_of_pos _ i0, rfl⟩
    · rintro xs φ S' ⟨_, _, _, _, _, _, rfl⟩
      exact hcc
    · rintro φ S' ⟨_, o5, b, rfl, b0, b1, rfl⟩
      try simp (maxSteps := 2000000) only [startF, wSs, wS, wE, wL, wO, wB, wI, x_add, x_adds, x_addl, x_addt, x_sub, x_mul, x_mult, x_mull, x_fdv, x_mod, x_pow, x_auga, x_augs, x_augm, x_eqi, x_eqs, x_eqb, x_nei, x_nes, x_neb, x_eqtt, x_eqrr, x_eqtr, x_eqrt, x_eqst, x_eqts, x_nett, x_nerr, x_netr, x_nert, x_nest, x_nets, x_lt, x_le, x_gt, x_ge, x_ins, x_isn, x_isnt, x_ixt, x_ixl, x_ixd, x_ixs, x_slt, x_sll, x_sls, x_std, x_stl, x_isin, x_isis, x_isit, x_isii, x_isib, x_lens, x_lent, x_lenf, x_lenl, x_inti, x_intb, x_abs, x_max2, x_min2, x_maxl, x_minl, x_mxd, x_tupl, x_tupt, x_lisl, x_list, x_liss, x_all, x_any, x_sum, x_repr, x_app, x_ext, x_pop, x_popa, x_join, x_rcva, x_rcve, x_rcvp, x_rcvq, x_rcvj, x_srct, x_srcf, x_srcs, x_srcl, x_seqt, x_seql, x_enu, x_enut, x_zipl, x_zipt, x_rng1, x_rng2, x_tg1, x_tgt, x_tgl, x_var, x_put, x_ex, x_exv, x_exl, x_exl0, x_exd, x_exb, x_exi, x_dec, x_decf, x_ndec, x_ndecf, x_ty_str_str, x_ty_str_tuple, x_ty_str_int, x_ty_str_bool, x_ty_str_list, x_ty_str_dict, x_ty_str_list_tuple, x_ty_str_tuple_list, x_ty_str_str_tuple, x_ty_str_tuple_str, x_ty_str_int_bool, x_ty_str_bool_int, x_ty_str_str_int, x_ty_str_int_str, x_ty_tuple_str, x_ty_tuple_tuple, x_ty_tuple_int, x_ty_tuple_bool, x_ty_tuple_list, x_ty_tuple_dict, x_ty_tuple_list_tuple, x_ty_tuple_tuple_list, x_ty_tuple_str_tuple, x_ty_tuple_tuple_str, x_ty_tuple_int_bool, x_ty_tuple_bool_int, x_ty_tuple_str_int, x_ty_tuple_int_str, x_ty_int_str, x_ty_int_tuple, x_ty_int_int, x_ty_int_bool, x_ty_int_list, x_ty_int_dict, x_ty_int_list_tuple, x_ty_int_tuple_list, x_ty_int_str_tuple, x_ty_int_tuple_str, x_ty_int_int_bool, x_ty_int_bool_int, x_ty_int_str_int, x_ty_int_int_str, x_ty_bool_str, x_ty_bool_tuple, x_ty_bool_int, x_ty_bool_bool, x_ty_bool_list, x_ty_bool_dict, x_ty_bool_list_tuple, x_ty_bool_tuple_list, x_ty_bool_str_tuple, x_ty_bool_tuple_str, x_ty_bool_int_bool, x_ty_bool_bool_int, x_ty_bool_str_int, x_ty_bool_int_str, x_ty_list_str, x_ty_list_tuple, x_ty_list_int, x_ty_list_bool, x_ty_list_list, x_ty_list_dict, x_ty_list_list_tuple, x_ty_list_tuple_list, x_ty_list_str_tuple, x_ty_list_tuple_str, x_ty_list_int_bool, x_ty_list_bool_int, x_ty_list_str_int, x_ty_list_int_str, x_ty_dict_str, x_ty_dict_tuple, x_ty_dict_int, x_ty_dict_bool, x_ty_dict_list, x_ty_dict_dict, x_ty_dict_list_tuple, x_ty_dict_tuple_list, x_ty_dict_str_tuple, x_ty_dict_tuple_str, x_ty_dict_int_bool, x_ty_dict_bool_int, x_ty_dict_str_int, x_ty_dict_int_str, x_puto, x_puto', List.map_cons, List.map_nil, List.length_cons, List.length_nil, List.cons_append, List.nil_append, List.replicate, Nat.sub_zero, Nat.sub_self, Nat.zero_add, Nat.reduceAdd, Nat.reduceSub, List.getElem?_cons_zero, List.getElem?_cons_succ, List.set_cons_zero, List.set_cons_succ, setF, wipeF, true_and, and_true, if_true, if_false, Bool.true_eq_false, Bool.false_eq_true, ite_true, ite_false, reduceIte, not_true_eq_false, not_false_eq_true, Bool.not_true, Bool.not_false, exists_eq_left', exists_const, ne_eq]
      refine ⟨.inr (.inl (by unfold SmallI; decide)), ⟨by decide, by decide, by omega⟩, i0, hN _ _ ⟨fun x hm => hx x (List.mem_cons_of_mem _ hm), _, _, _, _, rfl, rfl⟩⟩
    · rintro x xs φ S' N' ⟨hx', o5, b, rfl, b0, b1, rfl⟩ hN'
      obtain ⟨j, rfl⟩ := hx' x List.mem_cons_self
      try simp (maxSteps := 2000000) only [startF, wSs, wS, wE, wL, wO, wB, wI, x_add, x_adds, x_addl, x_addt, x_sub, x_mul, x_mult, x_mull, x_fdv, x_mod, x_pow, x_auga, x_augs, x_augm, x_eqi, x_eqs, x_eqb, x_nei, x_nes, x_neb, x_eqtt, x_eqrr, x_eqtr, x_eqrt, x_eqst, x_eqts, x_nett, x_nerr, x_netr, x_nert, x_nest, x_nets, x_lt, x_le, x_gt, x_ge, x_ins, x_isn, x_isnt, x_ixt, x_ixl, x_ixd, x_ixs, x_slt, x_sll, x_sls, x_std, x_stl, x_isin, x_isis, x_isit, x_isii, x_isib, x_lens, x_lent, x_lenf, x_lenl, x_inti, x_intb, x_abs, x_max2, x_min2, x_maxl, x_minl, x_mxd, x_tupl, x_tupt, x_lisl, x_list, x_liss, x_all, x_any, x_sum, x_repr, x_app, x_ext, x_pop, x_popa, x_join, x_rcva, x_rcve, x_rcvp, x_rcvq, x_rcvj, x_srct, x_srcf, x_srcs, x_srcl, x_seqt, x_seql, x_enu, x_enut, x_zipl, x_zipt, x_rng1, x_rng2, x_tg1, x_tgt, x_tgl, x_var, x_put, x_ex, x_exv, x_exl, x_exl0, x_exd, x_exb, x_exi, x_dec, x_decf, x_ndec, x_ndecf, x_ty_str_str, x_ty_str_tuple, x_ty_str_int, x_ty_str_bool, x_ty_str_list, x_ty_str_dict, x_ty_str_list_tuple, x_ty_str_tuple_list, x_ty_str_str_tuple, x_ty_str_tuple_str, x_ty_str_int_bool, x_ty_str_bool_int, x_ty_str_str_int, x_ty_str_int_str, x_ty_tuple_str, x_ty_tuple_tuple, x_ty_tuple_int, x_ty_tuple_bool, x_ty_tuple_list, x_ty_tuple_dict, x_ty_tuple_list_tuple, x_ty_tuple_tuple_list, x_ty_tuple_str_tuple, x_ty_tuple_tuple_str, x_ty_tuple_int_bool, x_ty_tuple_bool_int, x_ty_tuple_str_int, x_ty_tuple_int_str, x_ty_int_str, x_ty_int_tuple, x_ty_int_int, x_ty_int_bool, x_ty_int_list, x_ty_int_dict, x_ty_int_list_tuple, x_ty_int_tuple_list, x_ty_int_str_tuple, x_ty_int_tuple_str, x_ty_int_int_bool, x_ty_int_bool_int, x_ty_int_str_int, x_ty_int_int_str, x_ty_bool_str, x_ty_bool_tuple, x_ty_bool_int, x_ty_bool_bool, x_ty_bool_list, x_ty_bool_dict, x_ty_bool_list_tuple, x_ty_bool_tuple_list, x_ty_bool_str_tuple, x_ty_bool_tuple_str, x_ty_bool_int_bool, x_ty_bool_bool_int, x_ty_bool_str_int, x_ty_bool_int_str, x_ty_list_str, x_ty_list_tuple, x_ty_list_int, x_ty_list_bool, x_ty_list_list, x_ty_list_dict, x_ty_list_list_tuple, x_ty_list_tuple_list, x_ty_list_str_tuple, x_ty_list_tuple_str, x_ty_list_int_bool, x_ty_list_bool_int, x_ty_list_str_int, x_ty_list_int_str, x_ty_dict_str, x_ty_dict_tuple, x_ty_dict_int, x_ty_dict_bool, x_ty_dict_list, x_ty_dict_dict, x_ty_dict_list_tuple, x_ty_dict_tuple_list, x_ty_dict_str_tuple, x_ty_dict_tuple_str, x_ty_dict_int_bool, x_ty_dict_bool_int, x_ty_dict_str_int, x_ty_dict_int_str, x_puto, x_puto', List.map_cons, List.map_nil, List.length_cons, List.length_nil, List.cons_append, List.nil_append, List.replicate, Nat.sub_zero, Nat.sub_self, Nat.zero_add, Nat.reduceAdd, Nat.reduceSub, List.getElem?_cons_zero, List.getElem?_cons_succ, List.set_cons_zero, List.set_cons_succ, setF, wipeF, true_and, and_true, if_true, if_false, Bool.true_eq_false, Bool.false_eq_true, ite_true, ite_false, reduceIte, not_true_eq_false, not_false_eq_true, Bool.not_true, Bool.not_false, exists_eq_left', exists_const, ne_eq]
      exact ⟨.inr (.inl (by unfold SmallI; decide)), i0, hN' _ _ ⟨fun x hm => hx' x (List.mem_cons_of_mem _ hm), _, _, rfl, Int.emod_nonneg _ (by omega), Int.emod_lt_of_pos _ i0, rfl⟩⟩
    · intro x hm
      obtain ⟨j, _, rfl⟩ := List.mem_map.mp hm
      exact ⟨j, rfl⟩
  · intro x hm
    simp only [List.mem_cons, List.not_mem_nil, or_false] at hm
    rcases hm with rfl | rfl | rfl <;> exact ⟨_, rfl, by decide, by decide⟩
theorem eqv_nil : ∀ ls : List Int, PyData.eqv (.list (ls.map PyData.int)) (.list []) = decide (ls = [])
  | [] => rfl
  | _ :: _ => rfl
theorem sp_take {k a l c : Nat} {n : Int} {S : Sto} {Q : KE} {E : XE} (d : Draw S a l c) (n0 : 0 < n) (n1 : n < 1073741824 ∨ n.natAbs.log2 < 9000) (hQ : ∀ i S', 0 ≤ i → i < n → Draw S' a l c → Kp a l S S' → Q (.int i) S') : wC tab (k + 2) "_law_take" [.ref a, .int n] S Q E := by
  refine wc (fd := f__law_take) rfl rfl ?_
  unfold f__law_take
  -- the end, from any number that is left
  have fin : ∀ (S1 : Sto) (r t : Int) (ls cs : List Int), a ≠ l → a ≠ c → l ≠ c → S1 a = some (.dct (drw l r c t)) → S1 l = some (.lst (iL ls)) → S1 c = some (.lst (iL cs)) → Kp a l S S1 →
      ∀ (q : Int), Q (.int (r % n)) (put S1 a (.dct (drw l q c t))) := fun S1 r t ls cs h1 h2 h3 e1 e2 e3 kp q =>
    hQ _ _ (Int.emod_nonneg _ (by omega)) (Int.emod_lt_of_pos _ n0) ⟨h1, h2, h3, q, t, ls, cs, put_same, by rw [put_ne h1.symm]; exact e2, by rw [put_ne h2.symm]; exact e3⟩ (kp.trans Kp.set)
  obtain ⟨h1, h2, h3, r, t, ls, cs, e1, e2, e3⟩ := d
  try simp (maxSteps := 2000000) only [startF, wSs, wS, wE, wL, wO, wB, wI, x_add, x_adds, x_addl, x_addt, x_sub, x_mul, x_mult, x_mull, x_fdv, x_mod, x_pow, x_auga, x_augs, x_augm, x_eqi, x_eqs, x_eqb, x_nei, x_nes, x_neb, x_eqtt, x_eqrr, x_eqtr, x_eqrt, x_eqst, x_eqts, x_nett, x_nerr, x_netr, x_nert, x_nest, x_nets, x_lt, x_le, x_gt, x_ge, x_ins, x_isn, x_isnt, x_ixt, x_ixl, x_ixd, x_ixs, x_slt, x_sll, x_sls, x_std, x_stl, x_isin, x_isis, x_isit, x_isii, x_isib, x_lens, x_lent, x_lenf, x_lenl, x_inti, x_intb, x_abs, x_max2, x_min2, x_maxl, x_minl, x_mxd, x_tupl, x_tupt, x_lisl, x_list, x_liss, x_all, x_any, x_sum, x_repr, x_app, x_ext, x_pop, x_popa, x_join, x_rcva, x_rcve, x_rcvp, x_rcvq, x_rcvj, x_srct, x_srcf, x_srcs, x_srcl, x_seqt, x_seql, x_enu, x_enut, x_zipl, x_zipt, x_rng1, x_rng2, x_tg1, x_tgt, x_tgl, x_var, x_put, x_ex, x_exv, x_exl, x_exl0, x_exd, x_exb, x_exi, x_dec, x_decf, x_ndec, x_ndecf, x_ty_str_str, x_ty_str_tuple, x_ty_str_int, x_ty_str_bool, x_ty_str_list, x_ty_str_dict, x_ty_str_list_tuple, x_ty_str_tuple_list, x_ty_str_str_tuple, x_ty_str_tuple_str, x_ty_str_int_bool, x_ty_str_bool_int, x_ty_str_str_int, x_ty_str_int_str, x_ty_tuple_str, x_ty_tuple_tuple, x_ty_tuple_int, x_ty_tuple_bool, x_ty_tuple_list, x_ty_tuple_dict, x_ty_tuple_list_tuple, x_ty_tuple_tuple_list, x_ty_tuple_str_tuple, x_ty_tuple_tuple_str, x_ty_tuple_int_bool, x_ty_tuple_bool_int, x_ty_tuple_str_int, x_ty_tuple_int_str, x_ty_int_str, x_ty_int_tuple, x_ty_int_int, x_ty_int_bool, x_ty_int_list, x_ty_int_dict, x_ty_int_list_tuple, x_ty_int_tuple_list, x_ty_int_str_tuple, x_ty_int_tuple_str, x_ty_int_int_bool, x_ty_int_bool_int, x_ty_int_str_int, x_ty_int_int_str, x_ty_bool_str, x_ty_bool_tuple, x_ty_bool_int, x_ty_bool_bool, x_ty_bool_list, x_ty_bool_dict, x_ty_bool_list_tuple, x_ty_bool_tuple_list, x_ty_bool_str_tuple, x_ty_bool_tuple_str, x_ty_bool_int_bool, x_ty_bool_bool_int, x_ty_bool_str_int, x_ty_bool_int_str, x_ty_list_str, x_ty_list_tuple, x_ty_list_int, x_ty_list_bool, x_ty_list_list, x_ty_list_dict, x_ty_list_list_tuple, x_ty_list_tuple_list, x_ty_list_str_tuple, x_ty_list_tuple_str, x_ty_list_int_bool, x_ty_list_bool_int, x_ty_list_str_int, x_ty_list_int_str, x_ty_dict_str, x_ty_dict_tuple, x_ty_dict_int, x_ty_dict_bool, x_ty_dict_list, x_ty_dict_dict, x_ty_dict_list_tuple, x_ty_dict_tuple_list, x_ty_dict_str_tuple, x_ty_dict_tuple_str, x_ty_dict_int_bool, x_ty_dict_bool_int, x_ty_dict_str_int, x_ty_dict_int_str, x_puto, x_puto', List.map_cons, List.map_nil, List.length_cons, List.length_nil, List.cons_append, List.nil_append, List.replicate, Nat.sub_zero, Nat.sub_self, Nat.zero_add, Nat.reduceAdd, Nat.reduceSub, List.getElem?_cons_zero, List.getElem?_cons_succ, List.set_cons_zero, List.set_cons_succ, setF, wipeF, true_and, and_true, if_true, if_false, Bool.true_eq_false, Bool.false_eq_true, ite_true, ite_false, reduceIte, not_true_eq_false, not_false_eq_true, Bool.not_true, Bool.not_false, exists_eq_left', exists_const, ne_eq, e1, drw_r, drw_l, drw_sr, drw_len]
  split
  · refine ⟨by rw [sizeLine_eq]; decide, fun p hp => ?_⟩
    have pa : p ≠ a := fun z => by rw [z, e1] at hp; cases hp
    have pl : p ≠ l := fun z => by rw [z, e2] at hp; cases hp
    have pc : p ≠ c := fun z => by rw [z, e3] at hp; cases hp
    have f1 : put S p (.lst []) a = some (.dct (drw l r c t)) := by rw [put_ne pa.symm]; exact e1
    have f2 : put S p (.lst []) l = some (.lst (iL ls)) := by rw [put_ne pl.symm]; exact e2
    have f3 : put S p (.lst []) c = some (.lst (iL cs)) := by rw [put_ne pc.symm]; exact e3
    refine ⟨.list (ls.map PyData.int), .list [], .lst f2 (iL_py ls), .lst put_same .nil, PySem.W.ke_shaped_ints ls, rfl, ?_⟩
    rw [eqv_nil]
    try simp (maxSteps := 2000000) only [startF, wSs, wS, wE, wL, wO, wB, wI, x_add, x_adds, x_addl, x_addt, x_sub, x_mul, x_mult, x_mull, x_fdv, x_mod, x_pow, x_auga, x_augs, x_augm, x_eqi, x_eqs, x_eqb, x_nei, x_nes, x_neb, x_eqtt, x_eqrr, x_eqtr, x_eqrt, x_eqst, x_eqts, x_nett, x_nerr, x_netr, x_nert, x_nest, x_nets, x_lt, x_le, x_gt, x_ge, x_ins, x_isn, x_isnt, x_ixt, x_ixl, x_ixd, x_ixs, x_slt, x_sll, x_sls, x_std, x_stl, x_isin, x_isis, x_isit, x_isii, x_isib, x_lens, x_lent, x_lenf, x_lenl, x_inti, x_intb, x_abs, x_max2, x_min2, x_maxl, x_minl, x_mxd, x_tupl, x_tupt, x_lisl, x_list, x_liss, x_all, x_any, x_sum, x_repr, x_app, x_ext, x_pop, x_popa, x_join, x_rcva, x_rcve, x_rcvp, x_rcvq, x_rcvj, x_srct, x_srcf, x_srcs, x_srcl, x_seqt, x_seql, x_enu, x_enut, x_zipl, x_zipt, x_rng1, x_rng2, x_tg1, x_tgt, x_tgl, x_var, x_put, x_ex, x_exv, x_exl, x_exl0, x_exd, x_exb, x_exi, x_dec, x_decf, x_ndec, x_ndecf, x_ty_str_str, x_ty_str_tuple, x_ty_str_int, x_ty_str_bool, x_ty_str_list, x_ty_str_dict, x_ty_str_list_tuple, x_ty_str_tuple_list, x_ty_str_str_tuple, x_ty_str_tuple_str, x_ty_str_int_bool, x_ty_str_bool_int, x_ty_str_str_int, x_ty_str_int_str, x_ty_tuple_str, x_ty_tuple_tuple, x_ty_tuple_int, x_ty_tuple_bool, x_ty_tuple_list, x_ty_tuple_dict, x_ty_tuple_list_tuple, x_ty_tuple_tuple_list, x_ty_tuple_str_tuple, x_ty_tuple_tuple_str, x_ty_tuple_int_bool, x_ty_tuple_bool_int, x_ty_tuple_str_int, x_ty_tuple_int_str, x_ty_int_str, x_ty_int_tuple, x_ty_int_int, x_ty_int_bool, x_ty_int_list, x_ty_int_dict, x_ty_int_list_tuple, x_ty_int_tuple_list, x_ty_int_str_tuple, x_ty_int_tuple_str, x_ty_int_int_bool, x_ty_int_bool_int, x_ty_int_str_int, x_ty_int_int_str, x_ty_bool_str, x_ty_bool_tuple, x_ty_bool_int, x_ty_bool_bool, x_ty_bool_list, x_ty_bool_dict, x_ty_bool_list_tuple, x_ty_bool_tuple_list, x_ty_bool_str_tuple, x_ty_bool_tuple_str, x_ty_bool_int_bool, x_ty_bool_bool_int, x_ty_bool_str_int, x_ty_bool_int_str, x_ty_list_str, x_ty_list_tuple, x_ty_list_int, x_ty_list_bool, x_ty_list_list, x_ty_list_dict, x_ty_list_list_tuple, x_ty_list_tuple_list, x_ty_list_str_tuple, x_ty_list_tuple_str, x_ty_list_int_bool, x_ty_list_bool_int, x_ty_list_str_int, x_ty_list_int_str, x_ty_dict_str, x_ty_dict_tuple, x_ty_dict_int, x_ty_dict_bool, x_ty_dict_list, x_ty_dict_dict, x_ty_dict_list_tuple, x_ty_dict_tuple_list, x_ty_dict_str_tuple, x_ty_dict_tuple_str, x_ty_dict_int_bool, x_ty_dict_bool_int, x_ty_dict_str_int, x_ty_dict_int_str, x_puto, x_puto', List.map_cons, List.map_nil, List.length_cons, List.length_nil, List.cons_append, List.nil_append, List.replicate, Nat.sub_zero, Nat.sub_self, Nat.zero_add, Nat.reduceAdd, Nat.reduceSub, List.getElem?_cons_zero, List.getElem?_cons_succ, List.set_cons_zero, List.set_cons_succ, setF, wipeF, true_and, and_true, if_true, if_false, Bool.true_eq_false, Bool.false_eq_true, ite_true, ite_false, reduceIte, not_true_eq_false, not_false_eq_true, Bool.not_true, Bool.not_false, exists_eq_left', exists_const, ne_eq, f1, f2, drw_l]
    split
    · refine sp_mixed ⟨h1, h2, h3, r, t, ls, cs, f1, f2, f3⟩ fun i S1 d1 k1 => ?_
      obtain ⟨_, _, _, r1, t1, ls1, cs1, g1, g2, g3⟩ := d1
      try simp (maxSteps := 2000000) only [startF, wSs, wS, wE, wL, wO, wB, wI, x_add, x_adds, x_addl, x_addt, x_sub, x_mul, x_mult, x_mull, x_fdv, x_mod, x_pow, x_auga, x_augs, x_augm, x_eqi, x_eqs, x_eqb, x_nei, x_nes, x_neb, x_eqtt, x_eqrr, x_eqtr, x_eqrt, x_eqst, x_eqts, x_nett, x_nerr, x_netr, x_nert, x_nest, x_nets, x_lt, x_le, x_gt, x_ge, x_ins, x_isn, x_isnt, x_ixt, x_ixl, x_ixd, x_ixs, x_slt, x_sll, x_sls, x_std, x_stl, x_isin, x_isis, x_isit, x_isii, x_isib, x_lens, x_lent, x_lenf, x_lenl, x_inti, x_intb, x_abs, x_max2, x_min2, x_maxl, x_minl, x_mxd, x_tupl, x_tupt, x_lisl, x_list, x_liss, x_all, x_any, x_sum, x_repr, x_app, x_ext, x_pop, x_popa, x_join, x_rcva, x_rcve, x_rcvp, x_rcvq, x_rcvj, x_srct, x_srcf, x_srcs, x_srcl, x_seqt, x_seql, x_enu, x_enut, x_zipl, x_zipt, x_rng1, x_rng2, x_tg1, x_tgt, x_tgl, x_var, x_put, x_ex, x_exv, x_exl, x_exl0, x_exd, x_exb, x_exi, x_dec, x_decf, x_ndec, x_ndecf, x_ty_str_str, x_ty_str_tuple, x_ty_str_int, x_ty_str_bool, x_ty_str_list, x_ty_str_dict, x_ty_str_list_tuple, x_ty_str_tuple_list, x_ty_str_str_tuple, x_ty_str_tuple_str, x_ty_str_int_bool, x_ty_str_bool_int, x_ty_str_str_int, x_ty_str_int_str, x_ty_tuple_str, x_ty_tuple_tuple, x_ty_tuple_int, x_ty_tuple_bool, x_ty_tuple_list, x_ty_tuple_dict, x_ty_tuple_list_tuple, x_ty_tuple_tuple_list, x_ty_tuple_str_tuple, x_ty_tuple_tuple_str, x_ty_tuple_int_bool, x_ty_tuple_bool_int, x_ty_tuple_str_int, x_ty_tuple_int_str, x_ty_int_str, x_ty_int_tuple, x_ty_int_int, x_ty_int_bool, x_ty_int_list, x_ty_int_dict, x_ty_int_list_tuple, x_ty_int_tuple_list, x_ty_int_str_tuple, x_ty_int_tuple_str, x_ty_int_int_bool, x_ty_int_bool_int, x_ty_int_str_int, x_ty_int_int_str, x_ty_bool_str, x_ty_bool_tuple, x_ty_bool_int, x_ty_bool_bool, x_ty_bool_list, x_ty_bool_dict, x_ty_bool_list_tuple, x_ty_bool_tuple_list, x_ty_bool_str_tuple, x_ty_bool_tuple_str, x_ty_bool_int_bool, x_ty_bool_bool_int, x_ty_bool_str_int, x_ty_bool_int_str, x_ty_list_str, x_ty_list_tuple, x_ty_list_int, x_ty_list_bool, x_ty_list_list, x_ty_list_dict, x_ty_list_list_tuple, x_ty_list_tuple_list, x_ty_list_str_tuple, x_ty_list_tuple_str, x_ty_list_int_bool, x_ty_list_bool_int, x_ty_list_str_int, x_ty_list_int_str, x_ty_dict_str, x_ty_dict_tuple, x_ty_dict_int, x_ty_dict_bool, x_ty_dict_list, x_ty_dict_dict, x_ty_dict_list_tuple, x_ty_dict_tuple_list, x_ty_dict_str_tuple, x_ty_dict_tuple_str, x_ty_dict_int_bool, x_ty_dict_bool_int, x_ty_dict_str_int, x_ty_dict_int_str, x_puto, x_puto', List.map_cons, List.map_nil, List.length_cons, List.length_nil, List.cons_append, List.nil_append, List.replicate, Nat.sub_zero, Nat.sub_self, Nat.zero_add, Nat.reduceAdd, Nat.reduceSub, List.getElem?_cons_zero, List.getElem?_cons_succ, List.set_cons_zero, List.set_cons_succ, setF, wipeF, true_and, and_true, if_true, if_false, Bool.true_eq_false, Bool.false_eq_true, ite_true, ite_false, reduceIte, not_true_eq_false, not_false_eq_true, Bool.not_true, Bool.not_false, exists_eq_left', exists_const, ne_eq, g1, drw_r, drw_sr, drw_len]
      refine ⟨n0, ⟨n0, n1⟩, ?_⟩
      exact fin _ i t1 ls1 cs1 h1 h2 h3 put_same (by rw [put_ne h1.symm]; exact g2) (by rw [put_ne h2.symm]; exact g3) (((Kp.new hp).trans k1).trans Kp.set) _
    · rename_i hne
      cases ls with
      | nil => exact absurd rfl hne
      | cons i ls =>
        refine ⟨0, .int i, by decide, by decide, seqIndex_of (k := 0) (by decide) (by show (0 : Int) < ((iL (i :: ls)).length : Nat); rw [List.length_map, List.length_cons]; omega), rfl, ?_⟩
        have u1 : ∀ o, put (put S p (.lst [])) l o a = some (.dct (drw l r c t)) := fun o => by rw [put_ne h1]; exact f1
        try simp (maxSteps := 2000000) only [startF, wSs, wS, wE, wL, wO, wB, wI, x_add, x_adds, x_addl, x_addt, x_sub, x_mul, x_mult, x_mull, x_fdv, x_mod, x_pow, x_auga, x_augs, x_augm, x_eqi, x_eqs, x_eqb, x_nei, x_nes, x_neb, x_eqtt, x_eqrr, x_eqtr, x_eqrt, x_eqst, x_eqts, x_nett, x_nerr, x_netr, x_nert, x_nest, x_nets, x_lt, x_le, x_gt, x_ge, x_ins, x_isn, x_isnt, x_ixt, x_ixl, x_ixd, x_ixs, x_slt, x_sll, x_sls, x_std, x_stl, x_isin, x_isis, x_isit, x_isii, x_isib, x_lens, x_lent, x_lenf, x_lenl, x_inti, x_intb, x_abs, x_max2, x_min2, x_maxl, x_minl, x_mxd, x_tupl, x_tupt, x_lisl, x_list, x_liss, x_all, x_any, x_sum, x_repr, x_app, x_ext, x_pop, x_popa, x_join, x_rcva, x_rcve, x_rcvp, x_rcvq, x_rcvj, x_srct, x_srcf, x_srcs, x_srcl, x_seqt, x_seql, x_enu, x_enut, x_zipl, x_zipt, x_rng1, x_rng2, x_tg1, x_tgt, x_tgl, x_var, x_put, x_ex, x_exv, x_exl, x_exl0, x_exd, x_exb, x_exi, x_dec, x_decf, x_ndec, x_ndecf, x_ty_str_str, x_ty_str_tuple, x_ty_str_int, x_ty_str_bool, x_ty_str_list, x_ty_str_dict, x_ty_str_list_tuple, x_ty_str_tuple_list, x_ty_str_str_tuple, x_ty_str_tuple_str, x_ty_str_int_bool, x_ty_str_bool_int, x_ty_str_str_int, x_ty_str_int_str, x_ty_tuple_str, x_ty_tuple_tuple, x_ty_tuple_int, x_ty_tuple_bool, x_ty_tuple_list, x_ty_tuple_dict, x_ty_tuple_list_tuple, x_ty_tuple_tuple_list, x_ty_tuple_str_tuple, x_ty_tuple_tuple_str, x_ty_tuple_int_bool, x_ty_tuple_bool_int, x_ty_tuple_str_int, x_ty_tuple_int_str, x_ty_int_str, x_ty_int_tuple, x_ty_int_int, x_ty_int_bool, x_ty_int_list, x_ty_int_dict, x_ty_int_list_tuple, x_ty_int_tuple_list, x_ty_int_str_tuple, x_ty_int_tuple_str, x_ty_int_int_bool, x_ty_int_bool_int, x_ty_int_str_int, x_ty_int_int_str, x_ty_bool_str, x_ty_bool_tuple, x_ty_bool_int, x_ty_bool_bool, x_ty_bool_list, x_ty_bool_dict, x_ty_bool_list_tuple, x_ty_bool_tuple_list, x_ty_bool_str_tuple, x_ty_bool_tuple_str, x_ty_bool_int_bool, x_ty_bool_bool_int, x_ty_bool_str_int, x_ty_bool_int_str, x_ty_list_str, x_ty_list_tuple, x_ty_list_int, x_ty_list_bool, x_ty_list_list, x_ty_list_dict, x_ty_list_list_tuple, x_ty_list_tuple_list, x_ty_list_str_tuple, x_ty_list_tuple_str, x_ty_list_int_bool, x_ty_list_bool_int, x_ty_list_str_int, x_ty_list_int_str, x_ty_dict_str, x_ty_dict_tuple, x_ty_dict_int, x_ty_dict_bool, x_ty_dict_list, x_ty_dict_dict, x_ty_dict_list_tuple, x_ty_dict_tuple_list, x_ty_dict_str_tuple, x_ty_dict_tuple_str, x_ty_dict_int_bool, x_ty_dict_bool_int, x_ty_dict_str_int, x_ty_dict_int_str, x_puto, x_puto', List.map_cons, List.map_nil, List.length_cons, List.length_nil, List.cons_append, List.nil_append, List.replicate, Nat.sub_zero, Nat.sub_self, Nat.zero_add, Nat.reduceAdd, Nat.reduceSub, List.getElem?_cons_zero, List.getElem?_cons_succ, List.set_cons_zero, List.set_cons_succ, setF, wipeF, true_and, and_true, if_true, if_false, Bool.true_eq_false, Bool.false_eq_true, ite_true, ite_false, reduceIte, not_true_eq_false, not_false_eq_true, Bool.not_true, Bool.not_false, exists_eq_left', exists_const, ne_eq, u1, drw_r, drw_sr, drw_len]
        refine ⟨n0, ⟨n0, n1⟩, ?_⟩
        exact fin _ i t ls cs h1 h2 h3 put_same (by rw [put_ne h1.symm]; exact put_same) (by rw [put_ne h2.symm, put_ne h3.symm]; exact f3) ⟨fun q o e na nl => by rw [put_ne na, put_ne nl]; exact (Kp.new hp).k q o e na nl⟩ _
  · refine ⟨n0, ⟨n0, n1⟩, ?_⟩
    exact fin S r t ls cs h1 h2 h3 e1 e2 e3 Kp.refl _
theorem atI_ok {xs : List D} {i : Int} (h0 : 0 ≤ i) (h1 : i < xs.length) : ∃ v, L2.atI xs i = some v ∧ v ∈ xs := by
  have hi : i.toNat < xs.length := by omega
  refine ⟨xs[i.toNat], ?_, List.getElem_mem hi⟩
  unfold L2.atI L2.ixN
  rw [if_pos h0, if_pos h1]
  exact List.getElem?_eq_getElem hi
theorem sp_pick {k a l c p : Nat} {xs : List D} {S : Sto} {Q : KE} {E : XE} (d : Draw S a l c) (hp : S p = some (.lst xs)) (pa : p ≠ a) (pl : p ≠ l) (x0 : 0 < xs.length) (x1 : xs.length < 1073741824) (hQ : ∀ v S', v ∈ xs → Draw S' a l c → Kp a l S S' → Q v S') :
    wC tab (k + 3) "_law_pick" [.ref a, .ref p] S Q E := by
  refine wc (fd := f__law_pick) rfl rfl ?_
  unfold f__law_pick
  try simp (maxSteps := 2000000) only [startF, wSs, wS, wE, wL, wO, wB, wI, x_add, x_adds, x_addl, x_addt, x_sub, x_mul, x_mult, x_mull, x_fdv, x_mod, x_pow, x_auga, x_augs, x_augm, x_eqi, x_eqs, x_eqb, x_nei, x_nes, x_neb, x_eqtt, x_eqrr, x_eqtr, x_eqrt, x_eqst, x_eqts, x_nett, x_nerr, x_netr, x_nert, x_nest, x_nets, x_lt, x_le, x_gt, x_ge, x_ins, x_isn, x_isnt, x_ixt, x_ixl, x_ixd, x_ixs, x_slt, x_sll, x_sls, x_std, x_stl, x_isin, x_isis, x_isit, x_isii, x_isib, x_lens, x_lent, x_lenf, x_lenl, x_inti, x_intb, x_abs, x_max2, x_min2, x_maxl, x_minl, x_mxd, x_tupl, x_tupt, x_lisl, x_list, x_liss, x_all, x_any, x_sum, x_repr, x_app, x_ext, x_pop, x_popa, x_join, x_rcva, x_rcve, x_rcvp, x_rcvq, x_rcvj, x_srct, x_srcf, x_srcs, x_srcl, x_seqt, x_seql, x_enu, x_enut, x_zipl, x_zipt, x_rng1, x_rng2, x_tg1, x_tgt, x_tgl, x_var, x_put, x_ex, x_exv, x_exl, x_exl0, x_exd, x_exb, x_exi, x_dec, x_decf, x_ndec, x_ndecf, x_ty_str_str, x_ty_str_tuple, x_ty_str_int, x_ty_str_bool, x_ty_str_list, x_ty_str_dict, x_ty_str_list_tuple, x_ty_str_tuple_list, x_ty_str_str_tuple, x_ty_str_tuple_str, x_ty_str_int_bool, x_ty_str_bool_int, x_ty_str_str_int, x_ty_str_int_str, x_ty_tuple_str, x_ty_tuple_tuple, x_ty_tuple_int, x_ty_tuple_bool, x_ty_tuple_list, x_ty_tuple_dict, x_ty_tuple_list_tuple, x_ty_tuple_tuple_list, x_ty_tuple_str_tuple, x_ty_tuple_tuple_str, x_ty_tuple_int_bool, x_ty_tuple_bool_int, x_ty_tuple_str_int, x_ty_tuple_int_str, x_ty_int_str, x_ty_int_tuple, x_ty_int_int, x_ty_int_bool, x_ty_int_list, x_ty_int_dict, x_ty_int_list_tuple, x_ty_int_tuple_list, x_ty_int_str_tuple, x_ty_int_tuple_str, x_ty_int_int_bool, x_ty_int_bool_int, x_ty_int_str_int, x_ty_int_int_str, x_ty_bool_str, x_ty_bool_tuple, x_ty_bool_int, x_ty_bool_bool, x_ty_bool_list, x_ty_bool_dict, x_ty_bool_list_tuple, x_ty_bool_tuple_list, x_ty_bool_str_tuple, x_ty_bool_tuple_str, x_ty_bool_int_bool, x_ty_bool_bool_int, x_ty_bool_str_int, x_ty_bool_int_str, x_ty_list_str, x_ty_list_tuple, x_ty_list_int, x_ty_list_bool, x_ty_list_list, x_ty_list_dict, x_ty_list_list_tuple, x_ty_list_tuple_list, x_ty_list_str_tuple, x_ty_list_tuple_str, x_ty_list_int_bool, x_ty_list_bool_int, x_ty_list_str_int, x_ty_list_int_str, x_ty_dict_str, x_ty_dict_tuple, x_ty_dict_int, x_ty_dict_bool, x_ty_dict_list, x_ty_dict_dict, x_ty_dict_list_tuple, x_ty_dict_tuple_list, x_ty_dict_str_tuple, x_ty_dict_tuple_str, x_ty_dict_int_bool, x_ty_dict_bool_int, x_ty_dict_str_int, x_ty_dict_int_str, x_puto, x_puto', List.map_cons, List.map_nil, List.length_cons, List.length_nil, List.cons_append, List.nil_append, List.replicate, Nat.sub_zero, Nat.sub_self, Nat.zero_add, Nat.reduceAdd, Nat.reduceSub, List.getElem?_cons_zero, List.getElem?_cons_succ, List.set_cons_zero, List.set_cons_succ, setF, wipeF, true_and, and_true, if_true, if_false, Bool.true_eq_false, Bool.false_eq_true, ite_true, ite_false, reduceIte, not_true_eq_false, not_false_eq_true, Bool.not_true, Bool.not_false, exists_eq_left', exists_const, ne_eq, hp]
  refine sp_take d (by omega) (.inl (by omega)) fun i S1 i0 i1 d1 k1 => ?_
  have hp1 := k1.k p _ hp pa pl
  try simp (maxSteps := 2000000) only [startF, wSs, wS, wE, wL, wO, wB, wI, x_add, x_adds, x_addl, x_addt, x_sub, x_mul, x_mult, x_mull, x_fdv, x_mod, x_pow, x_auga, x_augs, x_augm, x_eqi, x_eqs, x_eqb, x_nei, x_nes, x_neb, x_eqtt, x_eqrr, x_eqtr, x_eqrt, x_eqst, x_eqts, x_nett, x_nerr, x_netr, x_nert, x_nest, x_nets, x_lt, x_le, x_gt, x_ge, x_ins, x_isn, x_isnt, x_ixt, x_ixl, x_ixd, x_ixs, x_slt, x_sll, x_sls, x_std, x_stl, x_isin, x_isis, x_isit, x_isii, x_isib, x_lens, x_lent, x_lenf, x_lenl, x_inti, x_intb, x_abs, x_max2, x_min2, x_maxl, x_minl, x_mxd, x_tupl, x_tupt, x_lisl, x_list, x_liss, x_all, x_any, x_sum, x_repr, x_app, x_ext, x_pop, x_popa, x_join, x_rcva, x_rcve, x_rcvp, x_rcvq, x_rcvj, x_srct, x_srcf, x_srcs, x_srcl, x_seqt, x_seql, x_enu, x_enut, x_zipl, x_zipt, x_rng1, x_rng2, x_tg1, x_tgt, x_tgl, x_var, x_put, x_ex, x_exv, x_exl, x_exl0, x_exd, x_exb, x_exi, x_dec, x_decf, x_ndec, x_ndecf, x_ty_str_str, x_ty_str_tuple, x_ty_str_int, x_ty_str_bool, x_ty_str_list, x_ty_str_dict, x_ty_str_list_tuple, x_ty_str_tuple_list, x_ty_str_str_tuple, x_ty_str_tuple_str, x_ty_str_int_bool, x_ty_str_bool_int, x_ty_str_str_int, x_ty_str_int_str, x_ty_tuple_str, x_ty_tuple_tuple, x_ty_tuple_int, x_ty_tuple_bool, x_ty_tuple_list, x_ty_tuple_dict, x_ty_tuple_list_tuple, x_ty_tuple_tuple_list, x_ty_tuple_str_tuple, x_ty_tuple_tuple_str, x_ty_tuple_int_bool, x_ty_tuple_bool_int, x_ty_tuple_str_int, x_ty_tuple_int_str, x_ty_int_str, x_ty_int_tuple, x_ty_int_int, x_ty_int_bool, x_ty_int_list, x_ty_int_dict, x_ty_int_list_tuple, x_ty_int_tuple_list, x_ty_int_str_tuple, x_ty_int_tuple_str, x_ty_int_int_bool, x_ty_int_bool_int, x_ty_int_str_int, x_ty_int_int_str, x_ty_bool_str, x_ty_bool_tuple, x_ty_bool_int, x_ty_bool_bool, x_ty_bool_list, x_ty_bool_dict, x_ty_bool_list_tuple, x_ty_bool_tuple_list, x_ty_bool_str_tuple, x_ty_bool_tuple_str, x_ty_bool_int_bool, x_ty_bool_bool_int, x_ty_bool_str_int, x_ty_bool_int_str, x_ty_list_str, x_ty_list_tuple, x_ty_list_int, x_ty_list_bool, x_ty_list_list, x_ty_list_dict, x_ty_list_list_tuple, x_ty_list_tuple_list, x_ty_list_str_tuple, x_ty_list_tuple_str, x_ty_list_int_bool, x_ty_list_bool_int, x_ty_list_str_int, x_ty_list_int_str, x_ty_dict_str, x_ty_dict_tuple, x_ty_dict_int, x_ty_dict_bool, x_ty_dict_list, x_ty_dict_dict, x_ty_dict_list_tuple, x_ty_dict_tuple_list, x_ty_dict_str_tuple, x_ty_dict_tuple_str, x_ty_dict_int_bool, x_ty_dict_bool_int, x_ty_dict_str_int, x_ty_dict_int_str, x_puto, x_puto', List.map_cons, List.map_nil, List.length_cons, List.length_nil, List.cons_append, List.nil_append, List.replicate, Nat.sub_zero, Nat.sub_self, Nat.zero_add, Nat.reduceAdd, Nat.reduceSub, List.getElem?_cons_zero, List.getElem?_cons_succ, List.set_cons_zero, List.set_cons_succ, setF, wipeF, true_and, and_true, if_true, if_false, Bool.true_eq_false, Bool.false_eq_true, ite_true, ite_false, reduceIte, not_true_eq_false, not_false_eq_true, Bool.not_true, Bool.not_false, exists_eq_left', exists_const, ne_eq, hp1]
  obtain ⟨v, hv, hm⟩ := atI_ok i0 i1
  exact ⟨v, hv, hQ v S1 hm d1 k1⟩
theorem sp_begun {k : Nat} {ns : List Int} {S : Sto} {Q : KE} {E : XE} (hz : ns.length ≤ 1000) (hQ : ∀ a l c S', Draw S' a l c → (∀ p o, S p = some o → S' p = some o) → Q (.ref a) S') : wC tab (k + 1) "_law_begun" [.fls (iL ns)] S Q E := by
  refine wc (fd := f__law_begun) rfl rfl ?_
  unfold f__law_begun
  try simp (maxSteps := 2000000) only [startF, wSs, wS, wE, wL, wO, wB, wI, x_add, x_adds, x_addl, x_addt, x_sub, x_mul, x_mult, x_mull, x_fdv, x_mod, x_pow, x_auga, x_augs, x_augm, x_eqi, x_eqs, x_eqb, x_nei, x_nes, x_neb, x_eqtt, x_eqrr, x_eqtr, x_eqrt, x_eqst, x_eqts, x_nett, x_nerr, x_netr, x_nert, x_nest, x_nets, x_lt, x_le, x_gt, x_ge, x_ins, x_isn, x_isnt, x_ixt, x_ixl, x_ixd, x_ixs, x_slt, x_sll, x_sls, x_std, x_stl, x_isin, x_isis, x_isit, x_isii, x_isib, x_lens, x_lent, x_lenf, x_lenl, x_inti, x_intb, x_abs, x_max2, x_min2, x_maxl, x_minl, x_mxd, x_tupl, x_tupt, x_lisl, x_list, x_liss, x_all, x_any, x_sum, x_repr, x_app, x_ext, x_pop, x_popa, x_join, x_rcva, x_rcve, x_rcvp, x_rcvq, x_rcvj, x_srct, x_srcf, x_srcs, x_srcl, x_seqt, x_seql, x_enu, x_enut, x_zipl, x_zipt, x_rng1, x_rng2, x_tg1, x_tgt, x_tgl, x_var, x_put, x_ex, x_exv, x_exl, x_exl0, x_exd, x_exb, x_exi, x_dec, x_decf, x_ndec, x_ndecf, x_ty_str_str, x_ty_str_tuple, x_ty_str_int, x_ty_str_bool, x_ty_str_list, x_ty_str_dict, x_ty_str_list_tuple, x_ty_str_tuple_list, x_ty_str_str_tuple, x_ty_str_tuple_str, x_ty_str_int_bool, x_ty_str_bool_int, x_ty_str_str_int, x_ty_str_int_str, x_ty_tuple_str, x_ty_tuple_tuple, x_ty_tuple_int, x_ty_tuple_bool, x_ty_tuple_list, x_ty_tuple_dict, x_ty_tuple_list_tuple, x_ty_tuple_tuple_list, x_ty_tuple_str_tuple, x_ty_tuple_tuple_str, x_ty_tuple_int_bool, x_ty_tuple_bool_int, x_ty_tuple_str_int, x_ty_tuple_int_str, x_ty_int_str, x_ty_int_tuple, x_ty_int_int, x_ty_int_bool, x_ty_int_list, x_ty_int_dict, x_ty_int_list_tuple, x_ty_int_tuple_list, x_ty_int_str_tuple, x_ty_int_tuple_str, x_ty_int_int_bool, x_ty_int_bool_int, x_ty_int_str_int, x_ty_int_int_str, x_ty_bool_str, x_ty_bool_tuple, x_ty_bool_int, x_ty_bool_bool, x_ty_bool_list, x_ty_bool_dict, x_ty_bool_list_tuple, x_ty_bool_tuple_list, x_ty_bool_str_tuple, x_ty_bool_tuple_str, x_ty_bool_int_bool, x_ty_bool_bool_int, x_ty_bool_str_int, x_ty_bool_int_str, x_ty_list_str, x_ty_list_tuple, x_ty_list_int, x_ty_list_bool, x_ty_list_list, x_ty_list_dict, x_ty_list_list_tuple, x_ty_list_tuple_list, x_ty_list_str_tuple, x_ty_list_tuple_str, x_ty_list_int_bool, x_ty_list_bool_int, x_ty_list_str_int, x_ty_list_int_str, x_ty_dict_str, x_ty_dict_tuple, x_ty_dict_int, x_ty_dict_bool, x_ty_dict_list, x_ty_dict_dict, x_ty_dict_list_tuple, x_ty_dict_tuple_list, x_ty_dict_str_tuple, x_ty_dict_tuple_str, x_ty_dict_int_bool, x_ty_dict_bool_int, x_ty_dict_str_int, x_ty_dict_int_str, x_puto, x_puto', List.map_cons, List.map_nil, List.length_cons, List.length_nil, List.cons_append, List.nil_append, List.replicate, Nat.sub_zero, Nat.sub_self, Nat.zero_add, Nat.reduceAdd, Nat.reduceSub, List.getElem?_cons_zero, List.getElem?_cons_succ, List.set_cons_zero, List.set_cons_succ, setF, wipeF, true_and, and_true, if_true, if_false, Bool.true_eq_false, Bool.false_eq_true, ite_true, ite_false, reduceIte, not_true_eq_false, not_false_eq_true, Bool.not_true, Bool.not_false, exists_eq_left', exists_const, ne_eq]
  have sz : sizeLine = 16777216 := sizeLine_eq
  refine loop_ok (fun xs acc S' => S' = S ∧ (∃ ms : List Int, xs = iL ms) ∧ (∃ ls : List Int, acc = iL ls) ∧ acc.length + xs.length ≤ 1000) (fun _ _ _ _ => trivial) ?_ ?_ ⟨rfl, ⟨ns, rfl⟩, ⟨[], rfl⟩, by simpa using hz⟩
  · rintro acc S' ⟨rfl, _, ⟨ls, rfl⟩, _⟩ l hl
    refine loop_ok (fun xs acc S'' => S'' = put S' l (.lst (iL ls)) ∧ (∃ ms : List Int, xs = iL ms) ∧ (∃ ls : List Int, acc = iL ls) ∧ acc.length + xs.length ≤ 1000) (fun _ _ _ _ => trivial) ?_ ?_ ⟨rfl, ⟨ns, rfl⟩, ⟨[], rfl⟩, by simpa using hz⟩
    · rintro acc S'' ⟨rfl, _, ⟨cs, rfl⟩, _⟩ c hc a ha
      have lc : l ≠ c := fun z => by rw [← z, put_same] at hc; cases hc
      have al : a ≠ l := fun z => by rw [z, put_ne lc, put_same] at ha; cases ha
      have ac : a ≠ c := fun z => by rw [z, put_same] at ha; cases ha
      have hc' : S' c = none := by rw [put_ne lc.symm] at hc; exact hc
      have ha' : S' a = none := by rw [put_ne ac, put_ne al] at ha; exact ha
      refine hQ a l c _ ⟨al, ac, lc, 0, 0, ls, cs, put_same, by rw [put_ne al.symm, put_ne lc, put_same], by rw [put_ne ac.symm, put_same]⟩ fun p o e => ?_
      have p1 : p ≠ a := fun z => by rw [z, ha'] at e; cases e
      have p2 : p ≠ l := fun z => by rw [z, hl] at e; cases e
      have p3 : p ≠ c := fun z => by rw [z, hc'] at e; cases e
      rw [put_ne p1, put_ne p3, put_ne p2]
      exact e
    · rintro x xs acc S'' N ⟨rfl, ⟨ms, hm⟩, ⟨ls', rfl⟩, hlen⟩ hN
      cases ms with
      | nil => cases hm
      | cons m ms =>
        cases hm
        simp only [List.length_cons, List.length_map] at hlen
        try simp (maxSteps := 2000000) only [startF, wSs, wS, wE, wL, wO, wB, wI, x_add, x_adds, x_addl, x_addt, x_sub, x_mul, x_mult, x_mull, x_fdv, x_mod, x_pow, x_auga, x_augs, x_augm, x_eqi, x_eqs, x_eqb, x_nei, x_nes, x_neb, x_eqtt, x_eqrr, x_eqtr, x_eqrt, x_eqst, x_eqts, x_nett, x_nerr, x_netr, x_nert, x_nest, x_nets, x_lt, x_le, x_gt, x_ge, x_ins, x_isn, x_isnt, x_ixt, x_ixl, x_ixd, x_ixs, x_slt, x_sll, x_sls, x_std, x_stl, x_isin, x_isis, x_isit, x_isii, x_isib, x_lens, x_lent, x_lenf, x_lenl, x_inti, x_intb, x_abs, x_max2, x_min2, x_maxl, x_minl, x_mxd, x_tupl, x_tupt, x_lisl, x_list, x_liss, x_all, x_any, x_sum, x_repr, x_app, x_ext, x_pop, x_popa, x_join, x_rcva, x_rcve, x_rcvp, x_rcvq, x_rcvj, x_srct, x_srcf, x_srcs, x_srcl, x_seqt, x_seql, x_enu, x_enut, x_zipl, x_zipt, x_rng1, x_rng2, x_tg1, x_tgt, x_tgl, x_var, x_put, x_ex, x_exv, x_exl, x_exl0, x_exd, x_exb, x_exi, x_dec, x_decf, x_ndec, x_ndecf, x_ty_str_str, x_ty_str_tuple, x_ty_str_int, x_ty_str_bool, x_ty_str_list, x_ty_str_dict, x_ty_str_list_tuple, x_ty_str_tuple_list, x_ty_str_str_tuple, x_ty_str_tuple_str, x_ty_str_int_bool, x_ty_str_bool_int, x_ty_str_str_int, x_ty_str_int_str, x_ty_tuple_str, x_ty_tuple_tuple, x_ty_tuple_int, x_ty_tuple_bool, x_ty_tuple_list, x_ty_tuple_dict, x_ty_tuple_list_tuple, x_ty_tuple_tuple_list, x_ty_tuple_str_tuple, x_ty_tuple_tuple_str, x_ty_tuple_int_bool, x_ty_tuple_bool_int, x_ty_tuple_str_int, x_ty_tuple_int_str, x_ty_int_str, x_ty_int_tuple, x_ty_int_int, x_ty_int_bool, x_ty_int_list, x_ty_int_dict, x_ty_int_list_tuple, x_ty_int_tuple_list, x_ty_int_str_tuple, x_ty_int_tuple_str, x_ty_int_int_bool, x_ty_int_bool_int, x_ty_int_str_int, x_ty_int_int_str, x_ty_bool_str, x_ty_bool_tuple, x_ty_bool_int, x_ty_bool_bool, x_ty_bool_list, x_ty_bool_dict, x_ty_bool_list_tuple, x_ty_bool_tuple_list, x_ty_bool_str_tuple, x_ty_bool_tuple_str, x_ty_bool_int_bool, x_ty_bool_bool_int, x_ty_bool_str_int, x_ty_bool_int_str, x_ty_list_str, x_ty_list_tuple, x_ty_list_int, x_ty_list_bool, x_ty_list_list, x_ty_list_dict, x_ty_list_list_tuple, x_ty_list_tuple_list, x_ty_list_str_tuple, x_ty_list_tuple_str, x_ty_list_int_bool, x_ty_list_bool_int, x_ty_list_str_int, x_ty_list_int_str, x_ty_dict_str, x_ty_dict_tuple, x_ty_dict_int, x_ty_dict_bool, x_ty_dict_list, x_ty_dict_dict, x_ty_dict_list_tuple, x_ty_dict_tuple_list, x_ty_dict_str_tuple, x_ty_dict_tuple_str, x_ty_dict_int_bool, x_ty_dict_bool_int, x_ty_dict_str_int, x_ty_dict_int_str, x_puto, x_puto', List.map_cons, List.map_nil, List.length_cons, List.length_nil, List.cons_append, List.nil_append, List.replicate, Nat.sub_zero, Nat.sub_self, Nat.zero_add, Nat.reduceAdd, Nat.reduceSub, List.getElem?_cons_zero, List.getElem?_cons_succ, List.set_cons_zero, List.set_cons_succ, setF, wipeF, true_and, and_true, if_true, if_false, Bool.true_eq_false, Bool.false_eq_true, ite_true, ite_false, reduceIte, not_true_eq_false, not_false_eq_true, Bool.not_true, Bool.not_false, exists_eq_left', exists_const, ne_eq]
        refine ⟨by rw [List.length_map]; omega, hN _ _ ⟨rfl, ⟨ms, rfl⟩, ⟨ls' ++ [if m < 0 then -m else m], by show iL ls' ++ _ = List.map D.int _; rw [List.map_append]; rfl⟩, by simp only [List.length_append, List.length_map, List.length_cons, List.length_nil]; omega⟩⟩
  · rintro x xs acc S'' N ⟨rfl, ⟨ms, hm⟩, ⟨ls', rfl⟩, hlen⟩ hN
    cases ms with
    | nil => cases hm
    | cons m ms =>
      cases hm
      simp only [List.length_cons, List.length_map] at hlen
      try simp (maxSteps := 2000000) only [startF, wSs, wS, wE, wL, wO, wB, wI, x_add, x_adds, x_addl, x_addt, x_sub, x_mul, x_mult, x_mull, x_fdv, x_mod, x_pow, x_auga, x_augs, x_augm, x_eqi, x_eqs, x_eqb, x_nei, x_nes, x_neb, x_eqtt, x_eqrr, x_eqtr, x_eqrt, x_eqst, x_eqts, x_nett, x_nerr, x_netr, x_nert, x_nest, x_nets, x_lt, x_le, x_gt, x_ge, x_ins, x_isn, x_isnt, x_ixt, x_ixl, x_ixd, x_ixs, x_slt, x_sll, x_sls, x_std, x_stl, x_isin, x_isis, x_isit, x_isii, x_isib, x_lens, x_lent, x_lenf, x_lenl, x_inti, x_intb, x_abs, x_max2, x_min2, x_maxl, x_minl, x_mxd, x_tupl, x_tupt, x_lisl, x_list, x_liss, x_all, x_any, x_sum, x_repr, x_app, x_ext, x_pop, x_popa, x_join, x_rcva, x_rcve, x_rcvp, x_rcvq, x_rcvj, x_srct, x_srcf, x_srcs, x_srcl, x_seqt, x_seql, x_enu, x_enut, x_zipl, x_zipt, x_rng1, x_rng2, x_tg1, x_tgt, x_tgl, x_var, x_put, x_ex, x_exv, x_exl, x_exl0, x_exd, x_exb, x_exi, x_dec, x_decf, x_ndec, x_ndecf, x_ty_str_str, x_ty_str_tuple, x_ty_str_int, x_ty_str_bool, x_ty_str_list, x_ty_str_dict, x_ty_str_list_tuple, x_ty_str_tuple_list, x_ty_str_str_tuple, x_ty_str_tuple_str, x_ty_str_int_bool, x_ty_str_bool_int, x_ty_str_str_int, x_ty_str_int_str, x_ty_tuple_str, x_ty_tuple_tuple, x_ty_tuple_int, x_ty_tuple_bool, x_ty_tuple_list, x_ty_tuple_dict, x_ty_tuple_list_tuple, x_ty_tuple_tuple_list, x_ty_tuple_str_tuple, x_ty_tuple_tuple_str, x_ty_tuple_int_bool, x_ty_tuple_bool_int, x_ty_tuple_str_int, x_ty_tuple_int_str, x_ty_int_str, x_ty_int_tuple, x_ty_int_int, x_ty_int_bool, x_ty_int_list, x_ty_int_dict, x_ty_int_list_tuple, x_ty_int_tuple_list, x_ty_int_str_tuple, x_ty_int_tuple_str, x_ty_int_int_bool, x_ty_int_bool_int, x_ty_int_str_int, x_ty_int_int_str, x_ty_bool_str, x_ty_bool_tuple, x_ty_bool_int, x_ty_bool_bool, x_ty_bool_list, x_ty_bool_dict, x_ty_bool_list_tuple, x_ty_bool_tuple_list, x_ty_bool_str_tuple, x_ty_bool_tuple_str, x_ty_bool_int_bool, x_ty_bool_bool_int, x_ty_bool_str_int, x_ty_bool_int_str, x_ty_list_str, x_ty_list_tuple, x_ty_list_int, x_ty_list_bool, x_ty_list_list, x_ty_list_dict, x_ty_list_list_tuple, x_ty_list_tuple_list, x_ty_list_str_tuple, x_ty_list_tuple_str, x_ty_list_int_bool, x_ty_list_bool_int, x_ty_list_str_int, x_ty_list_int_str, x_ty_dict_str, x_ty_dict_tuple, x_ty_dict_int, x_ty_dict_bool, x_ty_dict_list, x_ty_dict_dict, x_ty_dict_list_tuple, x_ty_dict_tuple_list, x_ty_dict_str_tuple, x_ty_dict_tuple_str, x_ty_dict_int_bool, x_ty_dict_bool_int, x_ty_dict_str_int, x_ty_dict_int_str, x_puto, x_puto', List.map_cons, List.map_nil, List.length_cons, List.length_nil, List.cons_append, List.nil_append, List.replicate, Nat.sub_zero, Nat.sub_self, Nat.zero_add, Nat.reduceAdd, Nat.reduceSub, List.getElem?_cons_zero, List.getElem?_cons_succ, List.set_cons_zero, List.set_cons_succ, setF, wipeF, true_and, and_true, if_true, if_false, Bool.true_eq_false, Bool.false_eq_true, ite_true, ite_false, reduceIte, not_true_eq_false, not_false_eq_true, Bool.not_true, Bool.not_false, exists_eq_left', exists_const, ne_eq]
      refine ⟨⟨by decide, by decide, by decide⟩, ?_⟩
      generalize (if m < 0 then -m else m) = ab
      split
      · refine ⟨⟨by decide, by decide, by decide⟩, by rw [List.length_map]; omega, hN _ _ ⟨rfl, ⟨ms, rfl⟩, ⟨ls' ++ [ab - 10 ^ (18 : Int).toNat], by show iL ls' ++ _ = List.map D.int _; rw [List.map_append]; rfl⟩, by simp only [List.length_append, List.length_map, List.length_cons, List.length_nil]; omega⟩⟩
      · exact hN _ _ ⟨rfl, ⟨ms, rfl⟩, ⟨ls', rfl⟩, by simp only [List.length_map]; omega⟩
theorem wd {k : Nat} {f : Str} {fd : FD} {ds : List D} {S : Sto} {Q : KE} {E : XE} (h0 : 1 ≤ k) (h : tab.lookup f = some fd) (hl : ds.length = fd.ps.length) (hb : wSs (wC tab (k - 1)) fd.body { nx := fun _ S' => Q .non S', rt := Q } (fun c a _ S' => E c a S') (startF fd.n ds) S) : wC tab k f ds S Q E := by
  obtain ⟨j, rfl⟩ : ∃ j, k = j + 1 := ⟨k - 1, by omega⟩
  exact ⟨fd, h, hl, hb⟩
theorem d_take {k a l c : Nat} {n : Int} {S : Sto} {Q : KE} {E : XE} (hk : 2 ≤ k) (d : Draw S a l c) (n0 : 0 < n) (n1 : n < 1073741824) (hQ : ∀ i S', 0 ≤ i → i < n → Draw S' a l c → Kp a l S S' → Q (.int i) S') : wC tab k "_law_take" [.ref a, .int n] S Q E := by
  obtain ⟨j, rfl⟩ : ∃ j, k = j + 2 := ⟨k - 2, by omega⟩
  exact sp_take d n0 (.inl n1) hQ
theorem d_takeW {k a l c : Nat} {n : Int} {S : Sto} {Q : KE} {E : XE} (hk : 2 ≤ k) (d : Draw S a l c) (n0 : 0 < n) (n1 : n.natAbs.log2 < 9000) (hQ : ∀ i S', 0 ≤ i → i < n → Draw S' a l c → Kp a l S S' → Q (.int i) S') : wC tab k "_law_take" [.ref a, .int n] S Q E := by
  obtain ⟨j, rfl⟩ : ∃ j, k = j + 2 := ⟨k - 2, by omega⟩
  exact sp_take d n0 (.inr n1) hQ
theorem d_pick {k a l c p : Nat} {xs : List D} {S : Sto} {Q : KE} {E : XE} (hk : 3 ≤ k) (d : Draw S a l c) (hp : S p = some (.lst xs)) (pa : p ≠ a) (pl : p ≠ l) (x0 : 0 < xs.length) (x1 : xs.length < 1073741824) (hQ : ∀ v S', v ∈ xs → Draw S' a l c → Kp a l S S' → Q v S') :
    wC tab k "_law_pick" [.ref a, .ref p] S Q E := by
  obtain ⟨j, rfl⟩ : ∃ j, k = j + 3 := ⟨k - 3, by omega⟩
  exact sp_pick d hp pa pl x0 x1 hQ
theorem d_begun {k : Nat} {ns : List Int} {S : Sto} {Q : KE} {E : XE} (hk : 1 ≤ k) (hz : ns.length ≤ 1000) (hQ : ∀ a l c S', Draw S' a l c → (∀ p o, S p = some o → S' p = some o) → Q (.ref a) S') : wC tab k "_law_begun" [.fls (iL ns)] S Q E := by
  obtain ⟨j, rfl⟩ : ∃ j, k = j + 1 := ⟨k - 1, by omega⟩
  exact sp_begun hz hQ
/-- nothing that stood is changed -/
structure Ext (S S' : Sto) : Prop where
  k : ∀ p o, S p = some o → S' p = some o
theorem Ext.refl {S : Sto} : Ext S S := ⟨fun _ _ h => h⟩
theorem Ext.trans {S S1 S2 : Sto} (h : Ext S S1) (g : Ext S1 S2) : Ext S S2 := ⟨fun p o e => g.k p o (h.k p o e)⟩
theorem Ext.new {p : Nat} {S : Sto} {o : O} (h : S p = none) : Ext S (put S p o) := ⟨fun q u e => by
  have ne : q ≠ p := fun z => by rw [z, h] at e; cases e
  rw [put_ne ne]; exact e⟩
theorem Ext.kp {a l : Nat} {S S' : Sto} (h : Ext S S') : Kp a l S S' := ⟨fun p o e _ _ => h.k p o e⟩
theorem Ext.draw {a l c : Nat} {S S' : Sto} (h : Ext S S') (d : Draw S a l c) : Draw S' a l c := by
  obtain ⟨h1, h2, h3, r, t, ls, cs, e1, e2, e3⟩ := d
  exact ⟨h1, h2, h3, r, t, ls, cs, h.k _ _ e1, h.k _ _ e2, h.k _ _ e3⟩
theorem Ext.none {S S' : Sto} {p : Nat} (h : Ext S S') (e : S' p = none) : S p = none := by
  cases q : S p with
  | none => rfl
  | some o => rw [h.k p o q] at e; cases e
theorem loop_ext {α : Type} {ok : Sto → Prop} {step : D → List D → Sto → (List D → Sto → Prop) → Prop} {fin : List D → Sto → Prop} (g : α → D) (f : α → List D) {S : Sto} (hok : ∀ S', Ext S S' → ok S') : ∀ (xs : List α) (acc : List D) (S1 : Sto), Ext S S1 →
    acc.length + (xs.flatMap f).length < 16777216 → (∀ x ∈ xs, ∀ acc S' N, Ext S S' → acc.length + (f x).length < 16777216 → (∀ S'', Ext S' S'' → N (acc ++ f x) S'') → step (g x) acc S' N) → (∀ S', Ext S S' → fin (acc ++ xs.flatMap f) S') → loopW ok step fin (xs.map g) acc S1
  | [], acc, S1, e, _, _, hf => ⟨hok _ e, by simpa using hf S1 e⟩
  | x :: xs, acc, S1, e, hz, hs, hf => by
    simp only [List.flatMap_cons, List.length_append] at hz
    refine ⟨hok _ e, hs x List.mem_cons_self acc S1 _ e (by omega) fun S2 e2 => ?_⟩
    refine loop_ext g f hok xs (acc ++ f x) S2 (e.trans e2) (by simp only [List.length_append]; omega) (fun y hy => hs y (List.mem_cons_of_mem _ hy)) fun S' e' => ?_
    have := hf S' e'
    rw [List.flatMap_cons, ← List.append_assoc] at this
    exact this
theorem flatMap_one {α : Type} (f : α → D) : ∀ xs : List α, xs.flatMap (fun x => [f x]) = xs.map f
  | [] => rfl
  | x :: xs => by rw [List.flatMap_cons, flatMap_one f xs]; rfl
theorem loop_map {α : Type} {ok : Sto → Prop} {step : D → List D → Sto → (List D → Sto → Prop) → Prop} {fin : List D → Sto → Prop} (g f : α → D) {S : Sto} (hok : ∀ S', Ext S S' → ok S') (xs : List α) (hz : xs.length < 16777216)
    (hs : ∀ x ∈ xs, ∀ acc S' N, Ext S S' → acc.length < sizeLine → (∀ S'', Ext S' S'' → N (acc ++ [f x]) S'') → step (g x) acc S' N) (hf : ∀ S', Ext S S' → fin (xs.map f) S') : loopW ok step fin (xs.map g) [] S := by
  have e : xs.flatMap (fun x => [f x]) = xs.map f := flatMap_one f xs
  refine loop_ext g (fun x => [f x]) hok xs [] S .refl (by rw [e, List.length_map]; simpa using hz) (fun x hx acc S' N e2 hl hN => hs x hx acc S' N e2 (by rw [sizeLine_eq]; simp only [List.length_cons, List.length_nil] at hl; omega) hN) fun S' e' => ?_
  rw [List.nil_append, e]
  exact hf S' e'
theorem numbered_zip : ∀ (xs : List D) (n : Nat), Pi.numbered n xs = (xs.zipIdx n).map fun p => .tup [.int (p.2 : Nat), p.1]
  | [], n => rfl
  | x :: xs, n => by rw [Pi.numbered, numbered_zip xs (n + 1), List.zipIdx_cons, List.map_cons]
theorem numbered_map {α : Type} (g : α → D) : ∀ (xs : List α) (n : Nat), Pi.numbered n (xs.map g) = (xs.zipIdx n).map fun p => .tup [.int (p.2 : Nat), g p.1]
  | [], n => rfl
  | x :: xs, n => by rw [List.map_cons, Pi.numbered, numbered_map g xs (n + 1), List.zipIdx_cons, List.map_cons]
theorem intsB_map {α : Type} (f : α → Int) : ∀ xs : List α, intsB (xs.map fun x => D.int (f x)) = some (xs.map f)
  | [] => rfl
  | x :: xs => by
    show (intsB (xs.map fun x => D.int (f x))).map (f x :: ·) = _
    rw [intsB_map f xs]
    rfl
theorem Kp.put {a l p : Nat} {S S1 : Sto} {o : O} (h : Kp a l S S1) (n : S p = Option.none) : Kp a l S (put S1 p o) := ⟨fun q u e na nl => by
  have ne : q ≠ p := fun z => by rw [z, n] at e; cases e
  rw [put_ne ne]; exact h.k q u e na nl⟩
theorem Kp.none {a l p : Nat} {S S1 : Sto} (h : Kp a l S S1) (n : S1 p = none) (na : p ≠ a) (nl : p ≠ l) : S p = none := by
  cases q : S p with
  | none => rfl
  | some o => rw [h.k p o q na nl] at n; cases n
theorem Ext.put {p : Nat} {S S1 : Sto} {o : O} (h : Ext S S1) (n : S p = Option.none) : Ext S (put S1 p o) := ⟨fun q u e => by
  have ne : q ≠ p := fun z => by rw [z, n] at e; cases e
  rw [put_ne ne]; exact h.k q u e⟩

/-! kinds as trees -/
inductive T where | s (x : Str) | t (xs : List T)
namespace T
mutual
def d : T → D
  | .s x => .str x
  | .t xs => .tup (ds xs)
def ds : List T → List D
  | [] => []
  | x :: xs => d x :: ds xs
end
mutual
def py : T → PyData
  | .s x => .str x
  | .t xs => .tuple (pys xs)
def pys : List T → List PyData
  | [] => []
  | x :: xs => py x :: pys xs
end
mutual
/-- the names, from the left -/
def nm : T → List Str
  | .s x => [x]
  | .t xs => nms xs
def nms : List T → List Str
  | [] => []
  | x :: xs => nm x ++ nms xs
end
mutual
def dp : T → Nat
  | .s _ => 0
  | .t xs => 1 + dps xs
def dps : List T → Nat
  | [] => 0
  | x :: xs => max (dp x) (dps xs)
end
theorem ds_map : ∀ xs : List T, ds xs = xs.map d
  | [] => rfl
  | x :: xs => by rw [ds, ds_map xs]; rfl
theorem pys_map : ∀ xs : List T, pys xs = xs.map py
  | [] => rfl
  | x :: xs => by rw [pys, pys_map xs]; rfl
theorem nms_map : ∀ xs : List T, nms xs = xs.flatMap nm
  | [] => rfl
  | x :: xs => by rw [nms, nms_map xs]; rfl
theorem dps_le : ∀ {xs : List T} {x : T}, x ∈ xs → dp x ≤ dps xs
  | [], _, h => nomatch h
  | y :: ys, x, h => by
    rw [dps]
    rcases List.mem_cons.mp h with e | h
    · rw [e]; exact Nat.le_max_left _ _
    · exact Nat.le_trans (dps_le h) (Nat.le_max_right _ _)
theorem dps_of : ∀ {xs : List T} {n : Nat}, (∀ x ∈ xs, dp x ≤ n) → dps xs ≤ n
  | [], n, _ => Nat.zero_le _
  | y :: ys, n, h => by
    rw [dps]
    exact Nat.max_le.mpr ⟨h y List.mem_cons_self, dps_of fun x hx => h x (List.mem_cons_of_mem _ hx)⟩
mutual
theorem py_of {S : Sto} : ∀ t : T, PyOf S (d t) (py t)
  | .s x => .str x
  | .t xs => .tup (pys_of xs)
theorem pys_of {S : Sto} : ∀ xs : List T, PyOfs S (ds xs) (pys xs)
  | [] => .nil
  | x :: xs => .cons (py_of x) (pys_of xs)
end
end T
/-- the alphabet -/
abbrev abc : Str := "abcdefghijklmnopqrstuvwxyz"
def nameB (x : Str) : Bool := decide (1 ≤ x.length) && decide (x.length ≤ 3) && x.cps.toList.all fun c => decide (c ∈ abc.cps.toList)
theorem nameB_len {x : Str} (h : nameB x = true) : 1 ≤ x.length ∧ x.length ≤ 3 := by
  unfold nameB at h
  simp only [Bool.and_eq_true, decide_eq_true_eq] at h
  exact h.1
theorem abc_small : ∀ c ∈ abc.cps.toList, c < 128 := by decide
theorem nameB_ok {x : Str} (h : nameB x = true) : PyData.strOk x = true := by
  unfold nameB at h
  simp only [Bool.and_eq_true, decide_eq_true_eq, List.all_eq_true] at h
  show x.cps.all (· < 0x110000) = true
  rw [Array.all_eq_true_iff_forall_mem]
  intro c hc
  have := abc_small c (h.2 c (Array.mem_toList_iff.mpr hc))
  simp only [decide_eq_true_eq]
  omega
def wideB (n : Nat) : Bool := decide (2 ≤ n) && decide (n ≤ 8)
/-- the last item is a name -/
def endB (xs : List T) : Bool := match xs.getLast? with
  | some (.s x) => nameB x
  | _ => false
/-- has_form -/
def hf : Nat → T → Bool
  | _, .s x => nameB x
  | 0, .t _ => false
  | n + 1, .t xs => wideB xs.length && endB xs && xs.dropLast.all (hf n)
/-- is_kind -/
def kindB (t : T) : Bool := hf 4 t && decide (t.nm.length ≤ 14)
theorem hf_all {n : Nat} {xs : List T} (h : hf (n + 1) (.t xs) = true) : ∀ x ∈ xs, hf n x = true := by
  unfold hf at h
  simp only [Bool.and_eq_true, List.all_eq_true] at h
  intro x hx
  have hne : xs ≠ [] := fun e => by rw [e] at hx; cases hx
  rcases List.mem_append.mp (by rw [List.dropLast_concat_getLast hne]; exact hx : x ∈ xs.dropLast ++ [xs.getLast hne]) with h1 | h1
  · exact h.2 x h1
  · have e : x = xs.getLast hne := by simpa using h1
    have h2 := h.1.2
    unfold endB at h2
    rw [List.getLast?_eq_some_getLast hne, ← e] at h2
    cases x with
    | s y => cases n <;> exact h2
    | t ys => cases h2
theorem hf_len {n : Nat} {xs : List T} (h : hf (n + 1) (.t xs) = true) : 2 ≤ xs.length ∧ xs.length ≤ 8 := by
  unfold hf wideB at h
  simp only [Bool.and_eq_true, decide_eq_true_eq] at h
  exact h.1.1
theorem hf_dp : ∀ {n : Nat} {t : T}, hf n t = true → t.dp ≤ n
  | n, .s x, _ => by show 0 ≤ n; omega
  | 0, .t xs, h => by cases h
  | n + 1, .t xs, h => by
    have h1 : T.dps xs ≤ n := T.dps_of fun x hx => hf_dp (hf_all h x hx)
    show 1 + T.dps xs ≤ n + 1
    omega
/-- what a kind weighs -/
def wt : Nat → Nat
  | 0 => 3
  | n + 1 => 8 * (wt n + 1)
theorem weightAll_le : ∀ {xs : List PyData} {w : Nat}, (∀ x ∈ xs, PyData.weight x ≤ w) → PyData.weightAll xs ≤ xs.length * (w + 1)
  | [], w, _ => Nat.zero_le _
  | x :: xs, w, h => by
    have h1 := h x List.mem_cons_self
    have h2 := weightAll_le fun y hy => h y (List.mem_cons_of_mem _ hy)
    simp only [PyData.weightAll, List.length_cons]
    have e : (xs.length + 1) * (w + 1) = xs.length * (w + 1) + (w + 1) := by rw [Nat.add_mul, Nat.one_mul]
    omega
theorem wt_le : ∀ {n : Nat}, 3 ≤ wt n
  | 0 => Nat.le_refl _
  | n + 1 => by have := @wt_le n; show 3 ≤ 8 * (wt n + 1); omega
theorem hf_wt : ∀ {n : Nat} {t : T}, hf n t = true → PyData.weight t.py ≤ wt n ∧ PyData.canLay0 t.py = true ∧ PyData.depth t.py ≤ n ∧ PyData.intsShort 13 t.py = true
  | n, .s x, h => by
    have hb : nameB x = true := by cases n <;> exact h
    refine ⟨Nat.le_trans (show x.cps.size ≤ 3 from (nameB_len hb).2) wt_le, nameB_ok hb, Nat.zero_le _, rfl⟩
  | 0, .t xs, h => by cases h
  | n + 1, .t xs, h => by
    have ih := fun x hx => hf_wt (hf_all h x hx)
    have hl := (hf_len h).2
    have h1 : PyData.weightAll (T.pys xs) ≤ xs.length * (wt n + 1) := by
      have := weightAll_le (xs := T.pys xs) (w := wt n) (by
        rw [T.pys_map]
        intro y hy
        obtain ⟨x, hx, rfl⟩ := List.mem_map.mp hy
        exact (ih x hx).1)
      rw [T.pys_map, List.length_map] at this
      rw [T.pys_map]
      exact this
    have all : ∀ ys : List T, (∀ x ∈ ys, PyData.canLay0 x.py = true ∧ PyData.depth x.py ≤ n ∧ PyData.intsShort 13 x.py = true) → PyData.canLayAll0 (T.pys ys) = true ∧ PyData.depthAll (T.pys ys) ≤ n ∧ PyData.intsShortAll 13 (T.pys ys) = true := by
      intro ys
      induction ys with
      | nil => intro _; exact ⟨rfl, Nat.zero_le _, rfl⟩
      | cons y ys hi =>
        intro hy
        obtain ⟨a, b, c⟩ := hy y List.mem_cons_self
        obtain ⟨a', b', c'⟩ := hi fun z hz => hy z (List.mem_cons_of_mem _ hz)
        simp only [T.pys, PyData.canLayAll0, PyData.depthAll, PyData.intsShortAll, a, a', c, c', Bool.and_self, true_and, and_true]
        exact Nat.max_le.mpr ⟨b, b'⟩
    obtain ⟨a, b, c⟩ := all xs fun x hx => (ih x hx).2
    have m : xs.length * (wt n + 1) ≤ 8 * (wt n + 1) := Nat.mul_le_mul_right _ hl
    refine ⟨Nat.le_trans (show PyData.weightAll (T.pys xs) ≤ _ from h1) m, a, ?_, c⟩
    show PyData.depthAll (T.pys xs) + 1 ≤ n + 1
    omega
theorem sIx_neg1 (n : Nat) : HT.sIx n n (some (-1)) = n - 1 := by
  unfold HT.sIx
  dsimp only
  rw [if_pos (by decide)]
  omega
theorem cut_last (xs : List D) : cutD xs none (some (-1)) = xs.dropLast := by
  unfold cutD
  rw [sIx_neg1, List.dropLast_eq_take]
  rfl
theorem atI_last {xs : List D} (h : xs ≠ []) : L2.atI xs (-1) = some (xs.getLast h) := by
  have hl := List.length_pos_iff.mpr h
  unfold L2.atI L2.ixN
  rw [if_neg (by decide), if_pos (by omega)]
  show xs[_]? = _
  rw [show ((-1 : Int) + (xs.length : Nat)).toNat = xs.length - 1 by omega, List.getLast_eq_getElem]
  exact List.getElem?_eq_getElem (by omega)
mutual
/-- texts and tuples of a size that can be walked -/
def T.sh : T → Prop
  | .s x => x.length ≤ 1000
  | .t xs => xs.length ≤ 1000 ∧ T.shs xs
def T.shs : List T → Prop
  | [] => True
  | x :: xs => T.sh x ∧ T.shs xs
end
theorem T.shs_all : ∀ {xs : List T}, T.shs xs ↔ ∀ x ∈ xs, T.sh x
  | [] => ⟨fun _ _ h => (nomatch h), fun _ => trivial⟩
  | x :: xs => by
    rw [List.forall_mem_cons, ← T.shs_all]
    exact Iff.rfl
theorem hf_sh : ∀ {n : Nat} {t : T}, hf n t = true → t.sh
  | n, .s x, h => by
    have hb : nameB x = true := by cases n <;> exact h
    have := (nameB_len hb).2
    show x.length ≤ 1000
    omega
  | 0, .t xs, h => by cases h
  | n + 1, .t xs, h => ⟨by have := (hf_len h).2; omega, T.shs_all.mpr fun x hx => hf_sh (hf_all h x hx)⟩
namespace T
def pa : T → List T
  | .s _ => []
  | .t xs => xs.dropLast
def en : T → T
  | .s x => .s x
  | .t xs => (xs.getLast?).getD (.t [])
mutual
def sd : T → Bool → List Bool
  | .s _, b => [!b]
  | .t xs, b => sds xs (!b) ++ [!b]
def sds : List T → Bool → List Bool
  | [], _ => []
  | x :: r, b => if r.isEmpty then [] else sd x b ++ sds r b
end
mutual
def od : T → Nat
  | .s _ => 0
  | .t xs => 1 + ods xs
def ods : List T → Nat
  | [] => 0
  | x :: r => if r.isEmpty then 0 else max (od x) (ods r)
end
theorem sds_eq : ∀ (xs : List T) (b : Bool), sds xs b = xs.dropLast.flatMap fun x => sd x b
  | [], b => rfl
  | [x], b => rfl
  | x :: y :: r, b => by
    rw [sds]
    show sd x b ++ sds (y :: r) b = _
    rw [sds_eq (y :: r) b]
    rfl
theorem sd_eq (t : T) (b : Bool) : sd t b = (t.pa.flatMap fun x => sd x (!b)) ++ [!b] := by
  cases t with
  | s x => rfl
  | t xs => rw [sd, sds_eq]; rfl
theorem ods_le : ∀ {xs : List T} {x : T}, x ∈ xs.dropLast → od x ≤ ods xs
  | [], _, h => nomatch h
  | [y], _, h => nomatch h
  | y :: z :: r, x, h => by
    rw [ods]
    show od x ≤ max (od y) (ods (z :: r))
    rcases List.mem_cons.mp (show x ∈ y :: (z :: r).dropLast from h) with e | h
    · rw [e]; exact Nat.le_max_left _ _
    · exact Nat.le_trans (ods_le h) (Nat.le_max_right _ _)
theorem ods_mem : ∀ {xs : List T}, xs.dropLast ≠ [] → ∃ x ∈ xs.dropLast, od x = ods xs
  | [], h => absurd rfl h
  | [y], h => absurd rfl h
  | [y, z], h => ⟨y, List.mem_singleton.mpr rfl, by rw [ods]; show od y = max (od y) (ods [z]); rw [show ods [z] = 0 from rfl]; omega⟩
  | y :: z :: w :: r, h => by
    obtain ⟨x, hx, e⟩ := ods_mem (xs := z :: w :: r) (fun q => nomatch q)
    have e2 : ods (y :: z :: w :: r) = max (od y) (ods (z :: w :: r)) := by rw [ods]; rfl
    rcases Nat.le_total (od y) (ods (z :: w :: r)) with h1 | h1
    · exact ⟨x, List.mem_cons_of_mem _ hx, by rw [e2, e]; omega⟩
    · exact ⟨y, List.mem_cons_self, by rw [e2]; omega⟩
theorem dp_mem {xs : List T} {x : T} (h : x ∈ xs) : dp x < dp (.t xs) := by
  have := dps_le h
  show dp x < 1 + dps xs
  omega
theorem nm_mem {xs : List T} {x : T} (h : x ∈ xs) : (nm x).length ≤ (nms xs).length := by
  rw [nms_map]
  induction xs with
  | nil => cases h
  | cons y ys ih =>
    rw [List.flatMap_cons, List.length_append]
    rcases List.mem_cons.mp h with e | h
    · rw [e]; omega
    · have := ih h; omega
end T
theorem T.nms_append (xs ys : List T) : T.nms (xs ++ ys) = T.nms xs ++ T.nms ys := by rw [T.nms_map, T.nms_map, T.nms_map, List.flatMap_append]
theorem hf_last {n : Nat} {xs : List T} (h : hf (n + 1) (.t xs) = true) : ∃ y, xs = xs.dropLast ++ [.s y] ∧ nameB y = true := by
  have hl := (hf_len h).1
  have hne : xs ≠ [] := fun z => by rw [z] at hl; exact absurd hl (by decide)
  unfold hf at h
  simp only [Bool.and_eq_true] at h
  have h2 := h.1.2
  unfold endB at h2
  rw [List.getLast?_eq_some_getLast hne] at h2
  have e := List.dropLast_concat_getLast hne
  cases q : xs.getLast hne with
  | s y =>
    rw [q] at h2 e
    exact ⟨y, e.symm, h2⟩
  | t ys => rw [q] at h2; cases h2
theorem sd_len : ∀ {n : Nat} {t : T} {b : Bool}, hf n t = true → (t.sd b).length = t.nm.length
  | n, .s x, b, _ => rfl
  | 0, .t xs, b, h => by cases h
  | n + 1, .t xs, b, h => by
    obtain ⟨y, e, _⟩ := hf_last h
    have all := hf_all h
    rw [T.sd_eq]
    show ((T.pa (.t xs)).flatMap _ ++ _).length = (T.nms xs).length
    rw [e, T.nms_append, List.length_append, List.length_append]
    have hp : T.pa (.t (xs.dropLast ++ [.s y])) = xs.dropLast := by show (xs.dropLast ++ [T.s y]).dropLast = _; exact List.dropLast_concat
    rw [hp]
    have key : ∀ ys : List T, (∀ x ∈ ys, hf n x = true) → (ys.flatMap fun x => x.sd (!b)).length = (T.nms ys).length := by
      intro ys
      induction ys with
      | nil => intro _; rfl
      | cons z zs ih =>
        intro hz
        rw [List.flatMap_cons, List.length_append, T.nms, List.length_append, ih fun x hx => hz x (List.mem_cons_of_mem _ hx), sd_len (hz z List.mem_cons_self)]
    rw [key xs.dropLast fun x hx => all x (List.dropLast_subset _ hx)]
    rfl
theorem hf_t (n : Nat) (xs : List T) : hf (n + 1) (.t xs) = (wideB xs.length && endB xs && xs.dropLast.all (hf n)) := by unfold hf; rfl
theorem hf_s {n : Nat} {x : Str} (h : nameB x = true) : hf n (.s x) = true := by cases n <;> exact h
theorem hf_mono : ∀ {n m : Nat} {t : T}, n ≤ m → hf n t = true → hf m t = true
  | n, m, .s x, _, h => by
    have hb : nameB x = true := by cases n <;> exact h
    exact hf_s hb
  | 0, m, .t xs, _, h => by cases h
  | n + 1, 0, .t xs, h, _ => by omega
  | n + 1, m + 1, .t xs, hm, h => by
    rw [hf_t] at h ⊢
    simp only [Bool.and_eq_true, List.all_eq_true] at h ⊢
    exact ⟨h.1, fun x hx => hf_mono (by omega) (h.2 x hx)⟩

/-! the library's words on kinds -/
theorem allB_map {α : Type} {f : α → Bool} {xs : List α} : allB (xs.map fun c => D.bl (f c)) = some (xs.all f) := by
  induction xs with
  | nil => rfl
  | cons x xs ih =>
    show (allB (xs.map fun c => D.bl (f c))).map (f x && ·) = _
    rw [ih]
    rfl
theorem d_is_name_s {k : Nat} {x : Str} {S : Sto} {Q : KE} {E : XE} (hk : 1 ≤ k) (hx : x.length ≤ 1000) (hQ : ∀ S', Ext S S' → Q (.bl (nameB x)) S') : wC tab k "is_name" [.str x] S Q E := by
  refine wd (fd := f_is_name) hk rfl rfl ?_
  unfold f_is_name
  have sz := sizeLine_eq
  try simp (maxSteps := 2000000) only [startF, wSs, wS, wE, wL, wO, wB, wI, x_add, x_adds, x_addl, x_addt, x_sub, x_mul, x_mult, x_mull, x_fdv, x_mod, x_pow, x_auga, x_augs, x_augm, x_eqi, x_eqs, x_eqb, x_nei, x_nes, x_neb, x_eqtt, x_eqrr, x_eqtr, x_eqrt, x_eqst, x_eqts, x_nett, x_nerr, x_netr, x_nert, x_nest, x_nets, x_lt, x_le, x_gt, x_ge, x_ins, x_isn, x_isnt, x_ixt, x_ixl, x_ixd, x_ixs, x_slt, x_sll, x_sls, x_std, x_stl, x_isin, x_isis, x_isit, x_isii, x_isib, x_lens, x_lent, x_lenf, x_lenl, x_inti, x_intb, x_abs, x_max2, x_min2, x_maxl, x_minl, x_mxd, x_tupl, x_tupt, x_lisl, x_list, x_liss, x_all, x_any, x_sum, x_repr, x_app, x_ext, x_pop, x_popa, x_join, x_rcva, x_rcve, x_rcvp, x_rcvq, x_rcvj, x_srct, x_srcf, x_srcs, x_srcl, x_seqt, x_seql, x_enu, x_enut, x_zipl, x_zipt, x_rng1, x_rng2, x_tg1, x_tgt, x_tgl, x_var, x_put, x_ex, x_exv, x_exl, x_exl0, x_exd, x_exb, x_exi, x_dec, x_decf, x_ndec, x_ndecf, x_ty_str_str, x_ty_str_tuple, x_ty_str_int, x_ty_str_bool, x_ty_str_list, x_ty_str_dict, x_ty_str_list_tuple, x_ty_str_tuple_list, x_ty_str_str_tuple, x_ty_str_tuple_str, x_ty_str_int_bool, x_ty_str_bool_int, x_ty_str_str_int, x_ty_str_int_str, x_ty_tuple_str, x_ty_tuple_tuple, x_ty_tuple_int, x_ty_tuple_bool, x_ty_tuple_list, x_ty_tuple_dict, x_ty_tuple_list_tuple, x_ty_tuple_tuple_list, x_ty_tuple_str_tuple, x_ty_tuple_tuple_str, x_ty_tuple_int_bool, x_ty_tuple_bool_int, x_ty_tuple_str_int, x_ty_tuple_int_str, x_ty_int_str, x_ty_int_tuple, x_ty_int_int, x_ty_int_bool, x_ty_int_list, x_ty_int_dict, x_ty_int_list_tuple, x_ty_int_tuple_list, x_ty_int_str_tuple, x_ty_int_tuple_str, x_ty_int_int_bool, x_ty_int_bool_int, x_ty_int_str_int, x_ty_int_int_str, x_ty_bool_str, x_ty_bool_tuple, x_ty_bool_int, x_ty_bool_bool, x_ty_bool_list, x_ty_bool_dict, x_ty_bool_list_tuple, x_ty_bool_tuple_list, x_ty_bool_str_tuple, x_ty_bool_tuple_str, x_ty_bool_int_bool, x_ty_bool_bool_int, x_ty_bool_str_int, x_ty_bool_int_str, x_ty_list_str, x_ty_list_tuple, x_ty_list_int, x_ty_list_bool, x_ty_list_list, x_ty_list_dict, x_ty_list_list_tuple, x_ty_list_tuple_list, x_ty_list_str_tuple, x_ty_list_tuple_str, x_ty_list_int_bool, x_ty_list_bool_int, x_ty_list_str_int, x_ty_list_int_str, x_ty_dict_str, x_ty_dict_tuple, x_ty_dict_int, x_ty_dict_bool, x_ty_dict_list, x_ty_dict_dict, x_ty_dict_list_tuple, x_ty_dict_tuple_list, x_ty_dict_str_tuple, x_ty_dict_tuple_str, x_ty_dict_int_bool, x_ty_dict_bool_int, x_ty_dict_str_int, x_ty_dict_int_str, x_puto, x_puto', List.map_cons, List.map_nil, List.length_cons, List.length_nil, List.cons_append, List.nil_append, List.replicate, Nat.sub_zero, Nat.sub_self, Nat.zero_add, Nat.reduceAdd, Nat.reduceSub, List.getElem?_cons_zero, List.getElem?_cons_succ, List.set_cons_zero, List.set_cons_succ, setF, wipeF, true_and, and_true, if_true, if_false, Bool.true_eq_false, Bool.false_eq_true, ite_true, ite_false, reduceIte, not_true_eq_false, not_false_eq_true, Bool.not_true, Bool.not_false, exists_eq_left', exists_const, ne_eq]
  refine ⟨by omega, ?_⟩
  split
  · split
    · refine loop_map (fun c => .str ⟨#[c]⟩) (fun c => D.bl (decide (c ∈ abc.cps.toList))) (fun _ _ => trivial) x.cps.toList (by have h : x.cps.size ≤ 1000 := hx; rw [Array.length_toList]; omega) (fun c hc acc S' N e hl hN => ?_) fun S' e p hp => ?_
      · try simp (maxSteps := 2000000) only [startF, wSs, wS, wE, wL, wO, wB, wI, x_add, x_adds, x_addl, x_addt, x_sub, x_mul, x_mult, x_mull, x_fdv, x_mod, x_pow, x_auga, x_augs, x_augm, x_eqi, x_eqs, x_eqb, x_nei, x_nes, x_neb, x_eqtt, x_eqrr, x_eqtr, x_eqrt, x_eqst, x_eqts, x_nett, x_nerr, x_netr, x_nert, x_nest, x_nets, x_lt, x_le, x_gt, x_ge, x_ins, x_isn, x_isnt, x_ixt, x_ixl, x_ixd, x_ixs, x_slt, x_sll, x_sls, x_std, x_stl, x_isin, x_isis, x_isit, x_isii, x_isib, x_lens, x_lent, x_lenf, x_lenl, x_inti, x_intb, x_abs, x_max2, x_min2, x_maxl, x_minl, x_mxd, x_tupl, x_tupt, x_lisl, x_list, x_liss, x_all, x_any, x_sum, x_repr, x_app, x_ext, x_pop, x_popa, x_join, x_rcva, x_rcve, x_rcvp, x_rcvq, x_rcvj, x_srct, x_srcf, x_srcs, x_srcl, x_seqt, x_seql, x_enu, x_enut, x_zipl, x_zipt, x_rng1, x_rng2, x_tg1, x_tgt, x_tgl, x_var, x_put, x_ex, x_exv, x_exl, x_exl0, x_exd, x_exb, x_exi, x_dec, x_decf, x_ndec, x_ndecf, x_ty_str_str, x_ty_str_tuple, x_ty_str_int, x_ty_str_bool, x_ty_str_list, x_ty_str_dict, x_ty_str_list_tuple, x_ty_str_tuple_list, x_ty_str_str_tuple, x_ty_str_tuple_str, x_ty_str_int_bool, x_ty_str_bool_int, x_ty_str_str_int, x_ty_str_int_str, x_ty_tuple_str, x_ty_tuple_tuple, x_ty_tuple_int, x_ty_tuple_bool, x_ty_tuple_list, x_ty_tuple_dict, x_ty_tuple_list_tuple, x_ty_tuple_tuple_list, x_ty_tuple_str_tuple, x_ty_tuple_tuple_str, x_ty_tuple_int_bool, x_ty_tuple_bool_int, x_ty_tuple_str_int, x_ty_tuple_int_str, x_ty_int_str, x_ty_int_tuple, x_ty_int_int, x_ty_int_bool, x_ty_int_list, x_ty_int_dict, x_ty_int_list_tuple, x_ty_int_tuple_list, x_ty_int_str_tuple, x_ty_int_tuple_str, x_ty_int_int_bool, x_ty_int_bool_int, x_ty_int_str_int, x_ty_int_int_str, x_ty_bool_str, x_ty_bool_tuple, x_ty_bool_int, x_ty_bool_bool, x_ty_bool_list, x_ty_bool_dict, x_ty_bool_list_tuple, x_ty_bool_tuple_list, x_ty_bool_str_tuple, x_ty_bool_tuple_str, x_ty_bool_int_bool, x_ty_bool_bool_int, x_ty_bool_str_int, x_ty_bool_int_str, x_ty_list_str, x_ty_list_tuple, x_ty_list_int, x_ty_list_bool, x_ty_list_list, x_ty_list_dict, x_ty_list_list_tuple, x_ty_list_tuple_list, x_ty_list_str_tuple, x_ty_list_tuple_str, x_ty_list_int_bool, x_ty_list_bool_int, x_ty_list_str_int, x_ty_list_int_str, x_ty_dict_str, x_ty_dict_tuple, x_ty_dict_int, x_ty_dict_bool, x_ty_dict_list, x_ty_dict_dict, x_ty_dict_list_tuple, x_ty_dict_tuple_list, x_ty_dict_str_tuple, x_ty_dict_tuple_str, x_ty_dict_int_bool, x_ty_dict_bool_int, x_ty_dict_str_int, x_ty_dict_int_str, x_puto, x_puto', List.map_cons, List.map_nil, List.length_cons, List.length_nil, List.cons_append, List.nil_append, List.replicate, Nat.sub_zero, Nat.sub_self, Nat.zero_add, Nat.reduceAdd, Nat.reduceSub, List.getElem?_cons_zero, List.getElem?_cons_succ, List.set_cons_zero, List.set_cons_succ, setF, wipeF, true_and, and_true, if_true, if_false, Bool.true_eq_false, Bool.false_eq_true, ite_true, ite_false, reduceIte, not_true_eq_false, not_false_eq_true, Bool.not_true, Bool.not_false, exists_eq_left', exists_const, ne_eq]
        exact ⟨c, rfl, hl, hN S' .refl⟩
      · refine ⟨_, allB_map, ?_⟩
        have en : nameB x = x.cps.toList.all fun c => decide (c ∈ abc.cps.toList) := by
          unfold nameB
          rw [decide_eq_true (show 1 ≤ x.length by omega), decide_eq_true (show x.length ≤ 3 by omega)]
          rfl
        rw [← en]
        exact hQ _ (e.trans (Ext.new hp))
    · rename_i h1 h2
      have e : nameB x = decide (((x.length : Nat) : Int) ≤ 3) := by
        rw [decide_eq_false h2]
        unfold nameB
        rw [decide_eq_false (show ¬ x.length ≤ 3 by omega), Bool.and_false, Bool.false_and]
      rw [← e]
      exact hQ S .refl
  · rename_i h1
    have e : nameB x = false := by
      unfold nameB
      rw [decide_eq_false (show ¬ 1 ≤ x.length by omega), Bool.false_and, Bool.false_and]
    rw [← e]
    exact hQ S .refl
theorem d_is_name_t {k : Nat} {xs : List D} {S : Sto} {Q : KE} {E : XE} (hk : 1 ≤ k) (hQ : Q (.bl false) S) : wC tab k "is_name" [.tup xs] S Q E := by
  refine wd (fd := f_is_name) hk rfl rfl ?_
  unfold f_is_name
  try simp (maxSteps := 2000000) only [startF, wSs, wS, wE, wL, wO, wB, wI, x_add, x_adds, x_addl, x_addt, x_sub, x_mul, x_mult, x_mull, x_fdv, x_mod, x_pow, x_auga, x_augs, x_augm, x_eqi, x_eqs, x_eqb, x_nei, x_nes, x_neb, x_eqtt, x_eqrr, x_eqtr, x_eqrt, x_eqst, x_eqts, x_nett, x_nerr, x_netr, x_nert, x_nest, x_nets, x_lt, x_le, x_gt, x_ge, x_ins, x_isn, x_isnt, x_ixt, x_ixl, x_ixd, x_ixs, x_slt, x_sll, x_sls, x_std, x_stl, x_isin, x_isis, x_isit, x_isii, x_isib, x_lens, x_lent, x_lenf, x_lenl, x_inti, x_intb, x_abs, x_max2, x_min2, x_maxl, x_minl, x_mxd, x_tupl, x_tupt, x_lisl, x_list, x_liss, x_all, x_any, x_sum, x_repr, x_app, x_ext, x_pop, x_popa, x_join, x_rcva, x_rcve, x_rcvp, x_rcvq, x_rcvj, x_srct, x_srcf, x_srcs, x_srcl, x_seqt, x_seql, x_enu, x_enut, x_zipl, x_zipt, x_rng1, x_rng2, x_tg1, x_tgt, x_tgl, x_var, x_put, x_ex, x_exv, x_exl, x_exl0, x_exd, x_exb, x_exi, x_dec, x_decf, x_ndec, x_ndecf, x_ty_str_str, x_ty_str_tuple, x_ty_str_int, x_ty_str_bool, x_ty_str_list, x_ty_str_dict, x_ty_str_list_tuple, x_ty_str_tuple_list, x_ty_str_str_tuple, x_ty_str_tuple_str, x_ty_str_int_bool, x_ty_str_bool_int, x_ty_str_str_int, x_ty_str_int_str, x_ty_tuple_str, x_ty_tuple_tuple, x_ty_tuple_int, x_ty_tuple_bool, x_ty_tuple_list, x_ty_tuple_dict, x_ty_tuple_list_tuple, x_ty_tuple_tuple_list, x_ty_tuple_str_tuple, x_ty_tuple_tuple_str, x_ty_tuple_int_bool, x_ty_tuple_bool_int, x_ty_tuple_str_int, x_ty_tuple_int_str, x_ty_int_str, x_ty_int_tuple, x_ty_int_int, x_ty_int_bool, x_ty_int_list, x_ty_int_dict, x_ty_int_list_tuple, x_ty_int_tuple_list, x_ty_int_str_tuple, x_ty_int_tuple_str, x_ty_int_int_bool, x_ty_int_bool_int, x_ty_int_str_int, x_ty_int_int_str, x_ty_bool_str, x_ty_bool_tuple, x_ty_bool_int, x_ty_bool_bool, x_ty_bool_list, x_ty_bool_dict, x_ty_bool_list_tuple, x_ty_bool_tuple_list, x_ty_bool_str_tuple, x_ty_bool_tuple_str, x_ty_bool_int_bool, x_ty_bool_bool_int, x_ty_bool_str_int, x_ty_bool_int_str, x_ty_list_str, x_ty_list_tuple, x_ty_list_int, x_ty_list_bool, x_ty_list_list, x_ty_list_dict, x_ty_list_list_tuple, x_ty_list_tuple_list, x_ty_list_str_tuple, x_ty_list_tuple_str, x_ty_list_int_bool, x_ty_list_bool_int, x_ty_list_str_int, x_ty_list_int_str, x_ty_dict_str, x_ty_dict_tuple, x_ty_dict_int, x_ty_dict_bool, x_ty_dict_list, x_ty_dict_dict, x_ty_dict_list_tuple, x_ty_dict_tuple_list, x_ty_dict_str_tuple, x_ty_dict_tuple_str, x_ty_dict_int_bool, x_ty_dict_bool_int, x_ty_dict_str_int, x_ty_dict_int_str, x_puto, x_puto', List.map_cons, List.map_nil, List.length_cons, List.length_nil, List.cons_append, List.nil_append, List.replicate, Nat.sub_zero, Nat.sub_self, Nat.zero_add, Nat.reduceAdd, Nat.reduceSub, List.getElem?_cons_zero, List.getElem?_cons_succ, List.set_cons_zero, List.set_cons_succ, setF, wipeF, true_and, and_true, if_true, if_false, Bool.true_eq_false, Bool.false_eq_true, ite_true, ite_false, reduceIte, not_true_eq_false, not_false_eq_true, Bool.not_true, Bool.not_false, exists_eq_left', exists_const, ne_eq]
  exact hQ
def isN : T → Bool
  | .s x => nameB x
  | .t _ => false
theorem d_is_name {k : Nat} {t : T} {S : Sto} {Q : KE} {E : XE} (hk : 1 ≤ k) (ht : t.sh) (hQ : ∀ S', Ext S S' → Q (.bl (isN t)) S') : wC tab k "is_name" [t.d] S Q E := by
  cases t with
  | s x => exact d_is_name_s hk ht hQ
  | t xs => exact d_is_name_t hk (hQ S .refl)
theorem hf_isN {n : Nat} {t : T} (h : isN t = true) : hf n t = true := by
  cases t with
  | s x => cases n <;> exact h
  | t xs => cases h
theorem ds_len (xs : List T) : (T.ds xs).length = xs.length := by rw [T.ds_map, List.length_map]
theorem ds_dropLast (xs : List T) : (T.ds xs).dropLast = T.ds xs.dropLast := by rw [T.ds_map, T.ds_map, List.map_dropLast]
theorem d_has_form : ∀ {n k : Nat} {t : T} {S : Sto} {Q : KE} {E : XE}, n + 2 ≤ k → t.sh → (∀ S', Ext S S' → Q (.bl (hf n t)) S') → wC tab k "has_form" [t.d, .int n] S Q E
  | n, k, t, S, Q, E, hk, ht, hQ => by
    refine wd (fd := f_has_form) (by omega) rfl rfl ?_
    unfold f_has_form
    have sz := sizeLine_eq
    try simp (maxSteps := 2000000) only [startF, wSs, wS, wE, wL, wO, wB, wI, x_add, x_adds, x_addl, x_addt, x_sub, x_mul, x_mult, x_mull, x_fdv, x_mod, x_pow, x_auga, x_augs, x_augm, x_eqi, x_eqs, x_eqb, x_nei, x_nes, x_neb, x_eqtt, x_eqrr, x_eqtr, x_eqrt, x_eqst, x_eqts, x_nett, x_nerr, x_netr, x_nert, x_nest, x_nets, x_lt, x_le, x_gt, x_ge, x_ins, x_isn, x_isnt, x_ixt, x_ixl, x_ixd, x_ixs, x_slt, x_sll, x_sls, x_std, x_stl, x_isin, x_isis, x_isit, x_isii, x_isib, x_lens, x_lent, x_lenf, x_lenl, x_inti, x_intb, x_abs, x_max2, x_min2, x_maxl, x_minl, x_mxd, x_tupl, x_tupt, x_lisl, x_list, x_liss, x_all, x_any, x_sum, x_repr, x_app, x_ext, x_pop, x_popa, x_join, x_rcva, x_rcve, x_rcvp, x_rcvq, x_rcvj, x_srct, x_srcf, x_srcs, x_srcl, x_seqt, x_seql, x_enu, x_enut, x_zipl, x_zipt, x_rng1, x_rng2, x_tg1, x_tgt, x_tgl, x_var, x_put, x_ex, x_exv, x_exl, x_exl0, x_exd, x_exb, x_exi, x_dec, x_decf, x_ndec, x_ndecf, x_ty_str_str, x_ty_str_tuple, x_ty_str_int, x_ty_str_bool, x_ty_str_list, x_ty_str_dict, x_ty_str_list_tuple, x_ty_str_tuple_list, x_ty_str_str_tuple, x_ty_str_tuple_str, x_ty_str_int_bool, x_ty_str_bool_int, x_ty_str_str_int, x_ty_str_int_str, x_ty_tuple_str, x_ty_tuple_tuple, x_ty_tuple_int, x_ty_tuple_bool, x_ty_tuple_list, x_ty_tuple_dict, x_ty_tuple_list_tuple, x_ty_tuple_tuple_list, x_ty_tuple_str_tuple, x_ty_tuple_tuple_str, x_ty_tuple_int_bool, x_ty_tuple_bool_int, x_ty_tuple_str_int, x_ty_tuple_int_str, x_ty_int_str, x_ty_int_tuple, x_ty_int_int, x_ty_int_bool, x_ty_int_list, x_ty_int_dict, x_ty_int_list_tuple, x_ty_int_tuple_list, x_ty_int_str_tuple, x_ty_int_tuple_str, x_ty_int_int_bool, x_ty_int_bool_int, x_ty_int_str_int, x_ty_int_int_str, x_ty_bool_str, x_ty_bool_tuple, x_ty_bool_int, x_ty_bool_bool, x_ty_bool_list, x_ty_bool_dict, x_ty_bool_list_tuple, x_ty_bool_tuple_list, x_ty_bool_str_tuple, x_ty_bool_tuple_str, x_ty_bool_int_bool, x_ty_bool_bool_int, x_ty_bool_str_int, x_ty_bool_int_str, x_ty_list_str, x_ty_list_tuple, x_ty_list_int, x_ty_list_bool, x_ty_list_list, x_ty_list_dict, x_ty_list_list_tuple, x_ty_list_tuple_list, x_ty_list_str_tuple, x_ty_list_tuple_str, x_ty_list_int_bool, x_ty_list_bool_int, x_ty_list_str_int, x_ty_list_int_str, x_ty_dict_str, x_ty_dict_tuple, x_ty_dict_int, x_ty_dict_bool, x_ty_dict_list, x_ty_dict_dict, x_ty_dict_list_tuple, x_ty_dict_tuple_list, x_ty_dict_str_tuple, x_ty_dict_tuple_str, x_ty_dict_int_bool, x_ty_dict_bool_int, x_ty_dict_str_int, x_ty_dict_int_str, x_puto, x_puto', List.map_cons, List.map_nil, List.length_cons, List.length_nil, List.cons_append, List.nil_append, List.replicate, Nat.sub_zero, Nat.sub_self, Nat.zero_add, Nat.reduceAdd, Nat.reduceSub, List.getElem?_cons_zero, List.getElem?_cons_succ, List.set_cons_zero, List.set_cons_succ, setF, wipeF, true_and, and_true, if_true, if_false, Bool.true_eq_false, Bool.false_eq_true, ite_true, ite_false, reduceIte, not_true_eq_false, not_false_eq_true, Bool.not_true, Bool.not_false, exists_eq_left', exists_const, ne_eq]
    refine d_is_name (by omega) ht fun S1 e1 => ?_
    try simp (maxSteps := 2000000) only [startF, wSs, wS, wE, wL, wO, wB, wI, x_add, x_adds, x_addl, x_addt, x_sub, x_mul, x_mult, x_mull, x_fdv, x_mod, x_pow, x_auga, x_augs, x_augm, x_eqi, x_eqs, x_eqb, x_nei, x_nes, x_neb, x_eqtt, x_eqrr, x_eqtr, x_eqrt, x_eqst, x_eqts, x_nett, x_nerr, x_netr, x_nert, x_nest, x_nets, x_lt, x_le, x_gt, x_ge, x_ins, x_isn, x_isnt, x_ixt, x_ixl, x_ixd, x_ixs, x_slt, x_sll, x_sls, x_std, x_stl, x_isin, x_isis, x_isit, x_isii, x_isib, x_lens, x_lent, x_lenf, x_lenl, x_inti, x_intb, x_abs, x_max2, x_min2, x_maxl, x_minl, x_mxd, x_tupl, x_tupt, x_lisl, x_list, x_liss, x_all, x_any, x_sum, x_repr, x_app, x_ext, x_pop, x_popa, x_join, x_rcva, x_rcve, x_rcvp, x_rcvq, x_rcvj, x_srct, x_srcf, x_srcs, x_srcl, x_seqt, x_seql, x_enu, x_enut, x_zipl, x_zipt, x_rng1, x_rng2, x_tg1, x_tgt, x_tgl, x_var, x_put, x_ex, x_exv, x_exl, x_exl0, x_exd, x_exb, x_exi, x_dec, x_decf, x_ndec, x_ndecf, x_ty_str_str, x_ty_str_tuple, x_ty_str_int, x_ty_str_bool, x_ty_str_list, x_ty_str_dict, x_ty_str_list_tuple, x_ty_str_tuple_list, x_ty_str_str_tuple, x_ty_str_tuple_str, x_ty_str_int_bool, x_ty_str_bool_int, x_ty_str_str_int, x_ty_str_int_str, x_ty_tuple_str, x_ty_tuple_tuple, x_ty_tuple_int, x_ty_tuple_bool, x_ty_tuple_list, x_ty_tuple_dict, x_ty_tuple_list_tuple, x_ty_tuple_tuple_list, x_ty_tuple_str_tuple, x_ty_tuple_tuple_str, x_ty_tuple_int_bool, x_ty_tuple_bool_int, x_ty_tuple_str_int, x_ty_tuple_int_str, x_ty_int_str, x_ty_int_tuple, x_ty_int_int, x_ty_int_bool, x_ty_int_list, x_ty_int_dict, x_ty_int_list_tuple, x_ty_int_tuple_list, x_ty_int_str_tuple, x_ty_int_tuple_str, x_ty_int_int_bool, x_ty_int_bool_int, x_ty_int_str_int, x_ty_int_int_str, x_ty_bool_str, x_ty_bool_tuple, x_ty_bool_int, x_ty_bool_bool, x_ty_bool_list, x_ty_bool_dict, x_ty_bool_list_tuple, x_ty_bool_tuple_list, x_ty_bool_str_tuple, x_ty_bool_tuple_str, x_ty_bool_int_bool, x_ty_bool_bool_int, x_ty_bool_str_int, x_ty_bool_int_str, x_ty_list_str, x_ty_list_tuple, x_ty_list_int, x_ty_list_bool, x_ty_list_list, x_ty_list_dict, x_ty_list_list_tuple, x_ty_list_tuple_list, x_ty_list_str_tuple, x_ty_list_tuple_str, x_ty_list_int_bool, x_ty_list_bool_int, x_ty_list_str_int, x_ty_list_int_str, x_ty_dict_str, x_ty_dict_tuple, x_ty_dict_int, x_ty_dict_bool, x_ty_dict_list, x_ty_dict_dict, x_ty_dict_list_tuple, x_ty_dict_tuple_list, x_ty_dict_str_tuple, x_ty_dict_tuple_str, x_ty_dict_int_bool, x_ty_dict_bool_int, x_ty_dict_str_int, x_ty_dict_int_str, x_puto, x_puto', List.map_cons, List.map_nil, List.length_cons, List.length_nil, List.cons_append, List.nil_append, List.replicate, Nat.sub_zero, Nat.sub_self, Nat.zero_add, Nat.reduceAdd, Nat.reduceSub, List.getElem?_cons_zero, List.getElem?_cons_succ, List.set_cons_zero, List.set_cons_succ, setF, wipeF, true_and, and_true, if_true, if_false, Bool.true_eq_false, Bool.false_eq_true, ite_true, ite_false, reduceIte, not_true_eq_false, not_false_eq_true, Bool.not_true, Bool.not_false, exists_eq_left', exists_const, ne_eq]
    split
    · rename_i h
      have q := hQ S1 e1
      rw [hf_isN h] at q
      exact q
    · rename_i h
      cases t with
      | s x =>
        have q := hQ S1 e1
        have e : hf n (.s x) = false := by cases n <;> exact Bool.eq_false_iff.mpr h
        rw [e] at q
        simp only [T.d]
        try simp (maxSteps := 2000000) only [startF, wSs, wS, wE, wL, wO, wB, wI, x_add, x_adds, x_addl, x_addt, x_sub, x_mul, x_mult, x_mull, x_fdv, x_mod, x_pow, x_auga, x_augs, x_augm, x_eqi, x_eqs, x_eqb, x_nei, x_nes, x_neb, x_eqtt, x_eqrr, x_eqtr, x_eqrt, x_eqst, x_eqts, x_nett, x_nerr, x_netr, x_nert, x_nest, x_nets, x_lt, x_le, x_gt, x_ge, x_ins, x_isn, x_isnt, x_ixt, x_ixl, x_ixd, x_ixs, x_slt, x_sll, x_sls, x_std, x_stl, x_isin, x_isis, x_isit, x_isii, x_isib, x_lens, x_lent, x_lenf, x_lenl, x_inti, x_intb, x_abs, x_max2, x_min2, x_maxl, x_minl, x_mxd, x_tupl, x_tupt, x_lisl, x_list, x_liss, x_all, x_any, x_sum, x_repr, x_app, x_ext, x_pop, x_popa, x_join, x_rcva, x_rcve, x_rcvp, x_rcvq, x_rcvj, x_srct, x_srcf, x_srcs, x_srcl, x_seqt, x_seql, x_enu, x_enut, x_zipl, x_zipt, x_rng1, x_rng2, x_tg1, x_tgt, x_tgl, x_var, x_put, x_ex, x_exv, x_exl, x_exl0, x_exd, x_exb, x_exi, x_dec, x_decf, x_ndec, x_ndecf, x_ty_str_str, x_ty_str_tuple, x_ty_str_int, x_ty_str_bool, x_ty_str_list, x_ty_str_dict, x_ty_str_list_tuple, x_ty_str_tuple_list, x_ty_str_str_tuple, x_ty_str_tuple_str, x_ty_str_int_bool, x_ty_str_bool_int, x_ty_str_str_int, x_ty_str_int_str, x_ty_tuple_str, x_ty_tuple_tuple, x_ty_tuple_int, x_ty_tuple_bool, x_ty_tuple_list, x_ty_tuple_dict, x_ty_tuple_list_tuple, x_ty_tuple_tuple_list, x_ty_tuple_str_tuple, x_ty_tuple_tuple_str, x_ty_tuple_int_bool, x_ty_tuple_bool_int, x_ty_tuple_str_int, x_ty_tuple_int_str, x_ty_int_str, x_ty_int_tuple, x_ty_int_int, x_ty_int_bool, x_ty_int_list, x_ty_int_dict, x_ty_int_list_tuple, x_ty_int_tuple_list, x_ty_int_str_tuple, x_ty_int_tuple_str, x_ty_int_int_bool, x_ty_int_bool_int, x_ty_int_str_int, x_ty_int_int_str, x_ty_bool_str, x_ty_bool_tuple, x_ty_bool_int, x_ty_bool_bool, x_ty_bool_list, x_ty_bool_dict, x_ty_bool_list_tuple, x_ty_bool_tuple_list, x_ty_bool_str_tuple, x_ty_bool_tuple_str, x_ty_bool_int_bool, x_ty_bool_bool_int, x_ty_bool_str_int, x_ty_bool_int_str, x_ty_list_str, x_ty_list_tuple, x_ty_list_int, x_ty_list_bool, x_ty_list_list, x_ty_list_dict, x_ty_list_list_tuple, x_ty_list_tuple_list, x_ty_list_str_tuple, x_ty_list_tuple_str, x_ty_list_int_bool, x_ty_list_bool_int, x_ty_list_str_int, x_ty_list_int_str, x_ty_dict_str, x_ty_dict_tuple, x_ty_dict_int, x_ty_dict_bool, x_ty_dict_list, x_ty_dict_dict, x_ty_dict_list_tuple, x_ty_dict_tuple_list, x_ty_dict_str_tuple, x_ty_dict_tuple_str, x_ty_dict_int_bool, x_ty_dict_bool_int, x_ty_dict_str_int, x_ty_dict_int_str, x_puto, x_puto', List.map_cons, List.map_nil, List.length_cons, List.length_nil, List.cons_append, List.nil_append, List.replicate, Nat.sub_zero, Nat.sub_self, Nat.zero_add, Nat.reduceAdd, Nat.reduceSub, List.getElem?_cons_zero, List.getElem?_cons_succ, List.set_cons_zero, List.set_cons_succ, setF, wipeF, true_and, and_true, if_true, if_false, Bool.true_eq_false, Bool.false_eq_true, ite_true, ite_false, reduceIte, not_true_eq_false, not_false_eq_true, Bool.not_true, Bool.not_false, exists_eq_left', exists_const, ne_eq]
        exact q
      | t xs =>
        simp only [T.d]
        try simp (maxSteps := 2000000) only [startF, wSs, wS, wE, wL, wO, wB, wI, x_add, x_adds, x_addl, x_addt, x_sub, x_mul, x_mult, x_mull, x_fdv, x_mod, x_pow, x_auga, x_augs, x_augm, x_eqi, x_eqs, x_eqb, x_nei, x_nes, x_neb, x_eqtt, x_eqrr, x_eqtr, x_eqrt, x_eqst, x_eqts, x_nett, x_nerr, x_netr, x_nert, x_nest, x_nets, x_lt, x_le, x_gt, x_ge, x_ins, x_isn, x_isnt, x_ixt, x_ixl, x_ixd, x_ixs, x_slt, x_sll, x_sls, x_std, x_stl, x_isin, x_isis, x_isit, x_isii, x_isib, x_lens, x_lent, x_lenf, x_lenl, x_inti, x_intb, x_abs, x_max2, x_min2, x_maxl, x_minl, x_mxd, x_tupl, x_tupt, x_lisl, x_list, x_liss, x_all, x_any, x_sum, x_repr, x_app, x_ext, x_pop, x_popa, x_join, x_rcva, x_rcve, x_rcvp, x_rcvq, x_rcvj, x_srct, x_srcf, x_srcs, x_srcl, x_seqt, x_seql, x_enu, x_enut, x_zipl, x_zipt, x_rng1, x_rng2, x_tg1, x_tgt, x_tgl, x_var, x_put, x_ex, x_exv, x_exl, x_exl0, x_exd, x_exb, x_exi, x_dec, x_decf, x_ndec, x_ndecf, x_ty_str_str, x_ty_str_tuple, x_ty_str_int, x_ty_str_bool, x_ty_str_list, x_ty_str_dict, x_ty_str_list_tuple, x_ty_str_tuple_list, x_ty_str_str_tuple, x_ty_str_tuple_str, x_ty_str_int_bool, x_ty_str_bool_int, x_ty_str_str_int, x_ty_str_int_str, x_ty_tuple_str, x_ty_tuple_tuple, x_ty_tuple_int, x_ty_tuple_bool, x_ty_tuple_list, x_ty_tuple_dict, x_ty_tuple_list_tuple, x_ty_tuple_tuple_list, x_ty_tuple_str_tuple, x_ty_tuple_tuple_str, x_ty_tuple_int_bool, x_ty_tuple_bool_int, x_ty_tuple_str_int, x_ty_tuple_int_str, x_ty_int_str, x_ty_int_tuple, x_ty_int_int, x_ty_int_bool, x_ty_int_list, x_ty_int_dict, x_ty_int_list_tuple, x_ty_int_tuple_list, x_ty_int_str_tuple, x_ty_int_tuple_str, x_ty_int_int_bool, x_ty_int_bool_int, x_ty_int_str_int, x_ty_int_int_str, x_ty_bool_str, x_ty_bool_tuple, x_ty_bool_int, x_ty_bool_bool, x_ty_bool_list, x_ty_bool_dict, x_ty_bool_list_tuple, x_ty_bool_tuple_list, x_ty_bool_str_tuple, x_ty_bool_tuple_str, x_ty_bool_int_bool, x_ty_bool_bool_int, x_ty_bool_str_int, x_ty_bool_int_str, x_ty_list_str, x_ty_list_tuple, x_ty_list_int, x_ty_list_bool, x_ty_list_list, x_ty_list_dict, x_ty_list_list_tuple, x_ty_list_tuple_list, x_ty_list_str_tuple, x_ty_list_tuple_str, x_ty_list_int_bool, x_ty_list_bool_int, x_ty_list_str_int, x_ty_list_int_str, x_ty_dict_str, x_ty_dict_tuple, x_ty_dict_int, x_ty_dict_bool, x_ty_dict_list, x_ty_dict_dict, x_ty_dict_list_tuple, x_ty_dict_tuple_list, x_ty_dict_str_tuple, x_ty_dict_tuple_str, x_ty_dict_int_bool, x_ty_dict_bool_int, x_ty_dict_str_int, x_ty_dict_int_str, x_puto, x_puto', List.map_cons, List.map_nil, List.length_cons, List.length_nil, List.cons_append, List.nil_append, List.replicate, Nat.sub_zero, Nat.sub_self, Nat.zero_add, Nat.reduceAdd, Nat.reduceSub, List.getElem?_cons_zero, List.getElem?_cons_succ, List.set_cons_zero, List.set_cons_succ, setF, wipeF, true_and, and_true, if_true, if_false, Bool.true_eq_false, Bool.false_eq_true, ite_true, ite_false, reduceIte, not_true_eq_false, not_false_eq_true, Bool.not_true, Bool.not_false, exists_eq_left', exists_const, ne_eq, ds_len]
        split
        · rename_i h0
          cases n with
          | zero => exact hQ S1 e1
          | succ n => omega
        · rename_i h0
          cases n with
          | zero => exact absurd rfl h0
          | succ n =>
            have bad : wideB xs.length = false → Q (.bl false) S1 := fun hw => by
              have q := hQ S1 e1
              rw [hf_t, hw, Bool.false_and, Bool.false_and] at q
              exact q
            split
            · rename_i h2
              split
              · rename_i h8
                have hw : wideB xs.length = true := by
                  unfold wideB
                  rw [decide_eq_true (show 2 ≤ xs.length by omega), decide_eq_true (show xs.length ≤ 8 by omega)]
                  rfl
                have hne : xs ≠ [] := fun z => by rw [z] at h2; exact absurd h2 (by decide)
                have hnd : T.ds xs ≠ [] := fun z => by
                  have := ds_len xs
                  rw [z] at this
                  exact hne (List.eq_nil_of_length_eq_zero this.symm)
                have el : (T.ds xs).getLast hnd = (xs.getLast hne).d := by
                  simp only [T.ds_map, List.getLast_map]
                have eb : endB xs = isN (xs.getLast hne) := by
                  unfold endB
                  rw [List.getLast?_eq_some_getLast hne]
                  cases xs.getLast hne <;> rfl
                have sh := T.shs_all.mp ht.2
                refine ⟨_, atI_last hnd, ?_⟩
                rw [el]
                refine d_is_name (by omega) (sh _ (List.getLast_mem hne)) fun S2 e2 => ?_
                try simp (maxSteps := 2000000) only [startF, wSs, wS, wE, wL, wO, wB, wI, x_add, x_adds, x_addl, x_addt, x_sub, x_mul, x_mult, x_mull, x_fdv, x_mod, x_pow, x_auga, x_augs, x_augm, x_eqi, x_eqs, x_eqb, x_nei, x_nes, x_neb, x_eqtt, x_eqrr, x_eqtr, x_eqrt, x_eqst, x_eqts, x_nett, x_nerr, x_netr, x_nert, x_nest, x_nets, x_lt, x_le, x_gt, x_ge, x_ins, x_isn, x_isnt, x_ixt, x_ixl, x_ixd, x_ixs, x_slt, x_sll, x_sls, x_std, x_stl, x_isin, x_isis, x_isit, x_isii, x_isib, x_lens, x_lent, x_lenf, x_lenl, x_inti, x_intb, x_abs, x_max2, x_min2, x_maxl, x_minl, x_mxd, x_tupl, x_tupt, x_lisl, x_list, x_liss, x_all, x_any, x_sum, x_repr, x_app, x_ext, x_pop, x_popa, x_join, x_rcva, x_rcve, x_rcvp, x_rcvq, x_rcvj, x_srct, x_srcf, x_srcs, x_srcl, x_seqt, x_seql, x_enu, x_enut, x_zipl, x_zipt, x_rng1, x_rng2, x_tg1, x_tgt, x_tgl, x_var, x_put, x_ex, x_exv, x_exl, x_exl0, x_exd, x_exb, x_exi, x_dec, x_decf, x_ndec, x_ndecf, x_ty_str_str, x_ty_str_tuple, x_ty_str_int, x_ty_str_bool, x_ty_str_list, x_ty_str_dict, x_ty_str_list_tuple, x_ty_str_tuple_list, x_ty_str_str_tuple, x_ty_str_tuple_str, x_ty_str_int_bool, x_ty_str_bool_int, x_ty_str_str_int, x_ty_str_int_str, x_ty_tuple_str, x_ty_tuple_tuple, x_ty_tuple_int, x_ty_tuple_bool, x_ty_tuple_list, x_ty_tuple_dict, x_ty_tuple_list_tuple, x_ty_tuple_tuple_list, x_ty_tuple_str_tuple, x_ty_tuple_tuple_str, x_ty_tuple_int_bool, x_ty_tuple_bool_int, x_ty_tuple_str_int, x_ty_tuple_int_str, x_ty_int_str, x_ty_int_tuple, x_ty_int_int, x_ty_int_bool, x_ty_int_list, x_ty_int_dict, x_ty_int_list_tuple, x_ty_int_tuple_list, x_ty_int_str_tuple, x_ty_int_tuple_str, x_ty_int_int_bool, x_ty_int_bool_int, x_ty_int_str_int, x_ty_int_int_str, x_ty_bool_str, x_ty_bool_tuple, x_ty_bool_int, x_ty_bool_bool, x_ty_bool_list, x_ty_bool_dict, x_ty_bool_list_tuple, x_ty_bool_tuple_list, x_ty_bool_str_tuple, x_ty_bool_tuple_str, x_ty_bool_int_bool, x_ty_bool_bool_int, x_ty_bool_str_int, x_ty_bool_int_str, x_ty_list_str, x_ty_list_tuple, x_ty_list_int, x_ty_list_bool, x_ty_list_list, x_ty_list_dict, x_ty_list_list_tuple, x_ty_list_tuple_list, x_ty_list_str_tuple, x_ty_list_tuple_str, x_ty_list_int_bool, x_ty_list_bool_int, x_ty_list_str_int, x_ty_list_int_str, x_ty_dict_str, x_ty_dict_tuple, x_ty_dict_int, x_ty_dict_bool, x_ty_dict_list, x_ty_dict_dict, x_ty_dict_list_tuple, x_ty_dict_tuple_list, x_ty_dict_str_tuple, x_ty_dict_tuple_str, x_ty_dict_int_bool, x_ty_dict_bool_int, x_ty_dict_str_int, x_ty_dict_int_str, x_puto, x_puto', List.map_cons, List.map_nil, List.length_cons, List.length_nil, List.cons_append, List.nil_append, List.replicate, Nat.sub_zero, Nat.sub_self, Nat.zero_add, Nat.reduceAdd, Nat.reduceSub, List.getElem?_cons_zero, List.getElem?_cons_succ, List.set_cons_zero, List.set_cons_succ, setF, wipeF, true_and, and_true, if_true, if_false, Bool.true_eq_false, Bool.false_eq_true, ite_true, ite_false, reduceIte, not_true_eq_false, not_false_eq_true, Bool.not_true, Bool.not_false, exists_eq_left', exists_const, ne_eq]
                rw [← eb]
                split
                · rename_i hb
                  rw [cut_last, ds_dropLast, T.ds_map]
                  refine loop_map T.d (fun t => D.bl (hf n t)) (fun _ _ => trivial) xs.dropLast (by have := ht.1; rw [List.length_dropLast]; omega) (fun c hc acc S' N e hl hN => ?_) fun S' e p hp => ?_
                  · rw [show ((n + 1 : Nat) : Int) - 1 = ((n : Nat) : Int) by omega]
                    exact d_has_form (by omega) (sh c (List.dropLast_subset _ hc)) fun S'' e'' => ⟨hl, hN S'' e''⟩
                  · refine ⟨_, allB_map, ?_⟩
                    have q := hQ (put S' p (.lst (xs.dropLast.map fun t => D.bl (hf n t)))) ((e1.trans e2).trans (e.trans (Ext.new hp)))
                    rw [hf_t, hw, hb] at q
                    exact q
                · rename_i hb
                  have q := hQ S2 (e1.trans e2)
                  rw [hf_t, Bool.eq_false_iff.mpr hb, Bool.and_false, Bool.false_and] at q
                  rw [Bool.eq_false_iff.mpr hb]
                  exact q
              · exact bad (by unfold wideB; rw [decide_eq_false (show ¬ xs.length ≤ 8 by omega), Bool.and_false])
            · exact bad (by unfold wideB; rw [decide_eq_false (show ¬ 2 ≤ xs.length by omega), Bool.false_and])
  termination_by n => n
theorem inner_p {k : Nat} {t : T} {S : Sto} {Q : KE} {E : XE} (hk : 1 ≤ k) (hQ : Q (.tup (T.ds t.pa)) S) : wC tab k "inner_params" [t.d] S Q E := by
  refine wd (fd := f_inner_params) hk rfl rfl ?_
  unfold f_inner_params
  have sz := sizeLine_eq
  cases t with
  | s x =>
    simp only [T.d]
    try simp (maxSteps := 2000000) only [startF, wSs, wS, wE, wL, wO, wB, wI, x_add, x_adds, x_addl, x_addt, x_sub, x_mul, x_mult, x_mull, x_fdv, x_mod, x_pow, x_auga, x_augs, x_augm, x_eqi, x_eqs, x_eqb, x_nei, x_nes, x_neb, x_eqtt, x_eqrr, x_eqtr, x_eqrt, x_eqst, x_eqts, x_nett, x_nerr, x_netr, x_nert, x_nest, x_nets, x_lt, x_le, x_gt, x_ge, x_ins, x_isn, x_isnt, x_ixt, x_ixl, x_ixd, x_ixs, x_slt, x_sll, x_sls, x_std, x_stl, x_isin, x_isis, x_isit, x_isii, x_isib, x_lens, x_lent, x_lenf, x_lenl, x_inti, x_intb, x_abs, x_max2, x_min2, x_maxl, x_minl, x_mxd, x_tupl, x_tupt, x_lisl, x_list, x_liss, x_all, x_any, x_sum, x_repr, x_app, x_ext, x_pop, x_popa, x_join, x_rcva, x_rcve, x_rcvp, x_rcvq, x_rcvj, x_srct, x_srcf, x_srcs, x_srcl, x_seqt, x_seql, x_enu, x_enut, x_zipl, x_zipt, x_rng1, x_rng2, x_tg1, x_tgt, x_tgl, x_var, x_put, x_ex, x_exv, x_exl, x_exl0, x_exd, x_exb, x_exi, x_dec, x_decf, x_ndec, x_ndecf, x_ty_str_str, x_ty_str_tuple, x_ty_str_int, x_ty_str_bool, x_ty_str_list, x_ty_str_dict, x_ty_str_list_tuple, x_ty_str_tuple_list, x_ty_str_str_tuple, x_ty_str_tuple_str, x_ty_str_int_bool, x_ty_str_bool_int, x_ty_str_str_int, x_ty_str_int_str, x_ty_tuple_str, x_ty_tuple_tuple, x_ty_tuple_int, x_ty_tuple_bool, x_ty_tuple_list, x_ty_tuple_dict, x_ty_tuple_list_tuple, x_ty_tuple_tuple_list, x_ty_tuple_str_tuple, x_ty_tuple_tuple_str, x_ty_tuple_int_bool, x_ty_tuple_bool_int, x_ty_tuple_str_int, x_ty_tuple_int_str, x_ty_int_str, x_ty_int_tuple, x_ty_int_int, x_ty_int_bool, x_ty_int_list, x_ty_int_dict, x_ty_int_list_tuple, x_ty_int_tuple_list, x_ty_int_str_tuple, x_ty_int_tuple_str, x_ty_int_int_bool, x_ty_int_bool_int, x_ty_int_str_int, x_ty_int_int_str, x_ty_bool_str, x_ty_bool_tuple, x_ty_bool_int, x_ty_bool_bool, x_ty_bool_list, x_ty_bool_dict, x_ty_bool_list_tuple, x_ty_bool_tuple_list, x_ty_bool_str_tuple, x_ty_bool_tuple_str, x_ty_bool_int_bool, x_ty_bool_bool_int, x_ty_bool_str_int, x_ty_bool_int_str, x_ty_list_str, x_ty_list_tuple, x_ty_list_int, x_ty_list_bool, x_ty_list_list, x_ty_list_dict, x_ty_list_list_tuple, x_ty_list_tuple_list, x_ty_list_str_tuple, x_ty_list_tuple_str, x_ty_list_int_bool, x_ty_list_bool_int, x_ty_list_str_int, x_ty_list_int_str, x_ty_dict_str, x_ty_dict_tuple, x_ty_dict_int, x_ty_dict_bool, x_ty_dict_list, x_ty_dict_dict, x_ty_dict_list_tuple, x_ty_dict_tuple_list, x_ty_dict_str_tuple, x_ty_dict_tuple_str, x_ty_dict_int_bool, x_ty_dict_bool_int, x_ty_dict_str_int, x_ty_dict_int_str, x_puto, x_puto', List.map_cons, List.map_nil, List.length_cons, List.length_nil, List.cons_append, List.nil_append, List.replicate, Nat.sub_zero, Nat.sub_self, Nat.zero_add, Nat.reduceAdd, Nat.reduceSub, List.getElem?_cons_zero, List.getElem?_cons_succ, List.set_cons_zero, List.set_cons_succ, setF, wipeF, true_and, and_true, if_true, if_false, Bool.true_eq_false, Bool.false_eq_true, ite_true, ite_false, reduceIte, not_true_eq_false, not_false_eq_true, Bool.not_true, Bool.not_false, exists_eq_left', exists_const, ne_eq]
    exact ⟨Nat.zero_le _, hQ⟩
  | t xs =>
    simp only [T.d]
    try simp (maxSteps := 2000000) only [startF, wSs, wS, wE, wL, wO, wB, wI, x_add, x_adds, x_addl, x_addt, x_sub, x_mul, x_mult, x_mull, x_fdv, x_mod, x_pow, x_auga, x_augs, x_augm, x_eqi, x_eqs, x_eqb, x_nei, x_nes, x_neb, x_eqtt, x_eqrr, x_eqtr, x_eqrt, x_eqst, x_eqts, x_nett, x_nerr, x_netr, x_nert, x_nest, x_nets, x_lt, x_le, x_gt, x_ge, x_ins, x_isn, x_isnt, x_ixt, x_ixl, x_ixd, x_ixs, x_slt, x_sll, x_sls, x_std, x_stl, x_isin, x_isis, x_isit, x_isii, x_isib, x_lens, x_lent, x_lenf, x_lenl, x_inti, x_intb, x_abs, x_max2, x_min2, x_maxl, x_minl, x_mxd, x_tupl, x_tupt, x_lisl, x_list, x_liss, x_all, x_any, x_sum, x_repr, x_app, x_ext, x_pop, x_popa, x_join, x_rcva, x_rcve, x_rcvp, x_rcvq, x_rcvj, x_srct, x_srcf, x_srcs, x_srcl, x_seqt, x_seql, x_enu, x_enut, x_zipl, x_zipt, x_rng1, x_rng2, x_tg1, x_tgt, x_tgl, x_var, x_put, x_ex, x_exv, x_exl, x_exl0, x_exd, x_exb, x_exi, x_dec, x_decf, x_ndec, x_ndecf, x_ty_str_str, x_ty_str_tuple, x_ty_str_int, x_ty_str_bool, x_ty_str_list, x_ty_str_dict, x_ty_str_list_tuple, x_ty_str_tuple_list, x_ty_str_str_tuple, x_ty_str_tuple_str, x_ty_str_int_bool, x_ty_str_bool_int, x_ty_str_str_int, x_ty_str_int_str, x_ty_tuple_str, x_ty_tuple_tuple, x_ty_tuple_int, x_ty_tuple_bool, x_ty_tuple_list, x_ty_tuple_dict, x_ty_tuple_list_tuple, x_ty_tuple_tuple_list, x_ty_tuple_str_tuple, x_ty_tuple_tuple_str, x_ty_tuple_int_bool, x_ty_tuple_bool_int, x_ty_tuple_str_int, x_ty_tuple_int_str, x_ty_int_str, x_ty_int_tuple, x_ty_int_int, x_ty_int_bool, x_ty_int_list, x_ty_int_dict, x_ty_int_list_tuple, x_ty_int_tuple_list, x_ty_int_str_tuple, x_ty_int_tuple_str, x_ty_int_int_bool, x_ty_int_bool_int, x_ty_int_str_int, x_ty_int_int_str, x_ty_bool_str, x_ty_bool_tuple, x_ty_bool_int, x_ty_bool_bool, x_ty_bool_list, x_ty_bool_dict, x_ty_bool_list_tuple, x_ty_bool_tuple_list, x_ty_bool_str_tuple, x_ty_bool_tuple_str, x_ty_bool_int_bool, x_ty_bool_bool_int, x_ty_bool_str_int, x_ty_bool_int_str, x_ty_list_str, x_ty_list_tuple, x_ty_list_int, x_ty_list_bool, x_ty_list_list, x_ty_list_dict, x_ty_list_list_tuple, x_ty_list_tuple_list, x_ty_list_str_tuple, x_ty_list_tuple_str, x_ty_list_int_bool, x_ty_list_bool_int, x_ty_list_str_int, x_ty_list_int_str, x_ty_dict_str, x_ty_dict_tuple, x_ty_dict_int, x_ty_dict_bool, x_ty_dict_list, x_ty_dict_dict, x_ty_dict_list_tuple, x_ty_dict_tuple_list, x_ty_dict_str_tuple, x_ty_dict_tuple_str, x_ty_dict_int_bool, x_ty_dict_bool_int, x_ty_dict_str_int, x_ty_dict_int_str, x_puto, x_puto', List.map_cons, List.map_nil, List.length_cons, List.length_nil, List.cons_append, List.nil_append, List.replicate, Nat.sub_zero, Nat.sub_self, Nat.zero_add, Nat.reduceAdd, Nat.reduceSub, List.getElem?_cons_zero, List.getElem?_cons_succ, List.set_cons_zero, List.set_cons_succ, setF, wipeF, true_and, and_true, if_true, if_false, Bool.true_eq_false, Bool.false_eq_true, ite_true, ite_false, reduceIte, not_true_eq_false, not_false_eq_true, Bool.not_true, Bool.not_false, exists_eq_left', exists_const, ne_eq]
    rw [show (-1 : Int) = -1 from rfl, cut_last, ds_dropLast]
    exact hQ
theorem inner_e {k : Nat} {t : T} {S : Sto} {Q : KE} {E : XE} (hk : 1 ≤ k) (hne : ∀ xs, t = .t xs → xs ≠ []) (hQ : Q t.en.d S) : wC tab k "inner_end" [t.d] S Q E := by
  refine wd (fd := f_inner_end) hk rfl rfl ?_
  unfold f_inner_end
  cases t with
  | s x =>
    simp only [T.d]
    try simp (maxSteps := 2000000) only [startF, wSs, wS, wE, wL, wO, wB, wI, x_add, x_adds, x_addl, x_addt, x_sub, x_mul, x_mult, x_mull, x_fdv, x_mod, x_pow, x_auga, x_augs, x_augm, x_eqi, x_eqs, x_eqb, x_nei, x_nes, x_neb, x_eqtt, x_eqrr, x_eqtr, x_eqrt, x_eqst, x_eqts, x_nett, x_nerr, x_netr, x_nert, x_nest, x_nets, x_lt, x_le, x_gt, x_ge, x_ins, x_isn, x_isnt, x_ixt, x_ixl, x_ixd, x_ixs, x_slt, x_sll, x_sls, x_std, x_stl, x_isin, x_isis, x_isit, x_isii, x_isib, x_lens, x_lent, x_lenf, x_lenl, x_inti, x_intb, x_abs, x_max2, x_min2, x_maxl, x_minl, x_mxd, x_tupl, x_tupt, x_lisl, x_list, x_liss, x_all, x_any, x_sum, x_repr, x_app, x_ext, x_pop, x_popa, x_join, x_rcva, x_rcve, x_rcvp, x_rcvq, x_rcvj, x_srct, x_srcf, x_srcs, x_srcl, x_seqt, x_seql, x_enu, x_enut, x_zipl, x_zipt, x_rng1, x_rng2, x_tg1, x_tgt, x_tgl, x_var, x_put, x_ex, x_exv, x_exl, x_exl0, x_exd, x_exb, x_exi, x_dec, x_decf, x_ndec, x_ndecf, x_ty_str_str, x_ty_str_tuple, x_ty_str_int, x_ty_str_bool, x_ty_str_list, x_ty_str_dict, x_ty_str_list_tuple, x_ty_str_tuple_list, x_ty_str_str_tuple, x_ty_str_tuple_str, x_ty_str_int_bool, x_ty_str_bool_int, x_ty_str_str_int, x_ty_str_int_str, x_ty_tuple_str, x_ty_tuple_tuple, x_ty_tuple_int, x_ty_tuple_bool, x_ty_tuple_list, x_ty_tuple_dict, x_ty_tuple_list_tuple, x_ty_tuple_tuple_list, x_ty_tuple_str_tuple, x_ty_tuple_tuple_str, x_ty_tuple_int_bool, x_ty_tuple_bool_int, x_ty_tuple_str_int, x_ty_tuple_int_str, x_ty_int_str, x_ty_int_tuple, x_ty_int_int, x_ty_int_bool, x_ty_int_list, x_ty_int_dict, x_ty_int_list_tuple, x_ty_int_tuple_list, x_ty_int_str_tuple, x_ty_int_tuple_str, x_ty_int_int_bool, x_ty_int_bool_int, x_ty_int_str_int, x_ty_int_int_str, x_ty_bool_str, x_ty_bool_tuple, x_ty_bool_int, x_ty_bool_bool, x_ty_bool_list, x_ty_bool_dict, x_ty_bool_list_tuple, x_ty_bool_tuple_list, x_ty_bool_str_tuple, x_ty_bool_tuple_str, x_ty_bool_int_bool, x_ty_bool_bool_int, x_ty_bool_str_int, x_ty_bool_int_str, x_ty_list_str, x_ty_list_tuple, x_ty_list_int, x_ty_list_bool, x_ty_list_list, x_ty_list_dict, x_ty_list_list_tuple, x_ty_list_tuple_list, x_ty_list_str_tuple, x_ty_list_tuple_str, x_ty_list_int_bool, x_ty_list_bool_int, x_ty_list_str_int, x_ty_list_int_str, x_ty_dict_str, x_ty_dict_tuple, x_ty_dict_int, x_ty_dict_bool, x_ty_dict_list, x_ty_dict_dict, x_ty_dict_list_tuple, x_ty_dict_tuple_list, x_ty_dict_str_tuple, x_ty_dict_tuple_str, x_ty_dict_int_bool, x_ty_dict_bool_int, x_ty_dict_str_int, x_ty_dict_int_str, x_puto, x_puto', List.map_cons, List.map_nil, List.length_cons, List.length_nil, List.cons_append, List.nil_append, List.replicate, Nat.sub_zero, Nat.sub_self, Nat.zero_add, Nat.reduceAdd, Nat.reduceSub, List.getElem?_cons_zero, List.getElem?_cons_succ, List.set_cons_zero, List.set_cons_succ, setF, wipeF, true_and, and_true, if_true, if_false, Bool.true_eq_false, Bool.false_eq_true, ite_true, ite_false, reduceIte, not_true_eq_false, not_false_eq_true, Bool.not_true, Bool.not_false, exists_eq_left', exists_const, ne_eq]
    exact hQ
  | t xs =>
    have h0 := hne xs rfl
    have hnd : T.ds xs ≠ [] := fun z => by
      have := ds_len xs
      rw [z] at this
      exact h0 (List.eq_nil_of_length_eq_zero this.symm)
    simp only [T.d]
    try simp (maxSteps := 2000000) only [startF, wSs, wS, wE, wL, wO, wB, wI, x_add, x_adds, x_addl, x_addt, x_sub, x_mul, x_mult, x_mull, x_fdv, x_mod, x_pow, x_auga, x_augs, x_augm, x_eqi, x_eqs, x_eqb, x_nei, x_nes, x_neb, x_eqtt, x_eqrr, x_eqtr, x_eqrt, x_eqst, x_eqts, x_nett, x_nerr, x_netr, x_nert, x_nest, x_nets, x_lt, x_le, x_gt, x_ge, x_ins, x_isn, x_isnt, x_ixt, x_ixl, x_ixd, x_ixs, x_slt, x_sll, x_sls, x_std, x_stl, x_isin, x_isis, x_isit, x_isii, x_isib, x_lens, x_lent, x_lenf, x_lenl, x_inti, x_intb, x_abs, x_max2, x_min2, x_maxl, x_minl, x_mxd, x_tupl, x_tupt, x_lisl, x_list, x_liss, x_all, x_any, x_sum, x_repr, x_app, x_ext, x_pop, x_popa, x_join, x_rcva, x_rcve, x_rcvp, x_rcvq, x_rcvj, x_srct, x_srcf, x_srcs, x_srcl, x_seqt, x_seql, x_enu, x_enut, x_zipl, x_zipt, x_rng1, x_rng2, x_tg1, x_tgt, x_tgl, x_var, x_put, x_ex, x_exv, x_exl, x_exl0, x_exd, x_exb, x_exi, x_dec, x_decf, x_ndec, x_ndecf, x_ty_str_str, x_ty_str_tuple, x_ty_str_int, x_ty_str_bool, x_ty_str_list, x_ty_str_dict, x_ty_str_list_tuple, x_ty_str_tuple_list, x_ty_str_str_tuple, x_ty_str_tuple_str, x_ty_str_int_bool, x_ty_str_bool_int, x_ty_str_str_int, x_ty_str_int_str, x_ty_tuple_str, x_ty_tuple_tuple, x_ty_tuple_int, x_ty_tuple_bool, x_ty_tuple_list, x_ty_tuple_dict, x_ty_tuple_list_tuple, x_ty_tuple_tuple_list, x_ty_tuple_str_tuple, x_ty_tuple_tuple_str, x_ty_tuple_int_bool, x_ty_tuple_bool_int, x_ty_tuple_str_int, x_ty_tuple_int_str, x_ty_int_str, x_ty_int_tuple, x_ty_int_int, x_ty_int_bool, x_ty_int_list, x_ty_int_dict, x_ty_int_list_tuple, x_ty_int_tuple_list, x_ty_int_str_tuple, x_ty_int_tuple_str, x_ty_int_int_bool, x_ty_int_bool_int, x_ty_int_str_int, x_ty_int_int_str, x_ty_bool_str, x_ty_bool_tuple, x_ty_bool_int, x_ty_bool_bool, x_ty_bool_list, x_ty_bool_dict, x_ty_bool_list_tuple, x_ty_bool_tuple_list, x_ty_bool_str_tuple, x_ty_bool_tuple_str, x_ty_bool_int_bool, x_ty_bool_bool_int, x_ty_bool_str_int, x_ty_bool_int_str, x_ty_list_str, x_ty_list_tuple, x_ty_list_int, x_ty_list_bool, x_ty_list_list, x_ty_list_dict, x_ty_list_list_tuple, x_ty_list_tuple_list, x_ty_list_str_tuple, x_ty_list_tuple_str, x_ty_list_int_bool, x_ty_list_bool_int, x_ty_list_str_int, x_ty_list_int_str, x_ty_dict_str, x_ty_dict_tuple, x_ty_dict_int, x_ty_dict_bool, x_ty_dict_list, x_ty_dict_dict, x_ty_dict_list_tuple, x_ty_dict_tuple_list, x_ty_dict_str_tuple, x_ty_dict_tuple_str, x_ty_dict_int_bool, x_ty_dict_bool_int, x_ty_dict_str_int, x_ty_dict_int_str, x_puto, x_puto', List.map_cons, List.map_nil, List.length_cons, List.length_nil, List.cons_append, List.nil_append, List.replicate, Nat.sub_zero, Nat.sub_self, Nat.zero_add, Nat.reduceAdd, Nat.reduceSub, List.getElem?_cons_zero, List.getElem?_cons_succ, List.set_cons_zero, List.set_cons_succ, setF, wipeF, true_and, and_true, if_true, if_false, Bool.true_eq_false, Bool.false_eq_true, ite_true, ite_false, reduceIte, not_true_eq_false, not_false_eq_true, Bool.not_true, Bool.not_false, exists_eq_left', exists_const, ne_eq]
    refine ⟨_, atI_last hnd, ?_⟩
    have e : (T.ds xs).getLast hnd = (T.en (.t xs)).d := by
      simp only [T.ds_map, List.getLast_map, T.en, List.getLast?_eq_some_getLast h0, Option.getD_some]
    rw [e]
    exact hQ
theorem flatMap_map {α β : Type} {g : α → List Str} {xs : List α} : (xs.flatMap fun x => (g x).map D.str) = (xs.flatMap g).map D.str := by
  induction xs with
  | nil => rfl
  | cons x xs ih => rw [List.flatMap_cons, List.flatMap_cons, List.map_append, ih]
theorem d_inner_names : ∀ {n k : Nat} {t : T} {S : Sto} {Q : KE} {E : XE}, t.dp ≤ n → n + 1 ≤ k → t.nm.length < 1000000 → (∀ S', Ext S S' → Q (.tup (t.nm.map D.str)) S') → wC tab k "inner_names" [t.d] S Q E
  | n, k, t, S, Q, E, hn, hk, hz, hQ => by
    refine wd (fd := f_inner_names) (by omega) rfl rfl ?_
    unfold f_inner_names
    have sz := sizeLine_eq
    cases t with
    | s x =>
      simp only [T.d]
      try simp (maxSteps := 2000000) only [startF, wSs, wS, wE, wL, wO, wB, wI, x_add, x_adds, x_addl, x_addt, x_sub, x_mul, x_mult, x_mull, x_fdv, x_mod, x_pow, x_auga, x_augs, x_augm, x_eqi, x_eqs, x_eqb, x_nei, x_nes, x_neb, x_eqtt, x_eqrr, x_eqtr, x_eqrt, x_eqst, x_eqts, x_nett, x_nerr, x_netr, x_nert, x_nest, x_nets, x_lt, x_le, x_gt, x_ge, x_ins, x_isn, x_isnt, x_ixt, x_ixl, x_ixd, x_ixs, x_slt, x_sll, x_sls, x_std, x_stl, x_isin, x_isis, x_isit, x_isii, x_isib, x_lens, x_lent, x_lenf, x_lenl, x_inti, x_intb, x_abs, x_max2, x_min2, x_maxl, x_minl, x_mxd, x_tupl, x_tupt, x_lisl, x_list, x_liss, x_all, x_any, x_sum, x_repr, x_app, x_ext, x_pop, x_popa, x_join, x_rcva, x_rcve, x_rcvp, x_rcvq, x_rcvj, x_srct, x_srcf, x_srcs, x_srcl, x_seqt, x_seql, x_enu, x_enut, x_zipl, x_zipt, x_rng1, x_rng2, x_tg1, x_tgt, x_tgl, x_var, x_put, x_ex, x_exv, x_exl, x_exl0, x_exd, x_exb, x_exi, x_dec, x_decf, x_ndec, x_ndecf, x_ty_str_str, x_ty_str_tuple, x_ty_str_int, x_ty_str_bool, x_ty_str_list, x_ty_str_dict, x_ty_str_list_tuple, x_ty_str_tuple_list, x_ty_str_str_tuple, x_ty_str_tuple_str, x_ty_str_int_bool, x_ty_str_bool_int, x_ty_str_str_int, x_ty_str_int_str, x_ty_tuple_str, x_ty_tuple_tuple, x_ty_tuple_int, x_ty_tuple_bool, x_ty_tuple_list, x_ty_tuple_dict, x_ty_tuple_list_tuple, x_ty_tuple_tuple_list, x_ty_tuple_str_tuple, x_ty_tuple_tuple_str, x_ty_tuple_int_bool, x_ty_tuple_bool_int, x_ty_tuple_str_int, x_ty_tuple_int_str, x_ty_int_str, x_ty_int_tuple, x_ty_int_int, x_ty_int_bool, x_ty_int_list, x_ty_int_dict, x_ty_int_list_tuple, x_ty_int_tuple_list, x_ty_int_str_tuple, x_ty_int_tuple_str, x_ty_int_int_bool, x_ty_int_bool_int, x_ty_int_str_int, x_ty_int_int_str, x_ty_bool_str, x_ty_bool_tuple, x_ty_bool_int, x_ty_bool_bool, x_ty_bool_list, x_ty_bool_dict, x_ty_bool_list_tuple, x_ty_bool_tuple_list, x_ty_bool_str_tuple, x_ty_bool_tuple_str, x_ty_bool_int_bool, x_ty_bool_bool_int, x_ty_bool_str_int, x_ty_bool_int_str, x_ty_list_str, x_ty_list_tuple, x_ty_list_int, x_ty_list_bool, x_ty_list_list, x_ty_list_dict, x_ty_list_list_tuple, x_ty_list_tuple_list, x_ty_list_str_tuple, x_ty_list_tuple_str, x_ty_list_int_bool, x_ty_list_bool_int, x_ty_list_str_int, x_ty_list_int_str, x_ty_dict_str, x_ty_dict_tuple, x_ty_dict_int, x_ty_dict_bool, x_ty_dict_list, x_ty_dict_dict, x_ty_dict_list_tuple, x_ty_dict_tuple_list, x_ty_dict_str_tuple, x_ty_dict_tuple_str, x_ty_dict_int_bool, x_ty_dict_bool_int, x_ty_dict_str_int, x_ty_dict_int_str, x_puto, x_puto', List.map_cons, List.map_nil, List.length_cons, List.length_nil, List.cons_append, List.nil_append, List.replicate, Nat.sub_zero, Nat.sub_self, Nat.zero_add, Nat.reduceAdd, Nat.reduceSub, List.getElem?_cons_zero, List.getElem?_cons_succ, List.set_cons_zero, List.set_cons_succ, setF, wipeF, true_and, and_true, if_true, if_false, Bool.true_eq_false, Bool.false_eq_true, ite_true, ite_false, reduceIte, not_true_eq_false, not_false_eq_true, Bool.not_true, Bool.not_false, exists_eq_left', exists_const, ne_eq]
      exact ⟨by omega, hQ S .refl⟩
    | t xs =>
      cases n with
      | zero => exact absurd hn (by show ¬ 1 + T.dps xs ≤ 0; omega)
      | succ n =>
        simp only [T.d]
        try simp (maxSteps := 2000000) only [startF, wSs, wS, wE, wL, wO, wB, wI, x_add, x_adds, x_addl, x_addt, x_sub, x_mul, x_mult, x_mull, x_fdv, x_mod, x_pow, x_auga, x_augs, x_augm, x_eqi, x_eqs, x_eqb, x_nei, x_nes, x_neb, x_eqtt, x_eqrr, x_eqtr, x_eqrt, x_eqst, x_eqts, x_nett, x_nerr, x_netr, x_nert, x_nest, x_nets, x_lt, x_le, x_gt, x_ge, x_ins, x_isn, x_isnt, x_ixt, x_ixl, x_ixd, x_ixs, x_slt, x_sll, x_sls, x_std, x_stl, x_isin, x_isis, x_isit, x_isii, x_isib, x_lens, x_lent, x_lenf, x_lenl, x_inti, x_intb, x_abs, x_max2, x_min2, x_maxl, x_minl, x_mxd, x_tupl, x_tupt, x_lisl, x_list, x_liss, x_all, x_any, x_sum, x_repr, x_app, x_ext, x_pop, x_popa, x_join, x_rcva, x_rcve, x_rcvp, x_rcvq, x_rcvj, x_srct, x_srcf, x_srcs, x_srcl, x_seqt, x_seql, x_enu, x_enut, x_zipl, x_zipt, x_rng1, x_rng2, x_tg1, x_tgt, x_tgl, x_var, x_put, x_ex, x_exv, x_exl, x_exl0, x_exd, x_exb, x_exi, x_dec, x_decf, x_ndec, x_ndecf, x_ty_str_str, x_ty_str_tuple, x_ty_str_int, x_ty_str_bool, x_ty_str_list, x_ty_str_dict, x_ty_str_list_tuple, x_ty_str_tuple_list, x_ty_str_str_tuple, x_ty_str_tuple_str, x_ty_str_int_bool, x_ty_str_bool_int, x_ty_str_str_int, x_ty_str_int_str, x_ty_tuple_str, x_ty_tuple_tuple, x_ty_tuple_int, x_ty_tuple_bool, x_ty_tuple_list, x_ty_tuple_dict, x_ty_tuple_list_tuple, x_ty_tuple_tuple_list, x_ty_tuple_str_tuple, x_ty_tuple_tuple_str, x_ty_tuple_int_bool, x_ty_tuple_bool_int, x_ty_tuple_str_int, x_ty_tuple_int_str, x_ty_int_str, x_ty_int_tuple, x_ty_int_int, x_ty_int_bool, x_ty_int_list, x_ty_int_dict, x_ty_int_list_tuple, x_ty_int_tuple_list, x_ty_int_str_tuple, x_ty_int_tuple_str, x_ty_int_int_bool, x_ty_int_bool_int, x_ty_int_str_int, x_ty_int_int_str, x_ty_bool_str, x_ty_bool_tuple, x_ty_bool_int, x_ty_bool_bool, x_ty_bool_list, x_ty_bool_dict, x_ty_bool_list_tuple, x_ty_bool_tuple_list, x_ty_bool_str_tuple, x_ty_bool_tuple_str, x_ty_bool_int_bool, x_ty_bool_bool_int, x_ty_bool_str_int, x_ty_bool_int_str, x_ty_list_str, x_ty_list_tuple, x_ty_list_int, x_ty_list_bool, x_ty_list_list, x_ty_list_dict, x_ty_list_list_tuple, x_ty_list_tuple_list, x_ty_list_str_tuple, x_ty_list_tuple_str, x_ty_list_int_bool, x_ty_list_bool_int, x_ty_list_str_int, x_ty_list_int_str, x_ty_dict_str, x_ty_dict_tuple, x_ty_dict_int, x_ty_dict_bool, x_ty_dict_list, x_ty_dict_dict, x_ty_dict_list_tuple, x_ty_dict_tuple_list, x_ty_dict_str_tuple, x_ty_dict_tuple_str, x_ty_dict_int_bool, x_ty_dict_bool_int, x_ty_dict_str_int, x_ty_dict_int_str, x_puto, x_puto', List.map_cons, List.map_nil, List.length_cons, List.length_nil, List.cons_append, List.nil_append, List.replicate, Nat.sub_zero, Nat.sub_self, Nat.zero_add, Nat.reduceAdd, Nat.reduceSub, List.getElem?_cons_zero, List.getElem?_cons_succ, List.set_cons_zero, List.set_cons_succ, setF, wipeF, true_and, and_true, if_true, if_false, Bool.true_eq_false, Bool.false_eq_true, ite_true, ite_false, reduceIte, not_true_eq_false, not_false_eq_true, Bool.not_true, Bool.not_false, exists_eq_left', exists_const, ne_eq]
        rw [T.ds_map]
        have hz : (T.nms xs).length < 1000000 := hz
        have ef : (xs.flatMap fun x => (T.nm x).map D.str) = (T.nms xs).map D.str := by rw [T.nms_map]; exact flatMap_map (β := Nat)
        refine loop_ext T.d (fun x => (T.nm x).map D.str) (fun _ _ => trivial) xs [] S .refl (by rw [ef, List.length_map]; simpa using (by omega)) (fun x hx acc S' N e hl hN => ?_) fun S' e p hp => ?_
        · have h1 : T.dp x ≤ n := by
            have := T.dps_le hx
            have : 1 + T.dps xs ≤ n + 1 := hn
            omega
          refine d_inner_names h1 (by omega) (Nat.lt_of_le_of_lt (T.nm_mem hx) hz) fun S2 e2 => ?_
          try simp (maxSteps := 2000000) only [startF, wSs, wS, wE, wL, wO, wB, wI, x_add, x_adds, x_addl, x_addt, x_sub, x_mul, x_mult, x_mull, x_fdv, x_mod, x_pow, x_auga, x_augs, x_augm, x_eqi, x_eqs, x_eqb, x_nei, x_nes, x_neb, x_eqtt, x_eqrr, x_eqtr, x_eqrt, x_eqst, x_eqts, x_nett, x_nerr, x_netr, x_nert, x_nest, x_nets, x_lt, x_le, x_gt, x_ge, x_ins, x_isn, x_isnt, x_ixt, x_ixl, x_ixd, x_ixs, x_slt, x_sll, x_sls, x_std, x_stl, x_isin, x_isis, x_isit, x_isii, x_isib, x_lens, x_lent, x_lenf, x_lenl, x_inti, x_intb, x_abs, x_max2, x_min2, x_maxl, x_minl, x_mxd, x_tupl, x_tupt, x_lisl, x_list, x_liss, x_all, x_any, x_sum, x_repr, x_app, x_ext, x_pop, x_popa, x_join, x_rcva, x_rcve, x_rcvp, x_rcvq, x_rcvj, x_srct, x_srcf, x_srcs, x_srcl, x_seqt, x_seql, x_enu, x_enut, x_zipl, x_zipt, x_rng1, x_rng2, x_tg1, x_tgt, x_tgl, x_var, x_put, x_ex, x_exv, x_exl, x_exl0, x_exd, x_exb, x_exi, x_dec, x_decf, x_ndec, x_ndecf, x_ty_str_str, x_ty_str_tuple, x_ty_str_int, x_ty_str_bool, x_ty_str_list, x_ty_str_dict, x_ty_str_list_tuple, x_ty_str_tuple_list, x_ty_str_str_tuple, x_ty_str_tuple_str, x_ty_str_int_bool, x_ty_str_bool_int, x_ty_str_str_int, x_ty_str_int_str, x_ty_tuple_str, x_ty_tuple_tuple, x_ty_tuple_int, x_ty_tuple_bool, x_ty_tuple_list, x_ty_tuple_dict, x_ty_tuple_list_tuple, x_ty_tuple_tuple_list, x_ty_tuple_str_tuple, x_ty_tuple_tuple_str, x_ty_tuple_int_bool, x_ty_tuple_bool_int, x_ty_tuple_str_int, x_ty_tuple_int_str, x_ty_int_str, x_ty_int_tuple, x_ty_int_int, x_ty_int_bool, x_ty_int_list, x_ty_int_dict, x_ty_int_list_tuple, x_ty_int_tuple_list, x_ty_int_str_tuple, x_ty_int_tuple_str, x_ty_int_int_bool, x_ty_int_bool_int, x_ty_int_str_int, x_ty_int_int_str, x_ty_bool_str, x_ty_bool_tuple, x_ty_bool_int, x_ty_bool_bool, x_ty_bool_list, x_ty_bool_dict, x_ty_bool_list_tuple, x_ty_bool_tuple_list, x_ty_bool_str_tuple, x_ty_bool_tuple_str, x_ty_bool_int_bool, x_ty_bool_bool_int, x_ty_bool_str_int, x_ty_bool_int_str, x_ty_list_str, x_ty_list_tuple, x_ty_list_int, x_ty_list_bool, x_ty_list_list, x_ty_list_dict, x_ty_list_list_tuple, x_ty_list_tuple_list, x_ty_list_str_tuple, x_ty_list_tuple_str, x_ty_list_int_bool, x_ty_list_bool_int, x_ty_list_str_int, x_ty_list_int_str, x_ty_dict_str, x_ty_dict_tuple, x_ty_dict_int, x_ty_dict_bool, x_ty_dict_list, x_ty_dict_dict, x_ty_dict_list_tuple, x_ty_dict_tuple_list, x_ty_dict_str_tuple, x_ty_dict_tuple_str, x_ty_dict_int_bool, x_ty_dict_bool_int, x_ty_dict_str_int, x_ty_dict_int_str, x_puto, x_puto', List.map_cons, List.map_nil, List.length_cons, List.length_nil, List.cons_append, List.nil_append, List.replicate, Nat.sub_zero, Nat.sub_self, Nat.zero_add, Nat.reduceAdd, Nat.reduceSub, List.getElem?_cons_zero, List.getElem?_cons_succ, List.set_cons_zero, List.set_cons_succ, setF, wipeF, true_and, and_true, if_true, if_false, Bool.true_eq_false, Bool.false_eq_true, ite_true, ite_false, reduceIte, not_true_eq_false, not_false_eq_true, Bool.not_true, Bool.not_false, exists_eq_left', exists_const, ne_eq]
          have e1 : ((T.nm x).flatMap fun y => [D.str y]) = (T.nm x).map D.str := flatMap_one _ _
          refine loop_ext D.str (fun y => [D.str y]) (fun _ _ => trivial) (T.nm x) acc S2 .refl (by rw [e1]; exact hl) (fun y hy acc' S3 N' e3 hl' hN' => ?_) fun S3 e3 => ?_
          · try simp (maxSteps := 2000000) only [startF, wSs, wS, wE, wL, wO, wB, wI, x_add, x_adds, x_addl, x_addt, x_sub, x_mul, x_mult, x_mull, x_fdv, x_mod, x_pow, x_auga, x_augs, x_augm, x_eqi, x_eqs, x_eqb, x_nei, x_nes, x_neb, x_eqtt, x_eqrr, x_eqtr, x_eqrt, x_eqst, x_eqts, x_nett, x_nerr, x_netr, x_nert, x_nest, x_nets, x_lt, x_le, x_gt, x_ge, x_ins, x_isn, x_isnt, x_ixt, x_ixl, x_ixd, x_ixs, x_slt, x_sll, x_sls, x_std, x_stl, x_isin, x_isis, x_isit, x_isii, x_isib, x_lens, x_lent, x_lenf, x_lenl, x_inti, x_intb, x_abs, x_max2, x_min2, x_maxl, x_minl, x_mxd, x_tupl, x_tupt, x_lisl, x_list, x_liss, x_all, x_any, x_sum, x_repr, x_app, x_ext, x_pop, x_popa, x_join, x_rcva, x_rcve, x_rcvp, x_rcvq, x_rcvj, x_srct, x_srcf, x_srcs, x_srcl, x_seqt, x_seql, x_enu, x_enut, x_zipl, x_zipt, x_rng1, x_rng2, x_tg1, x_tgt, x_tgl, x_var, x_put, x_ex, x_exv, x_exl, x_exl0, x_exd, x_exb, x_exi, x_dec, x_decf, x_ndec, x_ndecf, x_ty_str_str, x_ty_str_tuple, x_ty_str_int, x_ty_str_bool, x_ty_str_list, x_ty_str_dict, x_ty_str_list_tuple, x_ty_str_tuple_list, x_ty_str_str_tuple, x_ty_str_tuple_str, x_ty_str_int_bool, x_ty_str_bool_int, x_ty_str_str_int, x_ty_str_int_str, x_ty_tuple_str, x_ty_tuple_tuple, x_ty_tuple_int, x_ty_tuple_bool, x_ty_tuple_list, x_ty_tuple_dict, x_ty_tuple_list_tuple, x_ty_tuple_tuple_list, x_ty_tuple_str_tuple, x_ty_tuple_tuple_str, x_ty_tuple_int_bool, x_ty_tuple_bool_int, x_ty_tuple_str_int, x_ty_tuple_int_str, x_ty_int_str, x_ty_int_tuple, x_ty_int_int, x_ty_int_bool, x_ty_int_list, x_ty_int_dict, x_ty_int_list_tuple, x_ty_int_tuple_list, x_ty_int_str_tuple, x_ty_int_tuple_str, x_ty_int_int_bool, x_ty_int_bool_int, x_ty_int_str_int, x_ty_int_int_str, x_ty_bool_str, x_ty_bool_tuple, x_ty_bool_int, x_ty_bool_bool, x_ty_bool_list, x_ty_bool_dict, x_ty_bool_list_tuple, x_ty_bool_tuple_list, x_ty_bool_str_tuple, x_ty_bool_tuple_str, x_ty_bool_int_bool, x_ty_bool_bool_int, x_ty_bool_str_int, x_ty_bool_int_str, x_ty_list_str, x_ty_list_tuple, x_ty_list_int, x_ty_list_bool, x_ty_list_list, x_ty_list_dict, x_ty_list_list_tuple, x_ty_list_tuple_list, x_ty_list_str_tuple, x_ty_list_tuple_str, x_ty_list_int_bool, x_ty_list_bool_int, x_ty_list_str_int, x_ty_list_int_str, x_ty_dict_str, x_ty_dict_tuple, x_ty_dict_int, x_ty_dict_bool, x_ty_dict_list, x_ty_dict_dict, x_ty_dict_list_tuple, x_ty_dict_tuple_list, x_ty_dict_str_tuple, x_ty_dict_tuple_str, x_ty_dict_int_bool, x_ty_dict_bool_int, x_ty_dict_str_int, x_ty_dict_int_str, x_puto, x_puto', List.map_cons, List.map_nil, List.length_cons, List.length_nil, List.cons_append, List.nil_append, List.replicate, Nat.sub_zero, Nat.sub_self, Nat.zero_add, Nat.reduceAdd, Nat.reduceSub, List.getElem?_cons_zero, List.getElem?_cons_succ, List.set_cons_zero, List.set_cons_succ, setF, wipeF, true_and, and_true, if_true, if_false, Bool.true_eq_false, Bool.false_eq_true, ite_true, ite_false, reduceIte, not_true_eq_false, not_false_eq_true, Bool.not_true, Bool.not_false, exists_eq_left', exists_const, ne_eq]
            exact ⟨by rw [sizeLine_eq]; simp only [List.length_cons, List.length_nil] at hl'; omega, hN' S3 .refl⟩
          · rw [e1]
            exact hN S3 (e2.trans e3)
        · rw [List.nil_append, ef]
          try simp (maxSteps := 2000000) only [startF, wSs, wS, wE, wL, wO, wB, wI, x_add, x_adds, x_addl, x_addt, x_sub, x_mul, x_mult, x_mull, x_fdv, x_mod, x_pow, x_auga, x_augs, x_augm, x_eqi, x_eqs, x_eqb, x_nei, x_nes, x_neb, x_eqtt, x_eqrr, x_eqtr, x_eqrt, x_eqst, x_eqts, x_nett, x_nerr, x_netr, x_nert, x_nest, x_nets, x_lt, x_le, x_gt, x_ge, x_ins, x_isn, x_isnt, x_ixt, x_ixl, x_ixd, x_ixs, x_slt, x_sll, x_sls, x_std, x_stl, x_isin, x_isis, x_isit, x_isii, x_isib, x_lens, x_lent, x_lenf, x_lenl, x_inti, x_intb, x_abs, x_max2, x_min2, x_maxl, x_minl, x_mxd, x_tupl, x_tupt, x_lisl, x_list, x_liss, x_all, x_any, x_sum, x_repr, x_app, x_ext, x_pop, x_popa, x_join, x_rcva, x_rcve, x_rcvp, x_rcvq, x_rcvj, x_srct, x_srcf, x_srcs, x_srcl, x_seqt, x_seql, x_enu, x_enut, x_zipl, x_zipt, x_rng1, x_rng2, x_tg1, x_tgt, x_tgl, x_var, x_put, x_ex, x_exv, x_exl, x_exl0, x_exd, x_exb, x_exi, x_dec, x_decf, x_ndec, x_ndecf, x_ty_str_str, x_ty_str_tuple, x_ty_str_int, x_ty_str_bool, x_ty_str_list, x_ty_str_dict, x_ty_str_list_tuple, x_ty_str_tuple_list, x_ty_str_str_tuple, x_ty_str_tuple_str, x_ty_str_int_bool, x_ty_str_bool_int, x_ty_str_str_int, x_ty_str_int_str, x_ty_tuple_str, x_ty_tuple_tuple, x_ty_tuple_int, x_ty_tuple_bool, x_ty_tuple_list, x_ty_tuple_dict, x_ty_tuple_list_tuple, x_ty_tuple_tuple_list, x_ty_tuple_str_tuple, x_ty_tuple_tuple_str, x_ty_tuple_int_bool, x_ty_tuple_bool_int, x_ty_tuple_str_int, x_ty_tuple_int_str, x_ty_int_str, x_ty_int_tuple, x_ty_int_int, x_ty_int_bool, x_ty_int_list, x_ty_int_dict, x_ty_int_list_tuple, x_ty_int_tuple_list, x_ty_int_str_tuple, x_ty_int_tuple_str, x_ty_int_int_bool, x_ty_int_bool_int, x_ty_int_str_int, x_ty_int_int_str, x_ty_bool_str, x_ty_bool_tuple, x_ty_bool_int, x_ty_bool_bool, x_ty_bool_list, x_ty_bool_dict, x_ty_bool_list_tuple, x_ty_bool_tuple_list, x_ty_bool_str_tuple, x_ty_bool_tuple_str, x_ty_bool_int_bool, x_ty_bool_bool_int, x_ty_bool_str_int, x_ty_bool_int_str, x_ty_list_str, x_ty_list_tuple, x_ty_list_int, x_ty_list_bool, x_ty_list_list, x_ty_list_dict, x_ty_list_list_tuple, x_ty_list_tuple_list, x_ty_list_str_tuple, x_ty_list_tuple_str, x_ty_list_int_bool, x_ty_list_bool_int, x_ty_list_str_int, x_ty_list_int_str, x_ty_dict_str, x_ty_dict_tuple, x_ty_dict_int, x_ty_dict_bool, x_ty_dict_list, x_ty_dict_dict, x_ty_dict_list_tuple, x_ty_dict_tuple_list, x_ty_dict_str_tuple, x_ty_dict_tuple_str, x_ty_dict_int_bool, x_ty_dict_bool_int, x_ty_dict_str_int, x_ty_dict_int_str, x_puto, x_puto', List.map_cons, List.map_nil, List.length_cons, List.length_nil, List.cons_append, List.nil_append, List.replicate, Nat.sub_zero, Nat.sub_self, Nat.zero_add, Nat.reduceAdd, Nat.reduceSub, List.getElem?_cons_zero, List.getElem?_cons_succ, List.set_cons_zero, List.set_cons_succ, setF, wipeF, true_and, and_true, if_true, if_false, Bool.true_eq_false, Bool.false_eq_true, ite_true, ite_false, reduceIte, not_true_eq_false, not_false_eq_true, Bool.not_true, Bool.not_false, exists_eq_left', exists_const, ne_eq]
          exact hQ _ (e.trans (Ext.new hp))
  termination_by n => n
theorem d_is_kind {k : Nat} {t : T} {S : Sto} {Q : KE} {E : XE} (hk : 8 ≤ k) (hs : t.sh) (ht : kindB t = true) (hQ : ∀ S', Ext S S' → Q (.bl true) S') : wC tab k "is_kind" [t.d] S Q E := by
  refine wd (fd := f_is_kind) (by omega) rfl rfl ?_
  unfold f_is_kind
  have sz := sizeLine_eq
  unfold kindB at ht
  simp only [Bool.and_eq_true, decide_eq_true_eq] at ht
  try simp (maxSteps := 2000000) only [startF, wSs, wS, wE, wL, wO, wB, wI, x_add, x_adds, x_addl, x_addt, x_sub, x_mul, x_mult, x_mull, x_fdv, x_mod, x_pow, x_auga, x_augs, x_augm, x_eqi, x_eqs, x_eqb, x_nei, x_nes, x_neb, x_eqtt, x_eqrr, x_eqtr, x_eqrt, x_eqst, x_eqts, x_nett, x_nerr, x_netr, x_nert, x_nest, x_nets, x_lt, x_le, x_gt, x_ge, x_ins, x_isn, x_isnt, x_ixt, x_ixl, x_ixd, x_ixs, x_slt, x_sll, x_sls, x_std, x_stl, x_isin, x_isis, x_isit, x_isii, x_isib, x_lens, x_lent, x_lenf, x_lenl, x_inti, x_intb, x_abs, x_max2, x_min2, x_maxl, x_minl, x_mxd, x_tupl, x_tupt, x_lisl, x_list, x_liss, x_all, x_any, x_sum, x_repr, x_app, x_ext, x_pop, x_popa, x_join, x_rcva, x_rcve, x_rcvp, x_rcvq, x_rcvj, x_srct, x_srcf, x_srcs, x_srcl, x_seqt, x_seql, x_enu, x_enut, x_zipl, x_zipt, x_rng1, x_rng2, x_tg1, x_tgt, x_tgl, x_var, x_put, x_ex, x_exv, x_exl, x_exl0, x_exd, x_exb, x_exi, x_dec, x_decf, x_ndec, x_ndecf, x_ty_str_str, x_ty_str_tuple, x_ty_str_int, x_ty_str_bool, x_ty_str_list, x_ty_str_dict, x_ty_str_list_tuple, x_ty_str_tuple_list, x_ty_str_str_tuple, x_ty_str_tuple_str, x_ty_str_int_bool, x_ty_str_bool_int, x_ty_str_str_int, x_ty_str_int_str, x_ty_tuple_str, x_ty_tuple_tuple, x_ty_tuple_int, x_ty_tuple_bool, x_ty_tuple_list, x_ty_tuple_dict, x_ty_tuple_list_tuple, x_ty_tuple_tuple_list, x_ty_tuple_str_tuple, x_ty_tuple_tuple_str, x_ty_tuple_int_bool, x_ty_tuple_bool_int, x_ty_tuple_str_int, x_ty_tuple_int_str, x_ty_int_str, x_ty_int_tuple, x_ty_int_int, x_ty_int_bool, x_ty_int_list, x_ty_int_dict, x_ty_int_list_tuple, x_ty_int_tuple_list, x_ty_int_str_tuple, x_ty_int_tuple_str, x_ty_int_int_bool, x_ty_int_bool_int, x_ty_int_str_int, x_ty_int_int_str, x_ty_bool_str, x_ty_bool_tuple, x_ty_bool_int, x_ty_bool_bool, x_ty_bool_list, x_ty_bool_dict, x_ty_bool_list_tuple, x_ty_bool_tuple_list, x_ty_bool_str_tuple, x_ty_bool_tuple_str, x_ty_bool_int_bool, x_ty_bool_bool_int, x_ty_bool_str_int, x_ty_bool_int_str, x_ty_list_str, x_ty_list_tuple, x_ty_list_int, x_ty_list_bool, x_ty_list_list, x_ty_list_dict, x_ty_list_list_tuple, x_ty_list_tuple_list, x_ty_list_str_tuple, x_ty_list_tuple_str, x_ty_list_int_bool, x_ty_list_bool_int, x_ty_list_str_int, x_ty_list_int_str, x_ty_dict_str, x_ty_dict_tuple, x_ty_dict_int, x_ty_dict_bool, x_ty_dict_list, x_ty_dict_dict, x_ty_dict_list_tuple, x_ty_dict_tuple_list, x_ty_dict_str_tuple, x_ty_dict_tuple_str, x_ty_dict_int_bool, x_ty_dict_bool_int, x_ty_dict_str_int, x_ty_dict_int_str, x_puto, x_puto', List.map_cons, List.map_nil, List.length_cons, List.length_nil, List.cons_append, List.nil_append, List.replicate, Nat.sub_zero, Nat.sub_self, Nat.zero_add, Nat.reduceAdd, Nat.reduceSub, List.getElem?_cons_zero, List.getElem?_cons_succ, List.set_cons_zero, List.set_cons_succ, setF, wipeF, true_and, and_true, if_true, if_false, Bool.true_eq_false, Bool.false_eq_true, ite_true, ite_false, reduceIte, not_true_eq_false, not_false_eq_true, Bool.not_true, Bool.not_false, exists_eq_left', exists_const, ne_eq]
  refine d_has_form (n := 4) (by omega) hs fun S1 e1 => ?_
  rw [ht.1]
  try simp (maxSteps := 2000000) only [startF, wSs, wS, wE, wL, wO, wB, wI, x_add, x_adds, x_addl, x_addt, x_sub, x_mul, x_mult, x_mull, x_fdv, x_mod, x_pow, x_auga, x_augs, x_augm, x_eqi, x_eqs, x_eqb, x_nei, x_nes, x_neb, x_eqtt, x_eqrr, x_eqtr, x_eqrt, x_eqst, x_eqts, x_nett, x_nerr, x_netr, x_nert, x_nest, x_nets, x_lt, x_le, x_gt, x_ge, x_ins, x_isn, x_isnt, x_ixt, x_ixl, x_ixd, x_ixs, x_slt, x_sll, x_sls, x_std, x_stl, x_isin, x_isis, x_isit, x_isii, x_isib, x_lens, x_lent, x_lenf, x_lenl, x_inti, x_intb, x_abs, x_max2, x_min2, x_maxl, x_minl, x_mxd, x_tupl, x_tupt, x_lisl, x_list, x_liss, x_all, x_any, x_sum, x_repr, x_app, x_ext, x_pop, x_popa, x_join, x_rcva, x_rcve, x_rcvp, x_rcvq, x_rcvj, x_srct, x_srcf, x_srcs, x_srcl, x_seqt, x_seql, x_enu, x_enut, x_zipl, x_zipt, x_rng1, x_rng2, x_tg1, x_tgt, x_tgl, x_var, x_put, x_ex, x_exv, x_exl, x_exl0, x_exd, x_exb, x_exi, x_dec, x_decf, x_ndec, x_ndecf, x_ty_str_str, x_ty_str_tuple, x_ty_str_int, x_ty_str_bool, x_ty_str_list, x_ty_str_dict, x_ty_str_list_tuple, x_ty_str_tuple_list, x_ty_str_str_tuple, x_ty_str_tuple_str, x_ty_str_int_bool, x_ty_str_bool_int, x_ty_str_str_int, x_ty_str_int_str, x_ty_tuple_str, x_ty_tuple_tuple, x_ty_tuple_int, x_ty_tuple_bool, x_ty_tuple_list, x_ty_tuple_dict, x_ty_tuple_list_tuple, x_ty_tuple_tuple_list, x_ty_tuple_str_tuple, x_ty_tuple_tuple_str, x_ty_tuple_int_bool, x_ty_tuple_bool_int, x_ty_tuple_str_int, x_ty_tuple_int_str, x_ty_int_str, x_ty_int_tuple, x_ty_int_int, x_ty_int_bool, x_ty_int_list, x_ty_int_dict, x_ty_int_list_tuple, x_ty_int_tuple_list, x_ty_int_str_tuple, x_ty_int_tuple_str, x_ty_int_int_bool, x_ty_int_bool_int, x_ty_int_str_int, x_ty_int_int_str, x_ty_bool_str, x_ty_bool_tuple, x_ty_bool_int, x_ty_bool_bool, x_ty_bool_list, x_ty_bool_dict, x_ty_bool_list_tuple, x_ty_bool_tuple_list, x_ty_bool_str_tuple, x_ty_bool_tuple_str, x_ty_bool_int_bool, x_ty_bool_bool_int, x_ty_bool_str_int, x_ty_bool_int_str, x_ty_list_str, x_ty_list_tuple, x_ty_list_int, x_ty_list_bool, x_ty_list_list, x_ty_list_dict, x_ty_list_list_tuple, x_ty_list_tuple_list, x_ty_list_str_tuple, x_ty_list_tuple_str, x_ty_list_int_bool, x_ty_list_bool_int, x_ty_list_str_int, x_ty_list_int_str, x_ty_dict_str, x_ty_dict_tuple, x_ty_dict_int, x_ty_dict_bool, x_ty_dict_list, x_ty_dict_dict, x_ty_dict_list_tuple, x_ty_dict_tuple_list, x_ty_dict_str_tuple, x_ty_dict_tuple_str, x_ty_dict_int_bool, x_ty_dict_bool_int, x_ty_dict_str_int, x_ty_dict_int_str, x_puto, x_puto', List.map_cons, List.map_nil, List.length_cons, List.length_nil, List.cons_append, List.nil_append, List.replicate, Nat.sub_zero, Nat.sub_self, Nat.zero_add, Nat.reduceAdd, Nat.reduceSub, List.getElem?_cons_zero, List.getElem?_cons_succ, List.set_cons_zero, List.set_cons_succ, setF, wipeF, true_and, and_true, if_true, if_false, Bool.true_eq_false, Bool.false_eq_true, ite_true, ite_false, reduceIte, not_true_eq_false, not_false_eq_true, Bool.not_true, Bool.not_false, exists_eq_left', exists_const, ne_eq]
  refine d_inner_names (hf_dp ht.1) (by omega) (by omega) fun S2 e2 => ?_
  try simp (maxSteps := 2000000) only [startF, wSs, wS, wE, wL, wO, wB, wI, x_add, x_adds, x_addl, x_addt, x_sub, x_mul, x_mult, x_mull, x_fdv, x_mod, x_pow, x_auga, x_augs, x_augm, x_eqi, x_eqs, x_eqb, x_nei, x_nes, x_neb, x_eqtt, x_eqrr, x_eqtr, x_eqrt, x_eqst, x_eqts, x_nett, x_nerr, x_netr, x_nert, x_nest, x_nets, x_lt, x_le, x_gt, x_ge, x_ins, x_isn, x_isnt, x_ixt, x_ixl, x_ixd, x_ixs, x_slt, x_sll, x_sls, x_std, x_stl, x_isin, x_isis, x_isit, x_isii, x_isib, x_lens, x_lent, x_lenf, x_lenl, x_inti, x_intb, x_abs, x_max2, x_min2, x_maxl, x_minl, x_mxd, x_tupl, x_tupt, x_lisl, x_list, x_liss, x_all, x_any, x_sum, x_repr, x_app, x_ext, x_pop, x_popa, x_join, x_rcva, x_rcve, x_rcvp, x_rcvq, x_rcvj, x_srct, x_srcf, x_srcs, x_srcl, x_seqt, x_seql, x_enu, x_enut, x_zipl, x_zipt, x_rng1, x_rng2, x_tg1, x_tgt, x_tgl, x_var, x_put, x_ex, x_exv, x_exl, x_exl0, x_exd, x_exb, x_exi, x_dec, x_decf, x_ndec, x_ndecf, x_ty_str_str, x_ty_str_tuple, x_ty_str_int, x_ty_str_bool, x_ty_str_list, x_ty_str_dict, x_ty_str_list_tuple, x_ty_str_tuple_list, x_ty_str_str_tuple, x_ty_str_tuple_str, x_ty_str_int_bool, x_ty_str_bool_int, x_ty_str_str_int, x_ty_str_int_str, x_ty_tuple_str, x_ty_tuple_tuple, x_ty_tuple_int, x_ty_tuple_bool, x_ty_tuple_list, x_ty_tuple_dict, x_ty_tuple_list_tuple, x_ty_tuple_tuple_list, x_ty_tuple_str_tuple, x_ty_tuple_tuple_str, x_ty_tuple_int_bool, x_ty_tuple_bool_int, x_ty_tuple_str_int, x_ty_tuple_int_str, x_ty_int_str, x_ty_int_tuple, x_ty_int_int, x_ty_int_bool, x_ty_int_list, x_ty_int_dict, x_ty_int_list_tuple, x_ty_int_tuple_list, x_ty_int_str_tuple, x_ty_int_tuple_str, x_ty_int_int_bool, x_ty_int_bool_int, x_ty_int_str_int, x_ty_int_int_str, x_ty_bool_str, x_ty_bool_tuple, x_ty_bool_int, x_ty_bool_bool, x_ty_bool_list, x_ty_bool_dict, x_ty_bool_list_tuple, x_ty_bool_tuple_list, x_ty_bool_str_tuple, x_ty_bool_tuple_str, x_ty_bool_int_bool, x_ty_bool_bool_int, x_ty_bool_str_int, x_ty_bool_int_str, x_ty_list_str, x_ty_list_tuple, x_ty_list_int, x_ty_list_bool, x_ty_list_list, x_ty_list_dict, x_ty_list_list_tuple, x_ty_list_tuple_list, x_ty_list_str_tuple, x_ty_list_tuple_str, x_ty_list_int_bool, x_ty_list_bool_int, x_ty_list_str_int, x_ty_list_int_str, x_ty_dict_str, x_ty_dict_tuple, x_ty_dict_int, x_ty_dict_bool, x_ty_dict_list, x_ty_dict_dict, x_ty_dict_list_tuple, x_ty_dict_tuple_list, x_ty_dict_str_tuple, x_ty_dict_tuple_str, x_ty_dict_int_bool, x_ty_dict_bool_int, x_ty_dict_str_int, x_ty_dict_int_str, x_puto, x_puto', List.map_cons, List.map_nil, List.length_cons, List.length_nil, List.cons_append, List.nil_append, List.replicate, Nat.sub_zero, Nat.sub_self, Nat.zero_add, Nat.reduceAdd, Nat.reduceSub, List.getElem?_cons_zero, List.getElem?_cons_succ, List.set_cons_zero, List.set_cons_succ, setF, wipeF, true_and, and_true, if_true, if_false, Bool.true_eq_false, Bool.false_eq_true, ite_true, ite_false, reduceIte, not_true_eq_false, not_false_eq_true, Bool.not_true, Bool.not_false, exists_eq_left', exists_const, ne_eq]
  rw [List.length_map, decide_eq_true (show ((t.nm.length : Nat) : Int) ≤ 14 by omega)]
  exact hQ _ (e1.trans e2)
theorem d_need_kind {k : Nat} {t : T} {S : Sto} {Q : KE} {E : XE} (hk : 9 ≤ k) (ht : kindB t = true) (hQ : ∀ S', Ext S S' → Q .non S') : wC tab k "need_kind" [t.d] S Q E := by
  refine wd (fd := f_need_kind) (by omega) rfl rfl ?_
  unfold f_need_kind
  have h4 : hf 4 t = true := by
    unfold kindB at ht
    exact (Bool.and_eq_true_iff.mp ht).1
  try simp (maxSteps := 2000000) only [startF, wSs, wS, wE, wL, wO, wB, wI, x_add, x_adds, x_addl, x_addt, x_sub, x_mul, x_mult, x_mull, x_fdv, x_mod, x_pow, x_auga, x_augs, x_augm, x_eqi, x_eqs, x_eqb, x_nei, x_nes, x_neb, x_eqtt, x_eqrr, x_eqtr, x_eqrt, x_eqst, x_eqts, x_nett, x_nerr, x_netr, x_nert, x_nest, x_nets, x_lt, x_le, x_gt, x_ge, x_ins, x_isn, x_isnt, x_ixt, x_ixl, x_ixd, x_ixs, x_slt, x_sll, x_sls, x_std, x_stl, x_isin, x_isis, x_isit, x_isii, x_isib, x_lens, x_lent, x_lenf, x_lenl, x_inti, x_intb, x_abs, x_max2, x_min2, x_maxl, x_minl, x_mxd, x_tupl, x_tupt, x_lisl, x_list, x_liss, x_all, x_any, x_sum, x_repr, x_app, x_ext, x_pop, x_popa, x_join, x_rcva, x_rcve, x_rcvp, x_rcvq, x_rcvj, x_srct, x_srcf, x_srcs, x_srcl, x_seqt, x_seql, x_enu, x_enut, x_zipl, x_zipt, x_rng1, x_rng2, x_tg1, x_tgt, x_tgl, x_var, x_put, x_ex, x_exv, x_exl, x_exl0, x_exd, x_exb, x_exi, x_dec, x_decf, x_ndec, x_ndecf, x_ty_str_str, x_ty_str_tuple, x_ty_str_int, x_ty_str_bool, x_ty_str_list, x_ty_str_dict, x_ty_str_list_tuple, x_ty_str_tuple_list, x_ty_str_str_tuple, x_ty_str_tuple_str, x_ty_str_int_bool, x_ty_str_bool_int, x_ty_str_str_int, x_ty_str_int_str, x_ty_tuple_str, x_ty_tuple_tuple, x_ty_tuple_int, x_ty_tuple_bool, x_ty_tuple_list, x_ty_tuple_dict, x_ty_tuple_list_tuple, x_ty_tuple_tuple_list, x_ty_tuple_str_tuple, x_ty_tuple_tuple_str, x_ty_tuple_int_bool, x_ty_tuple_bool_int, x_ty_tuple_str_int, x_ty_tuple_int_str, x_ty_int_str, x_ty_int_tuple, x_ty_int_int, x_ty_int_bool, x_ty_int_list, x_ty_int_dict, x_ty_int_list_tuple, x_ty_int_tuple_list, x_ty_int_str_tuple, x_ty_int_tuple_str, x_ty_int_int_bool, x_ty_int_bool_int, x_ty_int_str_int, x_ty_int_int_str, x_ty_bool_str, x_ty_bool_tuple, x_ty_bool_int, x_ty_bool_bool, x_ty_bool_list, x_ty_bool_dict, x_ty_bool_list_tuple, x_ty_bool_tuple_list, x_ty_bool_str_tuple, x_ty_bool_tuple_str, x_ty_bool_int_bool, x_ty_bool_bool_int, x_ty_bool_str_int, x_ty_bool_int_str, x_ty_list_str, x_ty_list_tuple, x_ty_list_int, x_ty_list_bool, x_ty_list_list, x_ty_list_dict, x_ty_list_list_tuple, x_ty_list_tuple_list, x_ty_list_str_tuple, x_ty_list_tuple_str, x_ty_list_int_bool, x_ty_list_bool_int, x_ty_list_str_int, x_ty_list_int_str, x_ty_dict_str, x_ty_dict_tuple, x_ty_dict_int, x_ty_dict_bool, x_ty_dict_list, x_ty_dict_dict, x_ty_dict_list_tuple, x_ty_dict_tuple_list, x_ty_dict_str_tuple, x_ty_dict_tuple_str, x_ty_dict_int_bool, x_ty_dict_bool_int, x_ty_dict_str_int, x_ty_dict_int_str, x_puto, x_puto', List.map_cons, List.map_nil, List.length_cons, List.length_nil, List.cons_append, List.nil_append, List.replicate, Nat.sub_zero, Nat.sub_self, Nat.zero_add, Nat.reduceAdd, Nat.reduceSub, List.getElem?_cons_zero, List.getElem?_cons_succ, List.set_cons_zero, List.set_cons_succ, setF, wipeF, true_and, and_true, if_true, if_false, Bool.true_eq_false, Bool.false_eq_true, ite_true, ite_false, reduceIte, not_true_eq_false, not_false_eq_true, Bool.not_true, Bool.not_false, exists_eq_left', exists_const, ne_eq]
  refine d_is_kind (by omega) (hf_sh h4) ht fun S1 e1 => ?_
  try simp (maxSteps := 2000000) only [startF, wSs, wS, wE, wL, wO, wB, wI, x_add, x_adds, x_addl, x_addt, x_sub, x_mul, x_mult, x_mull, x_fdv, x_mod, x_pow, x_auga, x_augs, x_augm, x_eqi, x_eqs, x_eqb, x_nei, x_nes, x_neb, x_eqtt, x_eqrr, x_eqtr, x_eqrt, x_eqst, x_eqts, x_nett, x_nerr, x_netr, x_nert, x_nest, x_nets, x_lt, x_le, x_gt, x_ge, x_ins, x_isn, x_isnt, x_ixt, x_ixl, x_ixd, x_ixs, x_slt, x_sll, x_sls, x_std, x_stl, x_isin, x_isis, x_isit, x_isii, x_isib, x_lens, x_lent, x_lenf, x_lenl, x_inti, x_intb, x_abs, x_max2, x_min2, x_maxl, x_minl, x_mxd, x_tupl, x_tupt, x_lisl, x_list, x_liss, x_all, x_any, x_sum, x_repr, x_app, x_ext, x_pop, x_popa, x_join, x_rcva, x_rcve, x_rcvp, x_rcvq, x_rcvj, x_srct, x_srcf, x_srcs, x_srcl, x_seqt, x_seql, x_enu, x_enut, x_zipl, x_zipt, x_rng1, x_rng2, x_tg1, x_tgt, x_tgl, x_var, x_put, x_ex, x_exv, x_exl, x_exl0, x_exd, x_exb, x_exi, x_dec, x_decf, x_ndec, x_ndecf, x_ty_str_str, x_ty_str_tuple, x_ty_str_int, x_ty_str_bool, x_ty_str_list, x_ty_str_dict, x_ty_str_list_tuple, x_ty_str_tuple_list, x_ty_str_str_tuple, x_ty_str_tuple_str, x_ty_str_int_bool, x_ty_str_bool_int, x_ty_str_str_int, x_ty_str_int_str, x_ty_tuple_str, x_ty_tuple_tuple, x_ty_tuple_int, x_ty_tuple_bool, x_ty_tuple_list, x_ty_tuple_dict, x_ty_tuple_list_tuple, x_ty_tuple_tuple_list, x_ty_tuple_str_tuple, x_ty_tuple_tuple_str, x_ty_tuple_int_bool, x_ty_tuple_bool_int, x_ty_tuple_str_int, x_ty_tuple_int_str, x_ty_int_str, x_ty_int_tuple, x_ty_int_int, x_ty_int_bool, x_ty_int_list, x_ty_int_dict, x_ty_int_list_tuple, x_ty_int_tuple_list, x_ty_int_str_tuple, x_ty_int_tuple_str, x_ty_int_int_bool, x_ty_int_bool_int, x_ty_int_str_int, x_ty_int_int_str, x_ty_bool_str, x_ty_bool_tuple, x_ty_bool_int, x_ty_bool_bool, x_ty_bool_list, x_ty_bool_dict, x_ty_bool_list_tuple, x_ty_bool_tuple_list, x_ty_bool_str_tuple, x_ty_bool_tuple_str, x_ty_bool_int_bool, x_ty_bool_bool_int, x_ty_bool_str_int, x_ty_bool_int_str, x_ty_list_str, x_ty_list_tuple, x_ty_list_int, x_ty_list_bool, x_ty_list_list, x_ty_list_dict, x_ty_list_list_tuple, x_ty_list_tuple_list, x_ty_list_str_tuple, x_ty_list_tuple_str, x_ty_list_int_bool, x_ty_list_bool_int, x_ty_list_str_int, x_ty_list_int_str, x_ty_dict_str, x_ty_dict_tuple, x_ty_dict_int, x_ty_dict_bool, x_ty_dict_list, x_ty_dict_dict, x_ty_dict_list_tuple, x_ty_dict_tuple_list, x_ty_dict_str_tuple, x_ty_dict_tuple_str, x_ty_dict_int_bool, x_ty_dict_bool_int, x_ty_dict_str_int, x_ty_dict_int_str, x_puto, x_puto', List.map_cons, List.map_nil, List.length_cons, List.length_nil, List.cons_append, List.nil_append, List.replicate, Nat.sub_zero, Nat.sub_self, Nat.zero_add, Nat.reduceAdd, Nat.reduceSub, List.getElem?_cons_zero, List.getElem?_cons_succ, List.set_cons_zero, List.set_cons_succ, setF, wipeF, true_and, and_true, if_true, if_false, Bool.true_eq_false, Bool.false_eq_true, ite_true, ite_false, reduceIte, not_true_eq_false, not_false_eq_true, Bool.not_true, Bool.not_false, exists_eq_left', exists_const, ne_eq]
  exact hQ _ e1

/-! parts of kinds -/
theorem kindB_hf {t : T} (h : kindB t = true) : hf 4 t = true := by
  unfold kindB at h
  exact (Bool.and_eq_true_iff.mp h).1
theorem kindB_nm {t : T} (h : kindB t = true) : t.nm.length ≤ 14 := by
  unfold kindB at h
  exact of_decide_eq_true (Bool.and_eq_true_iff.mp h).2
theorem hf_ne {n : Nat} {t : T} (h : hf n t = true) : ∀ xs, t = .t xs → xs ≠ [] := by
  rintro xs rfl e
  cases n with
  | zero => cases h
  | succ n =>
    have := (hf_len h).1
    rw [e] at this
    exact absurd this (by decide)
theorem flatMap_bl {α : Type} {g : α → List Bool} {xs : List α} : (xs.flatMap fun x => (g x).map D.bl) = (xs.flatMap g).map D.bl := by
  induction xs with
  | nil => rfl
  | cons x xs ih => rw [List.flatMap_cons, List.flatMap_cons, List.map_append, ih]
theorem pa_hf {n : Nat} {t x : T} (h : hf n t = true) (hx : x ∈ t.pa) : hf (n - 1) x = true ∧ 1 ≤ n := by
  cases t with
  | s y => cases hx
  | t xs =>
    cases n with
    | zero => cases h
    | succ n => exact ⟨hf_all h x (List.dropLast_subset _ hx), by omega⟩
theorem pa_sd {n : Nat} {t x : T} {b : Bool} (h : hf n t = true) (hx : x ∈ t.pa) : (x.sd (!b)).length ≤ (t.sd b).length := by
  rw [T.sd_eq t b, List.length_append]
  have : ∀ ys : List T, x ∈ ys → (x.sd (!b)).length ≤ (ys.flatMap fun x => x.sd (!b)).length := by
    intro ys
    induction ys with
    | nil => intro h; cases h
    | cons y ys ih =>
      intro h
      rw [List.flatMap_cons, List.length_append]
      rcases List.mem_cons.mp h with e | h
      · rw [e]; omega
      · have := ih h; omega
  have := this _ hx
  omega
/-- where it is true -/
def tkD (bs : List Bool) : List D := bs.zipIdx.flatMap fun p => if p.1 = true then [D.int (p.2 : Nat)] else []
theorem tkD_len (bs : List Bool) : (tkD bs).length ≤ bs.length := by
  unfold tkD
  have : ∀ (l : List (Bool × Nat)), (l.flatMap fun p => if p.1 = true then [D.int (p.2 : Nat)] else []).length ≤ l.length := by
    intro l
    induction l with
    | nil => exact Nat.le_refl _
    | cons p l ih =>
      rw [List.flatMap_cons, List.length_append, List.length_cons]
      split
      · simp only [List.length_cons, List.length_nil]; omega
      · simp only [List.length_nil]; omega
  have h := this bs.zipIdx
  rw [List.length_zipIdx] at h
  exact h
/-! programs as trees -/
inductive P where | p (i : Int) (xs : List P)
namespace P
mutual
def d : P → D
  | .p i xs => .tup (.int i :: ds xs)
def ds : List P → List D
  | [] => []
  | x :: xs => d x :: ds xs
end
mutual
def py : P → PyData
  | .p i xs => .tuple (.int i :: pys xs)
def pys : List P → List PyData
  | [] => []
  | x :: xs => py x :: pys xs
end
mutual
def dp : P → Nat
  | .p _ xs => 1 + dps xs
def dps : List P → Nat
  | [] => 0
  | x :: xs => max (dp x) (dps xs)
end
theorem ds_map : ∀ xs : List P, ds xs = xs.map d
  | [] => rfl
  | x :: xs => by rw [ds, ds_map xs]; rfl
theorem pys_map : ∀ xs : List P, pys xs = xs.map py
  | [] => rfl
  | x :: xs => by rw [pys, pys_map xs]; rfl
theorem ds_len (xs : List P) : (ds xs).length = xs.length := by rw [ds_map, List.length_map]
mutual
theorem py_of {S : Sto} : ∀ t : P, PyOf S (d t) (py t)
  | .p i xs => .tup (.cons (.int i) (pys_of xs))
theorem pys_of {S : Sto} : ∀ xs : List P, PyOfs S (ds xs) (pys xs)
  | [] => .nil
  | x :: xs => .cons (py_of x) (pys_of xs)
end
end P
/-- the end's name -/
def eN : T → Str
  | .s x => x
  | .t xs => match xs.getLast? with
    | some (.s y) => y
    | _ => ""
theorem en_name {n : Nat} {t : T} (h : hf n t = true) : t.en = .s (eN t) := by
  cases t with
  | s x => rfl
  | t xs =>
    cases n with
    | zero => cases h
    | succ n =>
      obtain ⟨y, e, _⟩ := hf_last h
      have q : xs.getLast? = some (.s y) := by rw [e, List.getLast?_concat]
      show (xs.getLast?).getD (.t []) = .s (match xs.getLast? with | some (.s y) => y | _ => "")
      rw [q]
      rfl
/-- all are kinds -/
def HK (hs : List T) : Prop := ∀ h ∈ hs, hf 4 h = true
theorem HK.pa {t : T} (h : hf 4 t = true) : HK t.pa := fun x hx => hf_mono (by decide) (pa_hf h hx).1
theorem HK.app {hs gs : List T} (h : HK hs) (g : HK gs) : HK (hs ++ gs) := fun x hx => by
  rcases List.mem_append.mp hx with q | q
  · exact h x q
  · exact g x q
theorem pa_few {t : T} (h : hf 4 t = true) : t.pa.length ≤ 7 := by
  cases t with
  | s x => exact Nat.zero_le _
  | t xs =>
    have := (hf_len h).2
    show xs.dropLast.length ≤ 7
    rw [List.length_dropLast]
    omega
/-- the helper at an index -/
def at? (hs : List T) (i : Int) : Option T := if 0 ≤ i then hs[i.toNat]? else none
mutual
/-- is_term -/
def tmB (hs : List T) (w : Str) : P → Bool
  | .p i xs => match at? hs i with
    | none => false
    | some h => decide (eN h = w) && decide (xs.length = h.pa.length) && tmBs hs h.pa xs
def tmBs (hs : List T) : List T → List P → Bool
  | _, [] => true
  | ts, x :: xs => match ts with
    | [] => true
    | t :: r => tmB (hs ++ t.pa) (eN t) x && tmBs hs r xs
end
def hdB (hs : List T) (w : Str) : P → Bool
  | .p i xs => match at? hs i with
    | none => false
    | some h => decide (eN h = w) && decide (xs.length = h.pa.length)
theorem tmBs_nil (hs ts : List T) : tmBs hs ts [] = true := by unfold tmBs; rfl
theorem tmBs_cons (hs : List T) (t : T) (ts : List T) (y : P) (ys : List P) : tmBs hs (t :: ts) (y :: ys) = (tmB (hs ++ t.pa) (eN t) y && tmBs hs ts ys) := by rw [tmBs]
theorem d_is_number_i {k : Nat} {i : Int} {S : Sto} {Q : KE} {E : XE} (hk : 1 ≤ k) (hQ : Q (.bl true) S) : wC tab k "is_number" [.int i] S Q E := by
  refine wd (fd := f_is_number) hk rfl rfl ?_
  unfold f_is_number
  try simp (maxSteps := 2000000) only [startF, wSs, wS, wE, wL, wO, wB, wI, x_add, x_adds, x_addl, x_addt, x_sub, x_mul, x_mult, x_mull, x_fdv, x_mod, x_pow, x_auga, x_augs, x_augm, x_eqi, x_eqs, x_eqb, x_nei, x_nes, x_neb, x_eqtt, x_eqrr, x_eqtr, x_eqrt, x_eqst, x_eqts, x_nett, x_nerr, x_netr, x_nert, x_nest, x_nets, x_lt, x_le, x_gt, x_ge, x_ins, x_isn, x_isnt, x_ixt, x_ixl, x_ixd, x_ixs, x_slt, x_sll, x_sls, x_std, x_stl, x_isin, x_isis, x_isit, x_isii, x_isib, x_lens, x_lent, x_lenf, x_lenl, x_inti, x_intb, x_abs, x_max2, x_min2, x_maxl, x_minl, x_mxd, x_tupl, x_tupt, x_lisl, x_list, x_liss, x_all, x_any, x_sum, x_repr, x_app, x_ext, x_pop, x_popa, x_join, x_rcva, x_rcve, x_rcvp, x_rcvq, x_rcvj, x_srct, x_srcf, x_srcs, x_srcl, x_seqt, x_seql, x_enu, x_enut, x_zipl, x_zipt, x_rng1, x_rng2, x_tg1, x_tgt, x_tgl, x_var, x_put, x_ex, x_exv, x_exl, x_exl0, x_exd, x_exb, x_exi, x_dec, x_decf, x_ndec, x_ndecf, x_ty_str_str, x_ty_str_tuple, x_ty_str_int, x_ty_str_bool, x_ty_str_list, x_ty_str_dict, x_ty_str_list_tuple, x_ty_str_tuple_list, x_ty_str_str_tuple, x_ty_str_tuple_str, x_ty_str_int_bool, x_ty_str_bool_int, x_ty_str_str_int, x_ty_str_int_str, x_ty_tuple_str, x_ty_tuple_tuple, x_ty_tuple_int, x_ty_tuple_bool, x_ty_tuple_list, x_ty_tuple_dict, x_ty_tuple_list_tuple, x_ty_tuple_tuple_list, x_ty_tuple_str_tuple, x_ty_tuple_tuple_str, x_ty_tuple_int_bool, x_ty_tuple_bool_int, x_ty_tuple_str_int, x_ty_tuple_int_str, x_ty_int_str, x_ty_int_tuple, x_ty_int_int, x_ty_int_bool, x_ty_int_list, x_ty_int_dict, x_ty_int_list_tuple, x_ty_int_tuple_list, x_ty_int_str_tuple, x_ty_int_tuple_str, x_ty_int_int_bool, x_ty_int_bool_int, x_ty_int_str_int, x_ty_int_int_str, x_ty_bool_str, x_ty_bool_tuple, x_ty_bool_int, x_ty_bool_bool, x_ty_bool_list, x_ty_bool_dict, x_ty_bool_list_tuple, x_ty_bool_tuple_list, x_ty_bool_str_tuple, x_ty_bool_tuple_str, x_ty_bool_int_bool, x_ty_bool_bool_int, x_ty_bool_str_int, x_ty_bool_int_str, x_ty_list_str, x_ty_list_tuple, x_ty_list_int, x_ty_list_bool, x_ty_list_list, x_ty_list_dict, x_ty_list_list_tuple, x_ty_list_tuple_list, x_ty_list_str_tuple, x_ty_list_tuple_str, x_ty_list_int_bool, x_ty_list_bool_int, x_ty_list_str_int, x_ty_list_int_str, x_ty_dict_str, x_ty_dict_tuple, x_ty_dict_int, x_ty_dict_bool, x_ty_dict_list, x_ty_dict_dict, x_ty_dict_list_tuple, x_ty_dict_tuple_list, x_ty_dict_str_tuple, x_ty_dict_tuple_str, x_ty_dict_int_bool, x_ty_dict_bool_int, x_ty_dict_str_int, x_ty_dict_int_str, x_puto, x_puto', List.map_cons, List.map_nil, List.length_cons, List.length_nil, List.cons_append, List.nil_append, List.replicate, Nat.sub_zero, Nat.sub_self, Nat.zero_add, Nat.reduceAdd, Nat.reduceSub, List.getElem?_cons_zero, List.getElem?_cons_succ, List.set_cons_zero, List.set_cons_succ, setF, wipeF, true_and, and_true, if_true, if_false, Bool.true_eq_false, Bool.false_eq_true, ite_true, ite_false, reduceIte, not_true_eq_false, not_false_eq_true, Bool.not_true, Bool.not_false, exists_eq_left', exists_const, ne_eq]
  exact hQ
theorem hand_b {k : Nat} {hs : List T} {t : T} {S : Sto} {Q : KE} {E : XE} (hk : 2 ≤ k) (hl : (hs ++ t.pa).length ≤ 1000000) (hQ : Q (.tup (T.ds (hs ++ t.pa))) S) : wC tab k "hand_below" [.tup (T.ds hs), t.d] S Q E := by
  refine wd (fd := f_hand_below) (by omega) rfl rfl ?_
  unfold f_hand_below
  have sz := sizeLine_eq
  try simp (maxSteps := 2000000) only [startF, wSs, wS, wE, wL, wO, wB, wI, x_add, x_adds, x_addl, x_addt, x_sub, x_mul, x_mult, x_mull, x_fdv, x_mod, x_pow, x_auga, x_augs, x_augm, x_eqi, x_eqs, x_eqb, x_nei, x_nes, x_neb, x_eqtt, x_eqrr, x_eqtr, x_eqrt, x_eqst, x_eqts, x_nett, x_nerr, x_netr, x_nert, x_nest, x_nets, x_lt, x_le, x_gt, x_ge, x_ins, x_isn, x_isnt, x_ixt, x_ixl, x_ixd, x_ixs, x_slt, x_sll, x_sls, x_std, x_stl, x_isin, x_isis, x_isit, x_isii, x_isib, x_lens, x_lent, x_lenf, x_lenl, x_inti, x_intb, x_abs, x_max2, x_min2, x_maxl, x_minl, x_mxd, x_tupl, x_tupt, x_lisl, x_list, x_liss, x_all, x_any, x_sum, x_repr, x_app, x_ext, x_pop, x_popa, x_join, x_rcva, x_rcve, x_rcvp, x_rcvq, x_rcvj, x_srct, x_srcf, x_srcs, x_srcl, x_seqt, x_seql, x_enu, x_enut, x_zipl, x_zipt, x_rng1, x_rng2, x_tg1, x_tgt, x_tgl, x_var, x_put, x_ex, x_exv, x_exl, x_exl0, x_exd, x_exb, x_exi, x_dec, x_decf, x_ndec, x_ndecf, x_ty_str_str, x_ty_str_tuple, x_ty_str_int, x_ty_str_bool, x_ty_str_list, x_ty_str_dict, x_ty_str_list_tuple, x_ty_str_tuple_list, x_ty_str_str_tuple, x_ty_str_tuple_str, x_ty_str_int_bool, x_ty_str_bool_int, x_ty_str_str_int, x_ty_str_int_str, x_ty_tuple_str, x_ty_tuple_tuple, x_ty_tuple_int, x_ty_tuple_bool, x_ty_tuple_list, x_ty_tuple_dict, x_ty_tuple_list_tuple, x_ty_tuple_tuple_list, x_ty_tuple_str_tuple, x_ty_tuple_tuple_str, x_ty_tuple_int_bool, x_ty_tuple_bool_int, x_ty_tuple_str_int, x_ty_tuple_int_str, x_ty_int_str, x_ty_int_tuple, x_ty_int_int, x_ty_int_bool, x_ty_int_list, x_ty_int_dict, x_ty_int_list_tuple, x_ty_int_tuple_list, x_ty_int_str_tuple, x_ty_int_tuple_str, x_ty_int_int_bool, x_ty_int_bool_int, x_ty_int_str_int, x_ty_int_int_str, x_ty_bool_str, x_ty_bool_tuple, x_ty_bool_int, x_ty_bool_bool, x_ty_bool_list, x_ty_bool_dict, x_ty_bool_list_tuple, x_ty_bool_tuple_list, x_ty_bool_str_tuple, x_ty_bool_tuple_str, x_ty_bool_int_bool, x_ty_bool_bool_int, x_ty_bool_str_int, x_ty_bool_int_str, x_ty_list_str, x_ty_list_tuple, x_ty_list_int, x_ty_list_bool, x_ty_list_list, x_ty_list_dict, x_ty_list_list_tuple, x_ty_list_tuple_list, x_ty_list_str_tuple, x_ty_list_tuple_str, x_ty_list_int_bool, x_ty_list_bool_int, x_ty_list_str_int, x_ty_list_int_str, x_ty_dict_str, x_ty_dict_tuple, x_ty_dict_int, x_ty_dict_bool, x_ty_dict_list, x_ty_dict_dict, x_ty_dict_list_tuple, x_ty_dict_tuple_list, x_ty_dict_str_tuple, x_ty_dict_tuple_str, x_ty_dict_int_bool, x_ty_dict_bool_int, x_ty_dict_str_int, x_ty_dict_int_str, x_puto, x_puto', List.map_cons, List.map_nil, List.length_cons, List.length_nil, List.cons_append, List.nil_append, List.replicate, Nat.sub_zero, Nat.sub_self, Nat.zero_add, Nat.reduceAdd, Nat.reduceSub, List.getElem?_cons_zero, List.getElem?_cons_succ, List.set_cons_zero, List.set_cons_succ, setF, wipeF, true_and, and_true, if_true, if_false, Bool.true_eq_false, Bool.false_eq_true, ite_true, ite_false, reduceIte, not_true_eq_false, not_false_eq_true, Bool.not_true, Bool.not_false, exists_eq_left', exists_const, ne_eq]
  refine inner_p (by omega) ?_
  try simp (maxSteps := 2000000) only [startF, wSs, wS, wE, wL, wO, wB, wI, x_add, x_adds, x_addl, x_addt, x_sub, x_mul, x_mult, x_mull, x_fdv, x_mod, x_pow, x_auga, x_augs, x_augm, x_eqi, x_eqs, x_eqb, x_nei, x_nes, x_neb, x_eqtt, x_eqrr, x_eqtr, x_eqrt, x_eqst, x_eqts, x_nett, x_nerr, x_netr, x_nert, x_nest, x_nets, x_lt, x_le, x_gt, x_ge, x_ins, x_isn, x_isnt, x_ixt, x_ixl, x_ixd, x_ixs, x_slt, x_sll, x_sls, x_std, x_stl, x_isin, x_isis, x_isit, x_isii, x_isib, x_lens, x_lent, x_lenf, x_lenl, x_inti, x_intb, x_abs, x_max2, x_min2, x_maxl, x_minl, x_mxd, x_tupl, x_tupt, x_lisl, x_list, x_liss, x_all, x_any, x_sum, x_repr, x_app, x_ext, x_pop, x_popa, x_join, x_rcva, x_rcve, x_rcvp, x_rcvq, x_rcvj, x_srct, x_srcf, x_srcs, x_srcl, x_seqt, x_seql, x_enu, x_enut, x_zipl, x_zipt, x_rng1, x_rng2, x_tg1, x_tgt, x_tgl, x_var, x_put, x_ex, x_exv, x_exl, x_exl0, x_exd, x_exb, x_exi, x_dec, x_decf, x_ndec, x_ndecf, x_ty_str_str, x_ty_str_tuple, x_ty_str_int, x_ty_str_bool, x_ty_str_list, x_ty_str_dict, x_ty_str_list_tuple, x_ty_str_tuple_list, x_ty_str_str_tuple, x_ty_str_tuple_str, x_ty_str_int_bool, x_ty_str_bool_int, x_ty_str_str_int, x_ty_str_int_str, x_ty_tuple_str, x_ty_tuple_tuple, x_ty_tuple_int, x_ty_tuple_bool, x_ty_tuple_list, x_ty_tuple_dict, x_ty_tuple_list_tuple, x_ty_tuple_tuple_list, x_ty_tuple_str_tuple, x_ty_tuple_tuple_str, x_ty_tuple_int_bool, x_ty_tuple_bool_int, x_ty_tuple_str_int, x_ty_tuple_int_str, x_ty_int_str, x_ty_int_tuple, x_ty_int_int, x_ty_int_bool, x_ty_int_list, x_ty_int_dict, x_ty_int_list_tuple, x_ty_int_tuple_list, x_ty_int_str_tuple, x_ty_int_tuple_str, x_ty_int_int_bool, x_ty_int_bool_int, x_ty_int_str_int, x_ty_int_int_str, x_ty_bool_str, x_ty_bool_tuple, x_ty_bool_int, x_ty_bool_bool, x_ty_bool_list, x_ty_bool_dict, x_ty_bool_list_tuple, x_ty_bool_tuple_list, x_ty_bool_str_tuple, x_ty_bool_tuple_str, x_ty_bool_int_bool, x_ty_bool_bool_int, x_ty_bool_str_int, x_ty_bool_int_str, x_ty_list_str, x_ty_list_tuple, x_ty_list_int, x_ty_list_bool, x_ty_list_list, x_ty_list_dict, x_ty_list_list_tuple, x_ty_list_tuple_list, x_ty_list_str_tuple, x_ty_list_tuple_str, x_ty_list_int_bool, x_ty_list_bool_int, x_ty_list_str_int, x_ty_list_int_str, x_ty_dict_str, x_ty_dict_tuple, x_ty_dict_int, x_ty_dict_bool, x_ty_dict_list, x_ty_dict_dict, x_ty_dict_list_tuple, x_ty_dict_tuple_list, x_ty_dict_str_tuple, x_ty_dict_tuple_str, x_ty_dict_int_bool, x_ty_dict_bool_int, x_ty_dict_str_int, x_ty_dict_int_str, x_puto, x_puto', List.map_cons, List.map_nil, List.length_cons, List.length_nil, List.cons_append, List.nil_append, List.replicate, Nat.sub_zero, Nat.sub_self, Nat.zero_add, Nat.reduceAdd, Nat.reduceSub, List.getElem?_cons_zero, List.getElem?_cons_succ, List.set_cons_zero, List.set_cons_succ, setF, wipeF, true_and, and_true, if_true, if_false, Bool.true_eq_false, Bool.false_eq_true, ite_true, ite_false, reduceIte, not_true_eq_false, not_false_eq_true, Bool.not_true, Bool.not_false, exists_eq_left', exists_const, ne_eq]
  have e : T.ds hs ++ T.ds t.pa = T.ds (hs ++ t.pa) := by rw [T.ds_map, T.ds_map, T.ds_map, List.map_append]
  try simp (maxSteps := 2000000) only [startF, wSs, wS, wE, wL, wO, wB, wI, x_add, x_adds, x_addl, x_addt, x_sub, x_mul, x_mult, x_mull, x_fdv, x_mod, x_pow, x_auga, x_augs, x_augm, x_eqi, x_eqs, x_eqb, x_nei, x_nes, x_neb, x_eqtt, x_eqrr, x_eqtr, x_eqrt, x_eqst, x_eqts, x_nett, x_nerr, x_netr, x_nert, x_nest, x_nets, x_lt, x_le, x_gt, x_ge, x_ins, x_isn, x_isnt, x_ixt, x_ixl, x_ixd, x_ixs, x_slt, x_sll, x_sls, x_std, x_stl, x_isin, x_isis, x_isit, x_isii, x_isib, x_lens, x_lent, x_lenf, x_lenl, x_inti, x_intb, x_abs, x_max2, x_min2, x_maxl, x_minl, x_mxd, x_tupl, x_tupt, x_lisl, x_list, x_liss, x_all, x_any, x_sum, x_repr, x_app, x_ext, x_pop, x_popa, x_join, x_rcva, x_rcve, x_rcvp, x_rcvq, x_rcvj, x_srct, x_srcf, x_srcs, x_srcl, x_seqt, x_seql, x_enu, x_enut, x_zipl, x_zipt, x_rng1, x_rng2, x_tg1, x_tgt, x_tgl, x_var, x_put, x_ex, x_exv, x_exl, x_exl0, x_exd, x_exb, x_exi, x_dec, x_decf, x_ndec, x_ndecf, x_ty_str_str, x_ty_str_tuple, x_ty_str_int, x_ty_str_bool, x_ty_str_list, x_ty_str_dict, x_ty_str_list_tuple, x_ty_str_tuple_list, x_ty_str_str_tuple, x_ty_str_tuple_str, x_ty_str_int_bool, x_ty_str_bool_int, x_ty_str_str_int, x_ty_str_int_str, x_ty_tuple_str, x_ty_tuple_tuple, x_ty_tuple_int, x_ty_tuple_bool, x_ty_tuple_list, x_ty_tuple_dict, x_ty_tuple_list_tuple, x_ty_tuple_tuple_list, x_ty_tuple_str_tuple, x_ty_tuple_tuple_str, x_ty_tuple_int_bool, x_ty_tuple_bool_int, x_ty_tuple_str_int, x_ty_tuple_int_str, x_ty_int_str, x_ty_int_tuple, x_ty_int_int, x_ty_int_bool, x_ty_int_list, x_ty_int_dict, x_ty_int_list_tuple, x_ty_int_tuple_list, x_ty_int_str_tuple, x_ty_int_tuple_str, x_ty_int_int_bool, x_ty_int_bool_int, x_ty_int_str_int, x_ty_int_int_str, x_ty_bool_str, x_ty_bool_tuple, x_ty_bool_int, x_ty_bool_bool, x_ty_bool_list, x_ty_bool_dict, x_ty_bool_list_tuple, x_ty_bool_tuple_list, x_ty_bool_str_tuple, x_ty_bool_tuple_str, x_ty_bool_int_bool, x_ty_bool_bool_int, x_ty_bool_str_int, x_ty_bool_int_str, x_ty_list_str, x_ty_list_tuple, x_ty_list_int, x_ty_list_bool, x_ty_list_list, x_ty_list_dict, x_ty_list_list_tuple, x_ty_list_tuple_list, x_ty_list_str_tuple, x_ty_list_tuple_str, x_ty_list_int_bool, x_ty_list_bool_int, x_ty_list_str_int, x_ty_list_int_str, x_ty_dict_str, x_ty_dict_tuple, x_ty_dict_int, x_ty_dict_bool, x_ty_dict_list, x_ty_dict_dict, x_ty_dict_list_tuple, x_ty_dict_tuple_list, x_ty_dict_str_tuple, x_ty_dict_tuple_str, x_ty_dict_int_bool, x_ty_dict_bool_int, x_ty_dict_str_int, x_ty_dict_int_str, x_puto, x_puto', List.map_cons, List.map_nil, List.length_cons, List.length_nil, List.cons_append, List.nil_append, List.replicate, Nat.sub_zero, Nat.sub_self, Nat.zero_add, Nat.reduceAdd, Nat.reduceSub, List.getElem?_cons_zero, List.getElem?_cons_succ, List.set_cons_zero, List.set_cons_succ, setF, wipeF, true_and, and_true, if_true, if_false, Bool.true_eq_false, Bool.false_eq_true, ite_true, ite_false, reduceIte, not_true_eq_false, not_false_eq_true, Bool.not_true, Bool.not_false, exists_eq_left', exists_const, ne_eq, List.append_nil, e]
  exact ⟨by rw [ds_len]; omega, hQ⟩
theorem at_get {hs : List T} {i : Int} {h : T} (e : at? hs i = some h) : 0 ≤ i ∧ i < hs.length ∧ L2.atI (T.ds hs) i = some h.d ∧ h ∈ hs := by
  unfold at? at e
  by_cases h0 : 0 ≤ i
  · rw [if_pos h0] at e
    obtain ⟨hl, he⟩ := List.getElem?_eq_some_iff.mp e
    refine ⟨h0, by omega, ?_, by rw [← he]; exact List.getElem_mem hl⟩
    unfold L2.atI L2.ixN
    rw [if_pos h0, ds_len, if_pos (by omega)]
    show (T.ds hs)[i.toNat]? = _
    rw [T.ds_map, List.getElem?_map, e]
    rfl
  · rw [if_neg h0] at e
    cases e
theorem at_none {hs : List T} {i : Int} (e : at? hs i = none) : ¬ (0 ≤ i ∧ i < hs.length) := by
  rintro ⟨h0, h1⟩
  unfold at? at e
  rw [if_pos h0, List.getElem?_eq_none_iff] at e
  omega
theorem atI_0 {x : D} {xs : List D} : L2.atI (x :: xs) 0 = some x := by
  unfold L2.atI L2.ixN
  rw [if_pos (by decide), if_pos (by simp only [List.length_cons]; omega)]
  rfl
theorem hd_is {k : Nat} {hs : List T} {w : Str} {t : P} {S : Sto} {Q : KE} {E : XE} (hk : 2 ≤ k) (hK : HK hs) (hQ : Q (.bl (hdB hs w t)) S) : wC tab k "is_head" [.tup (T.ds hs), .str w, t.d] S Q E := by
  refine wd (fd := f_is_head) (by omega) rfl rfl ?_
  unfold f_is_head
  obtain ⟨i, xs⟩ := t
  simp only [P.d]
  try simp (maxSteps := 2000000) only [startF, wSs, wS, wE, wL, wO, wB, wI, x_add, x_adds, x_addl, x_addt, x_sub, x_mul, x_mult, x_mull, x_fdv, x_mod, x_pow, x_auga, x_augs, x_augm, x_eqi, x_eqs, x_eqb, x_nei, x_nes, x_neb, x_eqtt, x_eqrr, x_eqtr, x_eqrt, x_eqst, x_eqts, x_nett, x_nerr, x_netr, x_nert, x_nest, x_nets, x_lt, x_le, x_gt, x_ge, x_ins, x_isn, x_isnt, x_ixt, x_ixl, x_ixd, x_ixs, x_slt, x_sll, x_sls, x_std, x_stl, x_isin, x_isis, x_isit, x_isii, x_isib, x_lens, x_lent, x_lenf, x_lenl, x_inti, x_intb, x_abs, x_max2, x_min2, x_maxl, x_minl, x_mxd, x_tupl, x_tupt, x_lisl, x_list, x_liss, x_all, x_any, x_sum, x_repr, x_app, x_ext, x_pop, x_popa, x_join, x_rcva, x_rcve, x_rcvp, x_rcvq, x_rcvj, x_srct, x_srcf, x_srcs, x_srcl, x_seqt, x_seql, x_enu, x_enut, x_zipl, x_zipt, x_rng1, x_rng2, x_tg1, x_tgt, x_tgl, x_var, x_put, x_ex, x_exv, x_exl, x_exl0, x_exd, x_exb, x_exi, x_dec, x_decf, x_ndec, x_ndecf, x_ty_str_str, x_ty_str_tuple, x_ty_str_int, x_ty_str_bool, x_ty_str_list, x_ty_str_dict, x_ty_str_list_tuple, x_ty_str_tuple_list, x_ty_str_str_tuple, x_ty_str_tuple_str, x_ty_str_int_bool, x_ty_str_bool_int, x_ty_str_str_int, x_ty_str_int_str, x_ty_tuple_str, x_ty_tuple_tuple, x_ty_tuple_int, x_ty_tuple_bool, x_ty_tuple_list, x_ty_tuple_dict, x_ty_tuple_list_tuple, x_ty_tuple_tuple_list, x_ty_tuple_str_tuple, x_ty_tuple_tuple_str, x_ty_tuple_int_bool, x_ty_tuple_bool_int, x_ty_tuple_str_int, x_ty_tuple_int_str, x_ty_int_str, x_ty_int_tuple, x_ty_int_int, x_ty_int_bool, x_ty_int_list, x_ty_int_dict, x_ty_int_list_tuple, x_ty_int_tuple_list, x_ty_int_str_tuple, x_ty_int_tuple_str, x_ty_int_int_bool, x_ty_int_bool_int, x_ty_int_str_int, x_ty_int_int_str, x_ty_bool_str, x_ty_bool_tuple, x_ty_bool_int, x_ty_bool_bool, x_ty_bool_list, x_ty_bool_dict, x_ty_bool_list_tuple, x_ty_bool_tuple_list, x_ty_bool_str_tuple, x_ty_bool_tuple_str, x_ty_bool_int_bool, x_ty_bool_bool_int, x_ty_bool_str_int, x_ty_bool_int_str, x_ty_list_str, x_ty_list_tuple, x_ty_list_int, x_ty_list_bool, x_ty_list_list, x_ty_list_dict, x_ty_list_list_tuple, x_ty_list_tuple_list, x_ty_list_str_tuple, x_ty_list_tuple_str, x_ty_list_int_bool, x_ty_list_bool_int, x_ty_list_str_int, x_ty_list_int_str, x_ty_dict_str, x_ty_dict_tuple, x_ty_dict_int, x_ty_dict_bool, x_ty_dict_list, x_ty_dict_dict, x_ty_dict_list_tuple, x_ty_dict_tuple_list, x_ty_dict_str_tuple, x_ty_dict_tuple_str, x_ty_dict_int_bool, x_ty_dict_bool_int, x_ty_dict_str_int, x_ty_dict_int_str, x_puto, x_puto', List.map_cons, List.map_nil, List.length_cons, List.length_nil, List.cons_append, List.nil_append, List.replicate, Nat.sub_zero, Nat.sub_self, Nat.zero_add, Nat.reduceAdd, Nat.reduceSub, List.getElem?_cons_zero, List.getElem?_cons_succ, List.set_cons_zero, List.set_cons_succ, setF, wipeF, true_and, and_true, if_true, if_false, Bool.true_eq_false, Bool.false_eq_true, ite_true, ite_false, reduceIte, not_true_eq_false, not_false_eq_true, Bool.not_true, Bool.not_false, exists_eq_left', exists_const, ne_eq, atI_0]
  rw [if_neg (show ¬ (((P.ds xs).length + 1 : Nat) : Int) = 0 by omega)]
  refine d_is_number_i (by omega) ?_
  try simp (maxSteps := 2000000) only [startF, wSs, wS, wE, wL, wO, wB, wI, x_add, x_adds, x_addl, x_addt, x_sub, x_mul, x_mult, x_mull, x_fdv, x_mod, x_pow, x_auga, x_augs, x_augm, x_eqi, x_eqs, x_eqb, x_nei, x_nes, x_neb, x_eqtt, x_eqrr, x_eqtr, x_eqrt, x_eqst, x_eqts, x_nett, x_nerr, x_netr, x_nert, x_nest, x_nets, x_lt, x_le, x_gt, x_ge, x_ins, x_isn, x_isnt, x_ixt, x_ixl, x_ixd, x_ixs, x_slt, x_sll, x_sls, x_std, x_stl, x_isin, x_isis, x_isit, x_isii, x_isib, x_lens, x_lent, x_lenf, x_lenl, x_inti, x_intb, x_abs, x_max2, x_min2, x_maxl, x_minl, x_mxd, x_tupl, x_tupt, x_lisl, x_list, x_liss, x_all, x_any, x_sum, x_repr, x_app, x_ext, x_pop, x_popa, x_join, x_rcva, x_rcve, x_rcvp, x_rcvq, x_rcvj, x_srct, x_srcf, x_srcs, x_srcl, x_seqt, x_seql, x_enu, x_enut, x_zipl, x_zipt, x_rng1, x_rng2, x_tg1, x_tgt, x_tgl, x_var, x_put, x_ex, x_exv, x_exl, x_exl0, x_exd, x_exb, x_exi, x_dec, x_decf, x_ndec, x_ndecf, x_ty_str_str, x_ty_str_tuple, x_ty_str_int, x_ty_str_bool, x_ty_str_list, x_ty_str_dict, x_ty_str_list_tuple, x_ty_str_tuple_list, x_ty_str_str_tuple, x_ty_str_tuple_str, x_ty_str_int_bool, x_ty_str_bool_int, x_ty_str_str_int, x_ty_str_int_str, x_ty_tuple_str, x_ty_tuple_tuple, x_ty_tuple_int, x_ty_tuple_bool, x_ty_tuple_list, x_ty_tuple_dict, x_ty_tuple_list_tuple, x_ty_tuple_tuple_list, x_ty_tuple_str_tuple, x_ty_tuple_tuple_str, x_ty_tuple_int_bool, x_ty_tuple_bool_int, x_ty_tuple_str_int, x_ty_tuple_int_str, x_ty_int_str, x_ty_int_tuple, x_ty_int_int, x_ty_int_bool, x_ty_int_list, x_ty_int_dict, x_ty_int_list_tuple, x_ty_int_tuple_list, x_ty_int_str_tuple, x_ty_int_tuple_str, x_ty_int_int_bool, x_ty_int_bool_int, x_ty_int_str_int, x_ty_int_int_str, x_ty_bool_str, x_ty_bool_tuple, x_ty_bool_int, x_ty_bool_bool, x_ty_bool_list, x_ty_bool_dict, x_ty_bool_list_tuple, x_ty_bool_tuple_list, x_ty_bool_str_tuple, x_ty_bool_tuple_str, x_ty_bool_int_bool, x_ty_bool_bool_int, x_ty_bool_str_int, x_ty_bool_int_str, x_ty_list_str, x_ty_list_tuple, x_ty_list_int, x_ty_list_bool, x_ty_list_list, x_ty_list_dict, x_ty_list_list_tuple, x_ty_list_tuple_list, x_ty_list_str_tuple, x_ty_list_tuple_str, x_ty_list_int_bool, x_ty_list_bool_int, x_ty_list_str_int, x_ty_list_int_str, x_ty_dict_str, x_ty_dict_tuple, x_ty_dict_int, x_ty_dict_bool, x_ty_dict_list, x_ty_dict_dict, x_ty_dict_list_tuple, x_ty_dict_tuple_list, x_ty_dict_str_tuple, x_ty_dict_tuple_str, x_ty_dict_int_bool, x_ty_dict_bool_int, x_ty_dict_str_int, x_ty_dict_int_str, x_puto, x_puto', List.map_cons, List.map_nil, List.length_cons, List.length_nil, List.cons_append, List.nil_append, List.replicate, Nat.sub_zero, Nat.sub_self, Nat.zero_add, Nat.reduceAdd, Nat.reduceSub, List.getElem?_cons_zero, List.getElem?_cons_succ, List.set_cons_zero, List.set_cons_succ, setF, wipeF, true_and, and_true, if_true, if_false, Bool.true_eq_false, Bool.false_eq_true, ite_true, ite_false, reduceIte, not_true_eq_false, not_false_eq_true, Bool.not_true, Bool.not_false, exists_eq_left', exists_const, ne_eq, atI_0, ds_len]
  unfold hdB at hQ
  dsimp only at hQ
  cases e : at? hs i with
  | none =>
    rw [e] at hQ
    have hn := at_none e
    split
    · split
      · rename_i a b
        exact absurd ⟨a, b⟩ hn
      · exact hQ
    · exact hQ
  | some h =>
    rw [e] at hQ
    dsimp only at hQ
    obtain ⟨a, b, c, hm⟩ := at_get e
    have h4 := hK h hm
    rw [if_pos a, if_pos b]
    try simp (maxSteps := 2000000) only [startF, wSs, wS, wE, wL, wO, wB, wI, x_add, x_adds, x_addl, x_addt, x_sub, x_mul, x_mult, x_mull, x_fdv, x_mod, x_pow, x_auga, x_augs, x_augm, x_eqi, x_eqs, x_eqb, x_nei, x_nes, x_neb, x_eqtt, x_eqrr, x_eqtr, x_eqrt, x_eqst, x_eqts, x_nett, x_nerr, x_netr, x_nert, x_nest, x_nets, x_lt, x_le, x_gt, x_ge, x_ins, x_isn, x_isnt, x_ixt, x_ixl, x_ixd, x_ixs, x_slt, x_sll, x_sls, x_std, x_stl, x_isin, x_isis, x_isit, x_isii, x_isib, x_lens, x_lent, x_lenf, x_lenl, x_inti, x_intb, x_abs, x_max2, x_min2, x_maxl, x_minl, x_mxd, x_tupl, x_tupt, x_lisl, x_list, x_liss, x_all, x_any, x_sum, x_repr, x_app, x_ext, x_pop, x_popa, x_join, x_rcva, x_rcve, x_rcvp, x_rcvq, x_rcvj, x_srct, x_srcf, x_srcs, x_srcl, x_seqt, x_seql, x_enu, x_enut, x_zipl, x_zipt, x_rng1, x_rng2, x_tg1, x_tgt, x_tgl, x_var, x_put, x_ex, x_exv, x_exl, x_exl0, x_exd, x_exb, x_exi, x_dec, x_decf, x_ndec, x_ndecf, x_ty_str_str, x_ty_str_tuple, x_ty_str_int, x_ty_str_bool, x_ty_str_list, x_ty_str_dict, x_ty_str_list_tuple, x_ty_str_tuple_list, x_ty_str_str_tuple, x_ty_str_tuple_str, x_ty_str_int_bool, x_ty_str_bool_int, x_ty_str_str_int, x_ty_str_int_str, x_ty_tuple_str, x_ty_tuple_tuple, x_ty_tuple_int, x_ty_tuple_bool, x_ty_tuple_list, x_ty_tuple_dict, x_ty_tuple_list_tuple, x_ty_tuple_tuple_list, x_ty_tuple_str_tuple, x_ty_tuple_tuple_str, x_ty_tuple_int_bool, x_ty_tuple_bool_int, x_ty_tuple_str_int, x_ty_tuple_int_str, x_ty_int_str, x_ty_int_tuple, x_ty_int_int, x_ty_int_bool, x_ty_int_list, x_ty_int_dict, x_ty_int_list_tuple, x_ty_int_tuple_list, x_ty_int_str_tuple, x_ty_int_tuple_str, x_ty_int_int_bool, x_ty_int_bool_int, x_ty_int_str_int, x_ty_int_int_str, x_ty_bool_str, x_ty_bool_tuple, x_ty_bool_int, x_ty_bool_bool, x_ty_bool_list, x_ty_bool_dict, x_ty_bool_list_tuple, x_ty_bool_tuple_list, x_ty_bool_str_tuple, x_ty_bool_tuple_str, x_ty_bool_int_bool, x_ty_bool_bool_int, x_ty_bool_str_int, x_ty_bool_int_str, x_ty_list_str, x_ty_list_tuple, x_ty_list_int, x_ty_list_bool, x_ty_list_list, x_ty_list_dict, x_ty_list_list_tuple, x_ty_list_tuple_list, x_ty_list_str_tuple, x_ty_list_tuple_str, x_ty_list_int_bool, x_ty_list_bool_int, x_ty_list_str_int, x_ty_list_int_str, x_ty_dict_str, x_ty_dict_tuple, x_ty_dict_int, x_ty_dict_bool, x_ty_dict_list, x_ty_dict_dict, x_ty_dict_list_tuple, x_ty_dict_tuple_list, x_ty_dict_str_tuple, x_ty_dict_tuple_str, x_ty_dict_int_bool, x_ty_dict_bool_int, x_ty_dict_str_int, x_ty_dict_int_str, x_puto, x_puto', List.map_cons, List.map_nil, List.length_cons, List.length_nil, List.cons_append, List.nil_append, List.replicate, Nat.sub_zero, Nat.sub_self, Nat.zero_add, Nat.reduceAdd, Nat.reduceSub, List.getElem?_cons_zero, List.getElem?_cons_succ, List.set_cons_zero, List.set_cons_succ, setF, wipeF, true_and, and_true, if_true, if_false, Bool.true_eq_false, Bool.false_eq_true, ite_true, ite_false, reduceIte, not_true_eq_false, not_false_eq_true, Bool.not_true, Bool.not_false, exists_eq_left', exists_const, ne_eq, atI_0, c]
    refine inner_e (by omega) (hf_ne h4) ?_
    rw [en_name h4]
    simp only [T.d]
    try simp (maxSteps := 2000000) only [startF, wSs, wS, wE, wL, wO, wB, wI, x_add, x_adds, x_addl, x_addt, x_sub, x_mul, x_mult, x_mull, x_fdv, x_mod, x_pow, x_auga, x_augs, x_augm, x_eqi, x_eqs, x_eqb, x_nei, x_nes, x_neb, x_eqtt, x_eqrr, x_eqtr, x_eqrt, x_eqst, x_eqts, x_nett, x_nerr, x_netr, x_nert, x_nest, x_nets, x_lt, x_le, x_gt, x_ge, x_ins, x_isn, x_isnt, x_ixt, x_ixl, x_ixd, x_ixs, x_slt, x_sll, x_sls, x_std, x_stl, x_isin, x_isis, x_isit, x_isii, x_isib, x_lens, x_lent, x_lenf, x_lenl, x_inti, x_intb, x_abs, x_max2, x_min2, x_maxl, x_minl, x_mxd, x_tupl, x_tupt, x_lisl, x_list, x_liss, x_all, x_any, x_sum, x_repr, x_app, x_ext, x_pop, x_popa, x_join, x_rcva, x_rcve, x_rcvp, x_rcvq, x_rcvj, x_srct, x_srcf, x_srcs, x_srcl, x_seqt, x_seql, x_enu, x_enut, x_zipl, x_zipt, x_rng1, x_rng2, x_tg1, x_tgt, x_tgl, x_var, x_put, x_ex, x_exv, x_exl, x_exl0, x_exd, x_exb, x_exi, x_dec, x_decf, x_ndec, x_ndecf, x_ty_str_str, x_ty_str_tuple, x_ty_str_int, x_ty_str_bool, x_ty_str_list, x_ty_str_dict, x_ty_str_list_tuple, x_ty_str_tuple_list, x_ty_str_str_tuple, x_ty_str_tuple_str, x_ty_str_int_bool, x_ty_str_bool_int, x_ty_str_str_int, x_ty_str_int_str, x_ty_tuple_str, x_ty_tuple_tuple, x_ty_tuple_int, x_ty_tuple_bool, x_ty_tuple_list, x_ty_tuple_dict, x_ty_tuple_list_tuple, x_ty_tuple_tuple_list, x_ty_tuple_str_tuple, x_ty_tuple_tuple_str, x_ty_tuple_int_bool, x_ty_tuple_bool_int, x_ty_tuple_str_int, x_ty_tuple_int_str, x_ty_int_str, x_ty_int_tuple, x_ty_int_int, x_ty_int_bool, x_ty_int_list, x_ty_int_dict, x_ty_int_list_tuple, x_ty_int_tuple_list, x_ty_int_str_tuple, x_ty_int_tuple_str, x_ty_int_int_bool, x_ty_int_bool_int, x_ty_int_str_int, x_ty_int_int_str, x_ty_bool_str, x_ty_bool_tuple, x_ty_bool_int, x_ty_bool_bool, x_ty_bool_list, x_ty_bool_dict, x_ty_bool_list_tuple, x_ty_bool_tuple_list, x_ty_bool_str_tuple, x_ty_bool_tuple_str, x_ty_bool_int_bool, x_ty_bool_bool_int, x_ty_bool_str_int, x_ty_bool_int_str, x_ty_list_str, x_ty_list_tuple, x_ty_list_int, x_ty_list_bool, x_ty_list_list, x_ty_list_dict, x_ty_list_list_tuple, x_ty_list_tuple_list, x_ty_list_str_tuple, x_ty_list_tuple_str, x_ty_list_int_bool, x_ty_list_bool_int, x_ty_list_str_int, x_ty_list_int_str, x_ty_dict_str, x_ty_dict_tuple, x_ty_dict_int, x_ty_dict_bool, x_ty_dict_list, x_ty_dict_dict, x_ty_dict_list_tuple, x_ty_dict_tuple_list, x_ty_dict_str_tuple, x_ty_dict_tuple_str, x_ty_dict_int_bool, x_ty_dict_bool_int, x_ty_dict_str_int, x_ty_dict_int_str, x_puto, x_puto', List.map_cons, List.map_nil, List.length_cons, List.length_nil, List.cons_append, List.nil_append, List.replicate, Nat.sub_zero, Nat.sub_self, Nat.zero_add, Nat.reduceAdd, Nat.reduceSub, List.getElem?_cons_zero, List.getElem?_cons_succ, List.set_cons_zero, List.set_cons_succ, setF, wipeF, true_and, and_true, if_true, if_false, Bool.true_eq_false, Bool.false_eq_true, ite_true, ite_false, reduceIte, not_true_eq_false, not_false_eq_true, Bool.not_true, Bool.not_false, exists_eq_left', exists_const, ne_eq]
    split
    · rename_i hw
      refine inner_p (by omega) ?_
      try simp (maxSteps := 2000000) only [startF, wSs, wS, wE, wL, wO, wB, wI, x_add, x_adds, x_addl, x_addt, x_sub, x_mul, x_mult, x_mull, x_fdv, x_mod, x_pow, x_auga, x_augs, x_augm, x_eqi, x_eqs, x_eqb, x_nei, x_nes, x_neb, x_eqtt, x_eqrr, x_eqtr, x_eqrt, x_eqst, x_eqts, x_nett, x_nerr, x_netr, x_nert, x_nest, x_nets, x_lt, x_le, x_gt, x_ge, x_ins, x_isn, x_isnt, x_ixt, x_ixl, x_ixd, x_ixs, x_slt, x_sll, x_sls, x_std, x_stl, x_isin, x_isis, x_isit, x_isii, x_isib, x_lens, x_lent, x_lenf, x_lenl, x_inti, x_intb, x_abs, x_max2, x_min2, x_maxl, x_minl, x_mxd, x_tupl, x_tupt, x_lisl, x_list, x_liss, x_all, x_any, x_sum, x_repr, x_app, x_ext, x_pop, x_popa, x_join, x_rcva, x_rcve, x_rcvp, x_rcvq, x_rcvj, x_srct, x_srcf, x_srcs, x_srcl, x_seqt, x_seql, x_enu, x_enut, x_zipl, x_zipt, x_rng1, x_rng2, x_tg1, x_tgt, x_tgl, x_var, x_put, x_ex, x_exv, x_exl, x_exl0, x_exd, x_exb, x_exi, x_dec, x_decf, x_ndec, x_ndecf, x_ty_str_str, x_ty_str_tuple, x_ty_str_int, x_ty_str_bool, x_ty_str_list, x_ty_str_dict, x_ty_str_list_tuple, x_ty_str_tuple_list, x_ty_str_str_tuple, x_ty_str_tuple_str, x_ty_str_int_bool, x_ty_str_bool_int, x_ty_str_str_int, x_ty_str_int_str, x_ty_tuple_str, x_ty_tuple_tuple, x_ty_tuple_int, x_ty_tuple_bool, x_ty_tuple_list, x_ty_tuple_dict, x_ty_tuple_list_tuple, x_ty_tuple_tuple_list, x_ty_tuple_str_tuple, x_ty_tuple_tuple_str, x_ty_tuple_int_bool, x_ty_tuple_bool_int, x_ty_tuple_str_int, x_ty_tuple_int_str, x_ty_int_str, x_ty_int_tuple, x_ty_int_int, x_ty_int_bool, x_ty_int_list, x_ty_int_dict, x_ty_int_list_tuple, x_ty_int_tuple_list, x_ty_int_str_tuple, x_ty_int_tuple_str, x_ty_int_int_bool, x_ty_int_bool_int, x_ty_int_str_int, x_ty_int_int_str, x_ty_bool_str, x_ty_bool_tuple, x_ty_bool_int, x_ty_bool_bool, x_ty_bool_list, x_ty_bool_dict, x_ty_bool_list_tuple, x_ty_bool_tuple_list, x_ty_bool_str_tuple, x_ty_bool_tuple_str, x_ty_bool_int_bool, x_ty_bool_bool_int, x_ty_bool_str_int, x_ty_bool_int_str, x_ty_list_str, x_ty_list_tuple, x_ty_list_int, x_ty_list_bool, x_ty_list_list, x_ty_list_dict, x_ty_list_list_tuple, x_ty_list_tuple_list, x_ty_list_str_tuple, x_ty_list_tuple_str, x_ty_list_int_bool, x_ty_list_bool_int, x_ty_list_str_int, x_ty_list_int_str, x_ty_dict_str, x_ty_dict_tuple, x_ty_dict_int, x_ty_dict_bool, x_ty_dict_list, x_ty_dict_dict, x_ty_dict_list_tuple, x_ty_dict_tuple_list, x_ty_dict_str_tuple, x_ty_dict_tuple_str, x_ty_dict_int_bool, x_ty_dict_bool_int, x_ty_dict_str_int, x_ty_dict_int_str, x_puto, x_puto', List.map_cons, List.map_nil, List.length_cons, List.length_nil, List.cons_append, List.nil_append, List.replicate, Nat.sub_zero, Nat.sub_self, Nat.zero_add, Nat.reduceAdd, Nat.reduceSub, List.getElem?_cons_zero, List.getElem?_cons_succ, List.set_cons_zero, List.set_cons_succ, setF, wipeF, true_and, and_true, if_true, if_false, Bool.true_eq_false, Bool.false_eq_true, ite_true, ite_false, reduceIte, not_true_eq_false, not_false_eq_true, Bool.not_true, Bool.not_false, exists_eq_left', exists_const, ne_eq, ds_len, P.ds_len]
      rw [decide_eq_true hw, Bool.true_and] at hQ
      have ed : decide (((xs.length + 1 : Nat) : Int) = ((h.pa.length : Nat) : Int) + 1) = decide (xs.length = h.pa.length) := by
        by_cases q : xs.length = h.pa.length
        · rw [decide_eq_true q, decide_eq_true (by omega)]
        · rw [decide_eq_false q, decide_eq_false (by omega)]
      rw [ed]
      exact hQ
    · rename_i hw
      rw [decide_eq_false hw, Bool.false_and] at hQ
      rw [decide_eq_false hw]
      exact hQ
theorem cut_from1 (x : D) (xs : List D) : cutD (x :: xs) (some 1) none = xs := by
  unfold cutD
  have e : HT.sIx (x :: xs).length 0 (some 1) = 1 := by
    unfold HT.sIx
    dsimp only
    rw [if_neg (by decide)]
    simp only [List.length_cons]
    show min 1 (xs.length + 1) = 1
    omega
  rw [e, HT.sIx_none]
  show xs.take ((x :: xs).length - 1) = xs
  rw [List.length_cons, Nat.add_sub_cancel]
  exact List.take_length
theorem zip_cons {x y : D} {xs ys : List D} : zipped (x :: xs) (y :: ys) = .tup [x, y] :: zipped xs ys := rfl
theorem dps_mem {xs : List P} {x : P} (h : x ∈ xs) : x.dp ≤ P.dps xs := by
  induction xs with
  | nil => cases h
  | cons y ys ih =>
    rw [P.dps]
    rcases List.mem_cons.mp h with e | h
    · rw [e]; exact Nat.le_max_left _ _
    · exact Nat.le_trans (ih h) (Nat.le_max_right _ _)
theorem d_is_term : ∀ {n k : Nat} {hs : List T} {w : Str} {t : P} {S : Sto} {Q : KE} {E : XE}, t.dp ≤ n → n + 3 ≤ k → HK hs → hs.length + 7 * n ≤ 100000 → Q (.bl (tmB hs w t)) S → wC tab k "is_term" [.tup (T.ds hs), .str w, t.d] S Q E
  | n, k, hs, w, t, S, Q, E, hn, hk, hK, hl, hQ => by
    refine wd (fd := f_is_term) (by omega) rfl rfl ?_
    unfold f_is_term
    obtain ⟨i, xs⟩ := t
    have hn : 1 + P.dps xs ≤ n := hn
    try simp (maxSteps := 2000000) only [startF, wSs, wS, wE, wL, wO, wB, wI, x_add, x_adds, x_addl, x_addt, x_sub, x_mul, x_mult, x_mull, x_fdv, x_mod, x_pow, x_auga, x_augs, x_augm, x_eqi, x_eqs, x_eqb, x_nei, x_nes, x_neb, x_eqtt, x_eqrr, x_eqtr, x_eqrt, x_eqst, x_eqts, x_nett, x_nerr, x_netr, x_nert, x_nest, x_nets, x_lt, x_le, x_gt, x_ge, x_ins, x_isn, x_isnt, x_ixt, x_ixl, x_ixd, x_ixs, x_slt, x_sll, x_sls, x_std, x_stl, x_isin, x_isis, x_isit, x_isii, x_isib, x_lens, x_lent, x_lenf, x_lenl, x_inti, x_intb, x_abs, x_max2, x_min2, x_maxl, x_minl, x_mxd, x_tupl, x_tupt, x_lisl, x_list, x_liss, x_all, x_any, x_sum, x_repr, x_app, x_ext, x_pop, x_popa, x_join, x_rcva, x_rcve, x_rcvp, x_rcvq, x_rcvj, x_srct, x_srcf, x_srcs, x_srcl, x_seqt, x_seql, x_enu, x_enut, x_zipl, x_zipt, x_rng1, x_rng2, x_tg1, x_tgt, x_tgl, x_var, x_put, x_ex, x_exv, x_exl, x_exl0, x_exd, x_exb, x_exi, x_dec, x_decf, x_ndec, x_ndecf, x_ty_str_str, x_ty_str_tuple, x_ty_str_int, x_ty_str_bool, x_ty_str_list, x_ty_str_dict, x_ty_str_list_tuple, x_ty_str_tuple_list, x_ty_str_str_tuple, x_ty_str_tuple_str, x_ty_str_int_bool, x_ty_str_bool_int, x_ty_str_str_int, x_ty_str_int_str, x_ty_tuple_str, x_ty_tuple_tuple, x_ty_tuple_int, x_ty_tuple_bool, x_ty_tuple_list, x_ty_tuple_dict, x_ty_tuple_list_tuple, x_ty_tuple_tuple_list, x_ty_tuple_str_tuple, x_ty_tuple_tuple_str, x_ty_tuple_int_bool, x_ty_tuple_bool_int, x_ty_tuple_str_int, x_ty_tuple_int_str, x_ty_int_str, x_ty_int_tuple, x_ty_int_int, x_ty_int_bool, x_ty_int_list, x_ty_int_dict, x_ty_int_list_tuple, x_ty_int_tuple_list, x_ty_int_str_tuple, x_ty_int_tuple_str, x_ty_int_int_bool, x_ty_int_bool_int, x_ty_int_str_int, x_ty_int_int_str, x_ty_bool_str, x_ty_bool_tuple, x_ty_bool_int, x_ty_bool_bool, x_ty_bool_list, x_ty_bool_dict, x_ty_bool_list_tuple, x_ty_bool_tuple_list, x_ty_bool_str_tuple, x_ty_bool_tuple_str, x_ty_bool_int_bool, x_ty_bool_bool_int, x_ty_bool_str_int, x_ty_bool_int_str, x_ty_list_str, x_ty_list_tuple, x_ty_list_int, x_ty_list_bool, x_ty_list_list, x_ty_list_dict, x_ty_list_list_tuple, x_ty_list_tuple_list, x_ty_list_str_tuple, x_ty_list_tuple_str, x_ty_list_int_bool, x_ty_list_bool_int, x_ty_list_str_int, x_ty_list_int_str, x_ty_dict_str, x_ty_dict_tuple, x_ty_dict_int, x_ty_dict_bool, x_ty_dict_list, x_ty_dict_dict, x_ty_dict_list_tuple, x_ty_dict_tuple_list, x_ty_dict_str_tuple, x_ty_dict_tuple_str, x_ty_dict_int_bool, x_ty_dict_bool_int, x_ty_dict_str_int, x_ty_dict_int_str, x_puto, x_puto', List.map_cons, List.map_nil, List.length_cons, List.length_nil, List.cons_append, List.nil_append, List.replicate, Nat.sub_zero, Nat.sub_self, Nat.zero_add, Nat.reduceAdd, Nat.reduceSub, List.getElem?_cons_zero, List.getElem?_cons_succ, List.set_cons_zero, List.set_cons_succ, setF, wipeF, true_and, and_true, if_true, if_false, Bool.true_eq_false, Bool.false_eq_true, ite_true, ite_false, reduceIte, not_true_eq_false, not_false_eq_true, Bool.not_true, Bool.not_false, exists_eq_left', exists_const, ne_eq]
    refine hd_is (by omega) hK ?_
    unfold hdB
    unfold tmB at hQ
    dsimp only at hQ ⊢
    cases e : at? hs i with
    | none =>
      rw [e] at hQ
      dsimp only at hQ
      try simp (maxSteps := 2000000) only [startF, wSs, wS, wE, wL, wO, wB, wI, x_add, x_adds, x_addl, x_addt, x_sub, x_mul, x_mult, x_mull, x_fdv, x_mod, x_pow, x_auga, x_augs, x_augm, x_eqi, x_eqs, x_eqb, x_nei, x_nes, x_neb, x_eqtt, x_eqrr, x_eqtr, x_eqrt, x_eqst, x_eqts, x_nett, x_nerr, x_netr, x_nert, x_nest, x_nets, x_lt, x_le, x_gt, x_ge, x_ins, x_isn, x_isnt, x_ixt, x_ixl, x_ixd, x_ixs, x_slt, x_sll, x_sls, x_std, x_stl, x_isin, x_isis, x_isit, x_isii, x_isib, x_lens, x_lent, x_lenf, x_lenl, x_inti, x_intb, x_abs, x_max2, x_min2, x_maxl, x_minl, x_mxd, x_tupl, x_tupt, x_lisl, x_list, x_liss, x_all, x_any, x_sum, x_repr, x_app, x_ext, x_pop, x_popa, x_join, x_rcva, x_rcve, x_rcvp, x_rcvq, x_rcvj, x_srct, x_srcf, x_srcs, x_srcl, x_seqt, x_seql, x_enu, x_enut, x_zipl, x_zipt, x_rng1, x_rng2, x_tg1, x_tgt, x_tgl, x_var, x_put, x_ex, x_exv, x_exl, x_exl0, x_exd, x_exb, x_exi, x_dec, x_decf, x_ndec, x_ndecf, x_ty_str_str, x_ty_str_tuple, x_ty_str_int, x_ty_str_bool, x_ty_str_list, x_ty_str_dict, x_ty_str_list_tuple, x_ty_str_tuple_list, x_ty_str_str_tuple, x_ty_str_tuple_str, x_ty_str_int_bool, x_ty_str_bool_int, x_ty_str_str_int, x_ty_str_int_str, x_ty_tuple_str, x_ty_tuple_tuple, x_ty_tuple_int, x_ty_tuple_bool, x_ty_tuple_list, x_ty_tuple_dict, x_ty_tuple_list_tuple, x_ty_tuple_tuple_list, x_ty_tuple_str_tuple, x_ty_tuple_tuple_str, x_ty_tuple_int_bool, x_ty_tuple_bool_int, x_ty_tuple_str_int, x_ty_tuple_int_str, x_ty_int_str, x_ty_int_tuple, x_ty_int_int, x_ty_int_bool, x_ty_int_list, x_ty_int_dict, x_ty_int_list_tuple, x_ty_int_tuple_list, x_ty_int_str_tuple, x_ty_int_tuple_str, x_ty_int_int_bool, x_ty_int_bool_int, x_ty_int_str_int, x_ty_int_int_str, x_ty_bool_str, x_ty_bool_tuple, x_ty_bool_int, x_ty_bool_bool, x_ty_bool_list, x_ty_bool_dict, x_ty_bool_list_tuple, x_ty_bool_tuple_list, x_ty_bool_str_tuple, x_ty_bool_tuple_str, x_ty_bool_int_bool, x_ty_bool_bool_int, x_ty_bool_str_int, x_ty_bool_int_str, x_ty_list_str, x_ty_list_tuple, x_ty_list_int, x_ty_list_bool, x_ty_list_list, x_ty_list_dict, x_ty_list_list_tuple, x_ty_list_tuple_list, x_ty_list_str_tuple, x_ty_list_tuple_str, x_ty_list_int_bool, x_ty_list_bool_int, x_ty_list_str_int, x_ty_list_int_str, x_ty_dict_str, x_ty_dict_tuple, x_ty_dict_int, x_ty_dict_bool, x_ty_dict_list, x_ty_dict_dict, x_ty_dict_list_tuple, x_ty_dict_tuple_list, x_ty_dict_str_tuple, x_ty_dict_tuple_str, x_ty_dict_int_bool, x_ty_dict_bool_int, x_ty_dict_str_int, x_ty_dict_int_str, x_puto, x_puto', List.map_cons, List.map_nil, List.length_cons, List.length_nil, List.cons_append, List.nil_append, List.replicate, Nat.sub_zero, Nat.sub_self, Nat.zero_add, Nat.reduceAdd, Nat.reduceSub, List.getElem?_cons_zero, List.getElem?_cons_succ, List.set_cons_zero, List.set_cons_succ, setF, wipeF, true_and, and_true, if_true, if_false, Bool.true_eq_false, Bool.false_eq_true, ite_true, ite_false, reduceIte, not_true_eq_false, not_false_eq_true, Bool.not_true, Bool.not_false, exists_eq_left', exists_const, ne_eq]
      exact hQ
    | some h =>
      rw [e] at hQ
      dsimp only at hQ
      obtain ⟨a, b, c, hm⟩ := at_get e
      have h4 := hK h hm
      dsimp only
      cases hd : decide (eN h = w) && decide (xs.length = h.pa.length) with
      | false =>
        rw [hd, Bool.false_and] at hQ
        try simp (maxSteps := 2000000) only [startF, wSs, wS, wE, wL, wO, wB, wI, x_add, x_adds, x_addl, x_addt, x_sub, x_mul, x_mult, x_mull, x_fdv, x_mod, x_pow, x_auga, x_augs, x_augm, x_eqi, x_eqs, x_eqb, x_nei, x_nes, x_neb, x_eqtt, x_eqrr, x_eqtr, x_eqrt, x_eqst, x_eqts, x_nett, x_nerr, x_netr, x_nert, x_nest, x_nets, x_lt, x_le, x_gt, x_ge, x_ins, x_isn, x_isnt, x_ixt, x_ixl, x_ixd, x_ixs, x_slt, x_sll, x_sls, x_std, x_stl, x_isin, x_isis, x_isit, x_isii, x_isib, x_lens, x_lent, x_lenf, x_lenl, x_inti, x_intb, x_abs, x_max2, x_min2, x_maxl, x_minl, x_mxd, x_tupl, x_tupt, x_lisl, x_list, x_liss, x_all, x_any, x_sum, x_repr, x_app, x_ext, x_pop, x_popa, x_join, x_rcva, x_rcve, x_rcvp, x_rcvq, x_rcvj, x_srct, x_srcf, x_srcs, x_srcl, x_seqt, x_seql, x_enu, x_enut, x_zipl, x_zipt, x_rng1, x_rng2, x_tg1, x_tgt, x_tgl, x_var, x_put, x_ex, x_exv, x_exl, x_exl0, x_exd, x_exb, x_exi, x_dec, x_decf, x_ndec, x_ndecf, x_ty_str_str, x_ty_str_tuple, x_ty_str_int, x_ty_str_bool, x_ty_str_list, x_ty_str_dict, x_ty_str_list_tuple, x_ty_str_tuple_list, x_ty_str_str_tuple, x_ty_str_tuple_str, x_ty_str_int_bool, x_ty_str_bool_int, x_ty_str_str_int, x_ty_str_int_str, x_ty_tuple_str, x_ty_tuple_tuple, x_ty_tuple_int, x_ty_tuple_bool, x_ty_tuple_list, x_ty_tuple_dict, x_ty_tuple_list_tuple, x_ty_tuple_tuple_list, x_ty_tuple_str_tuple, x_ty_tuple_tuple_str, x_ty_tuple_int_bool, x_ty_tuple_bool_int, x_ty_tuple_str_int, x_ty_tuple_int_str, x_ty_int_str, x_ty_int_tuple, x_ty_int_int, x_ty_int_bool, x_ty_int_list, x_ty_int_dict, x_ty_int_list_tuple, x_ty_int_tuple_list, x_ty_int_str_tuple, x_ty_int_tuple_str, x_ty_int_int_bool, x_ty_int_bool_int, x_ty_int_str_int, x_ty_int_int_str, x_ty_bool_str, x_ty_bool_tuple, x_ty_bool_int, x_ty_bool_bool, x_ty_bool_list, x_ty_bool_dict, x_ty_bool_list_tuple, x_ty_bool_tuple_list, x_ty_bool_str_tuple, x_ty_bool_tuple_str, x_ty_bool_int_bool, x_ty_bool_bool_int, x_ty_bool_str_int, x_ty_bool_int_str, x_ty_list_str, x_ty_list_tuple, x_ty_list_int, x_ty_list_bool, x_ty_list_list, x_ty_list_dict, x_ty_list_list_tuple, x_ty_list_tuple_list, x_ty_list_str_tuple, x_ty_list_tuple_str, x_ty_list_int_bool, x_ty_list_bool_int, x_ty_list_str_int, x_ty_list_int_str, x_ty_dict_str, x_ty_dict_tuple, x_ty_dict_int, x_ty_dict_bool, x_ty_dict_list, x_ty_dict_dict, x_ty_dict_list_tuple, x_ty_dict_tuple_list, x_ty_dict_str_tuple, x_ty_dict_tuple_str, x_ty_dict_int_bool, x_ty_dict_bool_int, x_ty_dict_str_int, x_ty_dict_int_str, x_puto, x_puto', List.map_cons, List.map_nil, List.length_cons, List.length_nil, List.cons_append, List.nil_append, List.replicate, Nat.sub_zero, Nat.sub_self, Nat.zero_add, Nat.reduceAdd, Nat.reduceSub, List.getElem?_cons_zero, List.getElem?_cons_succ, List.set_cons_zero, List.set_cons_succ, setF, wipeF, true_and, and_true, if_true, if_false, Bool.true_eq_false, Bool.false_eq_true, ite_true, ite_false, reduceIte, not_true_eq_false, not_false_eq_true, Bool.not_true, Bool.not_false, exists_eq_left', exists_const, ne_eq]
        exact hQ
      | true =>
        rw [hd, Bool.true_and] at hQ
        simp only [P.d]
        try simp (maxSteps := 2000000) only [startF, wSs, wS, wE, wL, wO, wB, wI, x_add, x_adds, x_addl, x_addt, x_sub, x_mul, x_mult, x_mull, x_fdv, x_mod, x_pow, x_auga, x_augs, x_augm, x_eqi, x_eqs, x_eqb, x_nei, x_nes, x_neb, x_eqtt, x_eqrr, x_eqtr, x_eqrt, x_eqst, x_eqts, x_nett, x_nerr, x_netr, x_nert, x_nest, x_nets, x_lt, x_le, x_gt, x_ge, x_ins, x_isn, x_isnt, x_ixt, x_ixl, x_ixd, x_ixs, x_slt, x_sll, x_sls, x_std, x_stl, x_isin, x_isis, x_isit, x_isii, x_isib, x_lens, x_lent, x_lenf, x_lenl, x_inti, x_intb, x_abs, x_max2, x_min2, x_maxl, x_minl, x_mxd, x_tupl, x_tupt, x_lisl, x_list, x_liss, x_all, x_any, x_sum, x_repr, x_app, x_ext, x_pop, x_popa, x_join, x_rcva, x_rcve, x_rcvp, x_rcvq, x_rcvj, x_srct, x_srcf, x_srcs, x_srcl, x_seqt, x_seql, x_enu, x_enut, x_zipl, x_zipt, x_rng1, x_rng2, x_tg1, x_tgt, x_tgl, x_var, x_put, x_ex, x_exv, x_exl, x_exl0, x_exd, x_exb, x_exi, x_dec, x_decf, x_ndec, x_ndecf, x_ty_str_str, x_ty_str_tuple, x_ty_str_int, x_ty_str_bool, x_ty_str_list, x_ty_str_dict, x_ty_str_list_tuple, x_ty_str_tuple_list, x_ty_str_str_tuple, x_ty_str_tuple_str, x_ty_str_int_bool, x_ty_str_bool_int, x_ty_str_str_int, x_ty_str_int_str, x_ty_tuple_str, x_ty_tuple_tuple, x_ty_tuple_int, x_ty_tuple_bool, x_ty_tuple_list, x_ty_tuple_dict, x_ty_tuple_list_tuple, x_ty_tuple_tuple_list, x_ty_tuple_str_tuple, x_ty_tuple_tuple_str, x_ty_tuple_int_bool, x_ty_tuple_bool_int, x_ty_tuple_str_int, x_ty_tuple_int_str, x_ty_int_str, x_ty_int_tuple, x_ty_int_int, x_ty_int_bool, x_ty_int_list, x_ty_int_dict, x_ty_int_list_tuple, x_ty_int_tuple_list, x_ty_int_str_tuple, x_ty_int_tuple_str, x_ty_int_int_bool, x_ty_int_bool_int, x_ty_int_str_int, x_ty_int_int_str, x_ty_bool_str, x_ty_bool_tuple, x_ty_bool_int, x_ty_bool_bool, x_ty_bool_list, x_ty_bool_dict, x_ty_bool_list_tuple, x_ty_bool_tuple_list, x_ty_bool_str_tuple, x_ty_bool_tuple_str, x_ty_bool_int_bool, x_ty_bool_bool_int, x_ty_bool_str_int, x_ty_bool_int_str, x_ty_list_str, x_ty_list_tuple, x_ty_list_int, x_ty_list_bool, x_ty_list_list, x_ty_list_dict, x_ty_list_list_tuple, x_ty_list_tuple_list, x_ty_list_str_tuple, x_ty_list_tuple_str, x_ty_list_int_bool, x_ty_list_bool_int, x_ty_list_str_int, x_ty_list_int_str, x_ty_dict_str, x_ty_dict_tuple, x_ty_dict_int, x_ty_dict_bool, x_ty_dict_list, x_ty_dict_dict, x_ty_dict_list_tuple, x_ty_dict_tuple_list, x_ty_dict_str_tuple, x_ty_dict_tuple_str, x_ty_dict_int_bool, x_ty_dict_bool_int, x_ty_dict_str_int, x_ty_dict_int_str, x_puto, x_puto', List.map_cons, List.map_nil, List.length_cons, List.length_nil, List.cons_append, List.nil_append, List.replicate, Nat.sub_zero, Nat.sub_self, Nat.zero_add, Nat.reduceAdd, Nat.reduceSub, List.getElem?_cons_zero, List.getElem?_cons_succ, List.set_cons_zero, List.set_cons_succ, setF, wipeF, true_and, and_true, if_true, if_false, Bool.true_eq_false, Bool.false_eq_true, ite_true, ite_false, reduceIte, not_true_eq_false, not_false_eq_true, Bool.not_true, Bool.not_false, exists_eq_left', exists_const, ne_eq, atI_0, c]
        refine inner_p (by omega) ?_
        try simp (maxSteps := 2000000) only [startF, wSs, wS, wE, wL, wO, wB, wI, x_add, x_adds, x_addl, x_addt, x_sub, x_mul, x_mult, x_mull, x_fdv, x_mod, x_pow, x_auga, x_augs, x_augm, x_eqi, x_eqs, x_eqb, x_nei, x_nes, x_neb, x_eqtt, x_eqrr, x_eqtr, x_eqrt, x_eqst, x_eqts, x_nett, x_nerr, x_netr, x_nert, x_nest, x_nets, x_lt, x_le, x_gt, x_ge, x_ins, x_isn, x_isnt, x_ixt, x_ixl, x_ixd, x_ixs, x_slt, x_sll, x_sls, x_std, x_stl, x_isin, x_isis, x_isit, x_isii, x_isib, x_lens, x_lent, x_lenf, x_lenl, x_inti, x_intb, x_abs, x_max2, x_min2, x_maxl, x_minl, x_mxd, x_tupl, x_tupt, x_lisl, x_list, x_liss, x_all, x_any, x_sum, x_repr, x_app, x_ext, x_pop, x_popa, x_join, x_rcva, x_rcve, x_rcvp, x_rcvq, x_rcvj, x_srct, x_srcf, x_srcs, x_srcl, x_seqt, x_seql, x_enu, x_enut, x_zipl, x_zipt, x_rng1, x_rng2, x_tg1, x_tgt, x_tgl, x_var, x_put, x_ex, x_exv, x_exl, x_exl0, x_exd, x_exb, x_exi, x_dec, x_decf, x_ndec, x_ndecf, x_ty_str_str, x_ty_str_tuple, x_ty_str_int, x_ty_str_bool, x_ty_str_list, x_ty_str_dict, x_ty_str_list_tuple, x_ty_str_tuple_list, x_ty_str_str_tuple, x_ty_str_tuple_str, x_ty_str_int_bool, x_ty_str_bool_int, x_ty_str_str_int, x_ty_str_int_str, x_ty_tuple_str, x_ty_tuple_tuple, x_ty_tuple_int, x_ty_tuple_bool, x_ty_tuple_list, x_ty_tuple_dict, x_ty_tuple_list_tuple, x_ty_tuple_tuple_list, x_ty_tuple_str_tuple, x_ty_tuple_tuple_str, x_ty_tuple_int_bool, x_ty_tuple_bool_int, x_ty_tuple_str_int, x_ty_tuple_int_str, x_ty_int_str, x_ty_int_tuple, x_ty_int_int, x_ty_int_bool, x_ty_int_list, x_ty_int_dict, x_ty_int_list_tuple, x_ty_int_tuple_list, x_ty_int_str_tuple, x_ty_int_tuple_str, x_ty_int_int_bool, x_ty_int_bool_int, x_ty_int_str_int, x_ty_int_int_str, x_ty_bool_str, x_ty_bool_tuple, x_ty_bool_int, x_ty_bool_bool, x_ty_bool_list, x_ty_bool_dict, x_ty_bool_list_tuple, x_ty_bool_tuple_list, x_ty_bool_str_tuple, x_ty_bool_tuple_str, x_ty_bool_int_bool, x_ty_bool_bool_int, x_ty_bool_str_int, x_ty_bool_int_str, x_ty_list_str, x_ty_list_tuple, x_ty_list_int, x_ty_list_bool, x_ty_list_list, x_ty_list_dict, x_ty_list_list_tuple, x_ty_list_tuple_list, x_ty_list_str_tuple, x_ty_list_tuple_str, x_ty_list_int_bool, x_ty_list_bool_int, x_ty_list_str_int, x_ty_list_int_str, x_ty_dict_str, x_ty_dict_tuple, x_ty_dict_int, x_ty_dict_bool, x_ty_dict_list, x_ty_dict_dict, x_ty_dict_list_tuple, x_ty_dict_tuple_list, x_ty_dict_str_tuple, x_ty_dict_tuple_str, x_ty_dict_int_bool, x_ty_dict_bool_int, x_ty_dict_str_int, x_ty_dict_int_str, x_puto, x_puto', List.map_cons, List.map_nil, List.length_cons, List.length_nil, List.cons_append, List.nil_append, List.replicate, Nat.sub_zero, Nat.sub_self, Nat.zero_add, Nat.reduceAdd, Nat.reduceSub, List.getElem?_cons_zero, List.getElem?_cons_succ, List.set_cons_zero, List.set_cons_succ, setF, wipeF, true_and, and_true, if_true, if_false, Bool.true_eq_false, Bool.false_eq_true, ite_true, ite_false, reduceIte, not_true_eq_false, not_false_eq_true, Bool.not_true, Bool.not_false, exists_eq_left', exists_const, ne_eq]
        rw [cut_from1]
        refine loop_ok (fun zs φ S' => ∃ (ts : List T) (ys : List P) (o3 o4 : Option D), zs = zipped (T.ds ts) (P.ds ys) ∧ φ = [some (.tup (T.ds hs)), some (.str w), some (.tup (.int i :: P.ds xs)), o3, o4] ∧ S' = S ∧ HK ts ∧ (∀ y ∈ ys, y.dp ≤ P.dps xs) ∧ tmBs hs h.pa xs = tmBs hs ts ys ∧ ts.length = ys.length) (fun _ _ _ _ => trivial) ?_ ?_
          ⟨h.pa, xs, none, none, rfl, rfl, rfl, HK.pa h4, fun y hy => dps_mem hy, rfl, ?_⟩
        · rintro φ S' ⟨ts, ys, o3, o4, hz, rfl, rfl, _, _, ht, hlen⟩
          cases ys with
          | nil =>
            try simp (maxSteps := 2000000) only [startF, wSs, wS, wE, wL, wO, wB, wI, x_add, x_adds, x_addl, x_addt, x_sub, x_mul, x_mult, x_mull, x_fdv, x_mod, x_pow, x_auga, x_augs, x_augm, x_eqi, x_eqs, x_eqb, x_nei, x_nes, x_neb, x_eqtt, x_eqrr, x_eqtr, x_eqrt, x_eqst, x_eqts, x_nett, x_nerr, x_netr, x_nert, x_nest, x_nets, x_lt, x_le, x_gt, x_ge, x_ins, x_isn, x_isnt, x_ixt, x_ixl, x_ixd, x_ixs, x_slt, x_sll, x_sls, x_std, x_stl, x_isin, x_isis, x_isit, x_isii, x_isib, x_lens, x_lent, x_lenf, x_lenl, x_inti, x_intb, x_abs, x_max2, x_min2, x_maxl, x_minl, x_mxd, x_tupl, x_tupt, x_lisl, x_list, x_liss, x_all, x_any, x_sum, x_repr, x_app, x_ext, x_pop, x_popa, x_join, x_rcva, x_rcve, x_rcvp, x_rcvq, x_rcvj, x_srct, x_srcf, x_srcs, x_srcl, x_seqt, x_seql, x_enu, x_enut, x_zipl, x_zipt, x_rng1, x_rng2, x_tg1, x_tgt, x_tgl, x_var, x_put, x_ex, x_exv, x_exl, x_exl0, x_exd, x_exb, x_exi, x_dec, x_decf, x_ndec, x_ndecf, x_ty_str_str, x_ty_str_tuple, x_ty_str_int, x_ty_str_bool, x_ty_str_list, x_ty_str_dict, x_ty_str_list_tuple, x_ty_str_tuple_list, x_ty_str_str_tuple, x_ty_str_tuple_str, x_ty_str_int_bool, x_ty_str_bool_int, x_ty_str_str_int, x_ty_str_int_str, x_ty_tuple_str, x_ty_tuple_tuple, x_ty_tuple_int, x_ty_tuple_bool, x_ty_tuple_list, x_ty_tuple_dict, x_ty_tuple_list_tuple, x_ty_tuple_tuple_list, x_ty_tuple_str_tuple, x_ty_tuple_tuple_str, x_ty_tuple_int_bool, x_ty_tuple_bool_int, x_ty_tuple_str_int, x_ty_tuple_int_str, x_ty_int_str, x_ty_int_tuple, x_ty_int_int, x_ty_int_bool, x_ty_int_list, x_ty_int_dict, x_ty_int_list_tuple, x_ty_int_tuple_list, x_ty_int_str_tuple, x_ty_int_tuple_str, x_ty_int_int_bool, x_ty_int_bool_int, x_ty_int_str_int, x_ty_int_int_str, x_ty_bool_str, x_ty_bool_tuple, x_ty_bool_int, x_ty_bool_bool, x_ty_bool_list, x_ty_bool_dict, x_ty_bool_list_tuple, x_ty_bool_tuple_list, x_ty_bool_str_tuple, x_ty_bool_tuple_str, x_ty_bool_int_bool, x_ty_bool_bool_int, x_ty_bool_str_int, x_ty_bool_int_str, x_ty_list_str, x_ty_list_tuple, x_ty_list_int, x_ty_list_bool, x_ty_list_list, x_ty_list_dict, x_ty_list_list_tuple, x_ty_list_tuple_list, x_ty_list_str_tuple, x_ty_list_tuple_str, x_ty_list_int_bool, x_ty_list_bool_int, x_ty_list_str_int, x_ty_list_int_str, x_ty_dict_str, x_ty_dict_tuple, x_ty_dict_int, x_ty_dict_bool, x_ty_dict_list, x_ty_dict_dict, x_ty_dict_list_tuple, x_ty_dict_tuple_list, x_ty_dict_str_tuple, x_ty_dict_tuple_str, x_ty_dict_int_bool, x_ty_dict_bool_int, x_ty_dict_str_int, x_ty_dict_int_str, x_puto, x_puto', List.map_cons, List.map_nil, List.length_cons, List.length_nil, List.cons_append, List.nil_append, List.replicate, Nat.sub_zero, Nat.sub_self, Nat.zero_add, Nat.reduceAdd, Nat.reduceSub, List.getElem?_cons_zero, List.getElem?_cons_succ, List.set_cons_zero, List.set_cons_succ, setF, wipeF, true_and, and_true, if_true, if_false, Bool.true_eq_false, Bool.false_eq_true, ite_true, ite_false, reduceIte, not_true_eq_false, not_false_eq_true, Bool.not_true, Bool.not_false, exists_eq_left', exists_const, ne_eq]
            rw [ht] at hQ
            unfold tmBs at hQ
            exact hQ
          | cons y ys =>
            cases ts with
            | nil => cases hlen
            | cons t ts => cases hz
        · rintro z zs φ S' N ⟨ts, ys, o3, o4, hz, rfl, rfl, hts, hys, ht, hlen⟩ hN
          cases ts with
          | nil => cases hz
          | cons t ts =>
            cases ys with
            | nil => cases hlen
            | cons y ys =>
              cases hz
              have t4 := hts t List.mem_cons_self
              have p7 := pa_few t4
              have hy := hys y List.mem_cons_self
              try simp (maxSteps := 2000000) only [startF, wSs, wS, wE, wL, wO, wB, wI, x_add, x_adds, x_addl, x_addt, x_sub, x_mul, x_mult, x_mull, x_fdv, x_mod, x_pow, x_auga, x_augs, x_augm, x_eqi, x_eqs, x_eqb, x_nei, x_nes, x_neb, x_eqtt, x_eqrr, x_eqtr, x_eqrt, x_eqst, x_eqts, x_nett, x_nerr, x_netr, x_nert, x_nest, x_nets, x_lt, x_le, x_gt, x_ge, x_ins, x_isn, x_isnt, x_ixt, x_ixl, x_ixd, x_ixs, x_slt, x_sll, x_sls, x_std, x_stl, x_isin, x_isis, x_isit, x_isii, x_isib, x_lens, x_lent, x_lenf, x_lenl, x_inti, x_intb, x_abs, x_max2, x_min2, x_maxl, x_minl, x_mxd, x_tupl, x_tupt, x_lisl, x_list, x_liss, x_all, x_any, x_sum, x_repr, x_app, x_ext, x_pop, x_popa, x_join, x_rcva, x_rcve, x_rcvp, x_rcvq, x_rcvj, x_srct, x_srcf, x_srcs, x_srcl, x_seqt, x_seql, x_enu, x_enut, x_zipl, x_zipt, x_rng1, x_rng2, x_tg1, x_tgt, x_tgl, x_var, x_put, x_ex, x_exv, x_exl, x_exl0, x_exd, x_exb, x_exi, x_dec, x_decf, x_ndec, x_ndecf, x_ty_str_str, x_ty_str_tuple, x_ty_str_int, x_ty_str_bool, x_ty_str_list, x_ty_str_dict, x_ty_str_list_tuple, x_ty_str_tuple_list, x_ty_str_str_tuple, x_ty_str_tuple_str, x_ty_str_int_bool, x_ty_str_bool_int, x_ty_str_str_int, x_ty_str_int_str, x_ty_tuple_str, x_ty_tuple_tuple, x_ty_tuple_int, x_ty_tuple_bool, x_ty_tuple_list, x_ty_tuple_dict, x_ty_tuple_list_tuple, x_ty_tuple_tuple_list, x_ty_tuple_str_tuple, x_ty_tuple_tuple_str, x_ty_tuple_int_bool, x_ty_tuple_bool_int, x_ty_tuple_str_int, x_ty_tuple_int_str, x_ty_int_str, x_ty_int_tuple, x_ty_int_int, x_ty_int_bool, x_ty_int_list, x_ty_int_dict, x_ty_int_list_tuple, x_ty_int_tuple_list, x_ty_int_str_tuple, x_ty_int_tuple_str, x_ty_int_int_bool, x_ty_int_bool_int, x_ty_int_str_int, x_ty_int_int_str, x_ty_bool_str, x_ty_bool_tuple, x_ty_bool_int, x_ty_bool_bool, x_ty_bool_list, x_ty_bool_dict, x_ty_bool_list_tuple, x_ty_bool_tuple_list, x_ty_bool_str_tuple, x_ty_bool_tuple_str, x_ty_bool_int_bool, x_ty_bool_bool_int, x_ty_bool_str_int, x_ty_bool_int_str, x_ty_list_str, x_ty_list_tuple, x_ty_list_int, x_ty_list_bool, x_ty_list_list, x_ty_list_dict, x_ty_list_list_tuple, x_ty_list_tuple_list, x_ty_list_str_tuple, x_ty_list_tuple_str, x_ty_list_int_bool, x_ty_list_bool_int, x_ty_list_str_int, x_ty_list_int_str, x_ty_dict_str, x_ty_dict_tuple, x_ty_dict_int, x_ty_dict_bool, x_ty_dict_list, x_ty_dict_dict, x_ty_dict_list_tuple, x_ty_dict_tuple_list, x_ty_dict_str_tuple, x_ty_dict_tuple_str, x_ty_dict_int_bool, x_ty_dict_bool_int, x_ty_dict_str_int, x_ty_dict_int_str, x_puto, x_puto', List.map_cons, List.map_nil, List.length_cons, List.length_nil, List.cons_append, List.nil_append, List.replicate, Nat.sub_zero, Nat.sub_self, Nat.zero_add, Nat.reduceAdd, Nat.reduceSub, List.getElem?_cons_zero, List.getElem?_cons_succ, List.set_cons_zero, List.set_cons_succ, setF, wipeF, true_and, and_true, if_true, if_false, Bool.true_eq_false, Bool.false_eq_true, ite_true, ite_false, reduceIte, not_true_eq_false, not_false_eq_true, Bool.not_true, Bool.not_false, exists_eq_left', exists_const, ne_eq]
              refine hand_b (by omega) (by rw [List.length_append]; omega) ?_
              try simp (maxSteps := 2000000) only [startF, wSs, wS, wE, wL, wO, wB, wI, x_add, x_adds, x_addl, x_addt, x_sub, x_mul, x_mult, x_mull, x_fdv, x_mod, x_pow, x_auga, x_augs, x_augm, x_eqi, x_eqs, x_eqb, x_nei, x_nes, x_neb, x_eqtt, x_eqrr, x_eqtr, x_eqrt, x_eqst, x_eqts, x_nett, x_nerr, x_netr, x_nert, x_nest, x_nets, x_lt, x_le, x_gt, x_ge, x_ins, x_isn, x_isnt, x_ixt, x_ixl, x_ixd, x_ixs, x_slt, x_sll, x_sls, x_std, x_stl, x_isin, x_isis, x_isit, x_isii, x_isib, x_lens, x_lent, x_lenf, x_lenl, x_inti, x_intb, x_abs, x_max2, x_min2, x_maxl, x_minl, x_mxd, x_tupl, x_tupt, x_lisl, x_list, x_liss, x_all, x_any, x_sum, x_repr, x_app, x_ext, x_pop, x_popa, x_join, x_rcva, x_rcve, x_rcvp, x_rcvq, x_rcvj, x_srct, x_srcf, x_srcs, x_srcl, x_seqt, x_seql, x_enu, x_enut, x_zipl, x_zipt, x_rng1, x_rng2, x_tg1, x_tgt, x_tgl, x_var, x_put, x_ex, x_exv, x_exl, x_exl0, x_exd, x_exb, x_exi, x_dec, x_decf, x_ndec, x_ndecf, x_ty_str_str, x_ty_str_tuple, x_ty_str_int, x_ty_str_bool, x_ty_str_list, x_ty_str_dict, x_ty_str_list_tuple, x_ty_str_tuple_list, x_ty_str_str_tuple, x_ty_str_tuple_str, x_ty_str_int_bool, x_ty_str_bool_int, x_ty_str_str_int, x_ty_str_int_str, x_ty_tuple_str, x_ty_tuple_tuple, x_ty_tuple_int, x_ty_tuple_bool, x_ty_tuple_list, x_ty_tuple_dict, x_ty_tuple_list_tuple, x_ty_tuple_tuple_list, x_ty_tuple_str_tuple, x_ty_tuple_tuple_str, x_ty_tuple_int_bool, x_ty_tuple_bool_int, x_ty_tuple_str_int, x_ty_tuple_int_str, x_ty_int_str, x_ty_int_tuple, x_ty_int_int, x_ty_int_bool, x_ty_int_list, x_ty_int_dict, x_ty_int_list_tuple, x_ty_int_tuple_list, x_ty_int_str_tuple, x_ty_int_tuple_str, x_ty_int_int_bool, x_ty_int_bool_int, x_ty_int_str_int, x_ty_int_int_str, x_ty_bool_str, x_ty_bool_tuple, x_ty_bool_int, x_ty_bool_bool, x_ty_bool_list, x_ty_bool_dict, x_ty_bool_list_tuple, x_ty_bool_tuple_list, x_ty_bool_str_tuple, x_ty_bool_tuple_str, x_ty_bool_int_bool, x_ty_bool_bool_int, x_ty_bool_str_int, x_ty_bool_int_str, x_ty_list_str, x_ty_list_tuple, x_ty_list_int, x_ty_list_bool, x_ty_list_list, x_ty_list_dict, x_ty_list_list_tuple, x_ty_list_tuple_list, x_ty_list_str_tuple, x_ty_list_tuple_str, x_ty_list_int_bool, x_ty_list_bool_int, x_ty_list_str_int, x_ty_list_int_str, x_ty_dict_str, x_ty_dict_tuple, x_ty_dict_int, x_ty_dict_bool, x_ty_dict_list, x_ty_dict_dict, x_ty_dict_list_tuple, x_ty_dict_tuple_list, x_ty_dict_str_tuple, x_ty_dict_tuple_str, x_ty_dict_int_bool, x_ty_dict_bool_int, x_ty_dict_str_int, x_ty_dict_int_str, x_puto, x_puto', List.map_cons, List.map_nil, List.length_cons, List.length_nil, List.cons_append, List.nil_append, List.replicate, Nat.sub_zero, Nat.sub_self, Nat.zero_add, Nat.reduceAdd, Nat.reduceSub, List.getElem?_cons_zero, List.getElem?_cons_succ, List.set_cons_zero, List.set_cons_succ, setF, wipeF, true_and, and_true, if_true, if_false, Bool.true_eq_false, Bool.false_eq_true, ite_true, ite_false, reduceIte, not_true_eq_false, not_false_eq_true, Bool.not_true, Bool.not_false, exists_eq_left', exists_const, ne_eq]
              refine inner_e (by omega) (hf_ne t4) ?_
              rw [en_name t4]
              simp only [T.d]
              refine d_is_term (n := n - 1) (by omega) (by omega) (hK.app (HK.pa t4)) (by rw [List.length_append]; omega) ?_
              rw [tmBs_cons] at ht
              cases hb : tmB (hs ++ t.pa) (eN t) y with
              | true =>
                rw [hb, Bool.true_and] at ht
                try simp (maxSteps := 2000000) only [startF, wSs, wS, wE, wL, wO, wB, wI, x_add, x_adds, x_addl, x_addt, x_sub, x_mul, x_mult, x_mull, x_fdv, x_mod, x_pow, x_auga, x_augs, x_augm, x_eqi, x_eqs, x_eqb, x_nei, x_nes, x_neb, x_eqtt, x_eqrr, x_eqtr, x_eqrt, x_eqst, x_eqts, x_nett, x_nerr, x_netr, x_nert, x_nest, x_nets, x_lt, x_le, x_gt, x_ge, x_ins, x_isn, x_isnt, x_ixt, x_ixl, x_ixd, x_ixs, x_slt, x_sll, x_sls, x_std, x_stl, x_isin, x_isis, x_isit, x_isii, x_isib, x_lens, x_lent, x_lenf, x_lenl, x_inti, x_intb, x_abs, x_max2, x_min2, x_maxl, x_minl, x_mxd, x_tupl, x_tupt, x_lisl, x_list, x_liss, x_all, x_any, x_sum, x_repr, x_app, x_ext, x_pop, x_popa, x_join, x_rcva, x_rcve, x_rcvp, x_rcvq, x_rcvj, x_srct, x_srcf, x_srcs, x_srcl, x_seqt, x_seql, x_enu, x_enut, x_zipl, x_zipt, x_rng1, x_rng2, x_tg1, x_tgt, x_tgl, x_var, x_put, x_ex, x_exv, x_exl, x_exl0, x_exd, x_exb, x_exi, x_dec, x_decf, x_ndec, x_ndecf, x_ty_str_str, x_ty_str_tuple, x_ty_str_int, x_ty_str_bool, x_ty_str_list, x_ty_str_dict, x_ty_str_list_tuple, x_ty_str_tuple_list, x_ty_str_str_tuple, x_ty_str_tuple_str, x_ty_str_int_bool, x_ty_str_bool_int, x_ty_str_str_int, x_ty_str_int_str, x_ty_tuple_str, x_ty_tuple_tuple, x_ty_tuple_int, x_ty_tuple_bool, x_ty_tuple_list, x_ty_tuple_dict, x_ty_tuple_list_tuple, x_ty_tuple_tuple_list, x_ty_tuple_str_tuple, x_ty_tuple_tuple_str, x_ty_tuple_int_bool, x_ty_tuple_bool_int, x_ty_tuple_str_int, x_ty_tuple_int_str, x_ty_int_str, x_ty_int_tuple, x_ty_int_int, x_ty_int_bool, x_ty_int_list, x_ty_int_dict, x_ty_int_list_tuple, x_ty_int_tuple_list, x_ty_int_str_tuple, x_ty_int_tuple_str, x_ty_int_int_bool, x_ty_int_bool_int, x_ty_int_str_int, x_ty_int_int_str, x_ty_bool_str, x_ty_bool_tuple, x_ty_bool_int, x_ty_bool_bool, x_ty_bool_list, x_ty_bool_dict, x_ty_bool_list_tuple, x_ty_bool_tuple_list, x_ty_bool_str_tuple, x_ty_bool_tuple_str, x_ty_bool_int_bool, x_ty_bool_bool_int, x_ty_bool_str_int, x_ty_bool_int_str, x_ty_list_str, x_ty_list_tuple, x_ty_list_int, x_ty_list_bool, x_ty_list_list, x_ty_list_dict, x_ty_list_list_tuple, x_ty_list_tuple_list, x_ty_list_str_tuple, x_ty_list_tuple_str, x_ty_list_int_bool, x_ty_list_bool_int, x_ty_list_str_int, x_ty_list_int_str, x_ty_dict_str, x_ty_dict_tuple, x_ty_dict_int, x_ty_dict_bool, x_ty_dict_list, x_ty_dict_dict, x_ty_dict_list_tuple, x_ty_dict_tuple_list, x_ty_dict_str_tuple, x_ty_dict_tuple_str, x_ty_dict_int_bool, x_ty_dict_bool_int, x_ty_dict_str_int, x_ty_dict_int_str, x_puto, x_puto', List.map_cons, List.map_nil, List.length_cons, List.length_nil, List.cons_append, List.nil_append, List.replicate, Nat.sub_zero, Nat.sub_self, Nat.zero_add, Nat.reduceAdd, Nat.reduceSub, List.getElem?_cons_zero, List.getElem?_cons_succ, List.set_cons_zero, List.set_cons_succ, setF, wipeF, true_and, and_true, if_true, if_false, Bool.true_eq_false, Bool.false_eq_true, ite_true, ite_false, reduceIte, not_true_eq_false, not_false_eq_true, Bool.not_true, Bool.not_false, exists_eq_left', exists_const, ne_eq]
                exact hN _ _ ⟨ts, ys, some t.d, some y.d, rfl, rfl, rfl, fun x hx => hts x (List.mem_cons_of_mem _ hx), fun x hx => hys x (List.mem_cons_of_mem _ hx), ht, Nat.succ.inj hlen⟩
              | false =>
                rw [hb, Bool.false_and] at ht
                rw [ht] at hQ
                try simp (maxSteps := 2000000) only [startF, wSs, wS, wE, wL, wO, wB, wI, x_add, x_adds, x_addl, x_addt, x_sub, x_mul, x_mult, x_mull, x_fdv, x_mod, x_pow, x_auga, x_augs, x_augm, x_eqi, x_eqs, x_eqb, x_nei, x_nes, x_neb, x_eqtt, x_eqrr, x_eqtr, x_eqrt, x_eqst, x_eqts, x_nett, x_nerr, x_netr, x_nert, x_nest, x_nets, x_lt, x_le, x_gt, x_ge, x_ins, x_isn, x_isnt, x_ixt, x_ixl, x_ixd, x_ixs, x_slt, x_sll, x_sls, x_std, x_stl, x_isin, x_isis, x_isit, x_isii, x_isib, x_lens, x_lent, x_lenf, x_lenl, x_inti, x_intb, x_abs, x_max2, x_min2, x_maxl, x_minl, x_mxd, x_tupl, x_tupt, x_lisl, x_list, x_liss, x_all, x_any, x_sum, x_repr, x_app, x_ext, x_pop, x_popa, x_join, x_rcva, x_rcve, x_rcvp, x_rcvq, x_rcvj, x_srct, x_srcf, x_srcs, x_srcl, x_seqt, x_seql, x_enu, x_enut, x_zipl, x_zipt, x_rng1, x_rng2, x_tg1, x_tgt, x_tgl, x_var, x_put, x_ex, x_exv, x_exl, x_exl0, x_exd, x_exb, x_exi, x_dec, x_decf, x_ndec, x_ndecf, x_ty_str_str, x_ty_str_tuple, x_ty_str_int, x_ty_str_bool, x_ty_str_list, x_ty_str_dict, x_ty_str_list_tuple, x_ty_str_tuple_list, x_ty_str_str_tuple, x_ty_str_tuple_str, x_ty_str_int_bool, x_ty_str_bool_int, x_ty_str_str_int, x_ty_str_int_str, x_ty_tuple_str, x_ty_tuple_tuple, x_ty_tuple_int, x_ty_tuple_bool, x_ty_tuple_list, x_ty_tuple_dict, x_ty_tuple_list_tuple, x_ty_tuple_tuple_list, x_ty_tuple_str_tuple, x_ty_tuple_tuple_str, x_ty_tuple_int_bool, x_ty_tuple_bool_int, x_ty_tuple_str_int, x_ty_tuple_int_str, x_ty_int_str, x_ty_int_tuple, x_ty_int_int, x_ty_int_bool, x_ty_int_list, x_ty_int_dict, x_ty_int_list_tuple, x_ty_int_tuple_list, x_ty_int_str_tuple, x_ty_int_tuple_str, x_ty_int_int_bool, x_ty_int_bool_int, x_ty_int_str_int, x_ty_int_int_str, x_ty_bool_str, x_ty_bool_tuple, x_ty_bool_int, x_ty_bool_bool, x_ty_bool_list, x_ty_bool_dict, x_ty_bool_list_tuple, x_ty_bool_tuple_list, x_ty_bool_str_tuple, x_ty_bool_tuple_str, x_ty_bool_int_bool, x_ty_bool_bool_int, x_ty_bool_str_int, x_ty_bool_int_str, x_ty_list_str, x_ty_list_tuple, x_ty_list_int, x_ty_list_bool, x_ty_list_list, x_ty_list_dict, x_ty_list_list_tuple, x_ty_list_tuple_list, x_ty_list_str_tuple, x_ty_list_tuple_str, x_ty_list_int_bool, x_ty_list_bool_int, x_ty_list_str_int, x_ty_list_int_str, x_ty_dict_str, x_ty_dict_tuple, x_ty_dict_int, x_ty_dict_bool, x_ty_dict_list, x_ty_dict_dict, x_ty_dict_list_tuple, x_ty_dict_tuple_list, x_ty_dict_str_tuple, x_ty_dict_tuple_str, x_ty_dict_int_bool, x_ty_dict_bool_int, x_ty_dict_str_int, x_ty_dict_int_str, x_puto, x_puto', List.map_cons, List.map_nil, List.length_cons, List.length_nil, List.cons_append, List.nil_append, List.replicate, Nat.sub_zero, Nat.sub_self, Nat.zero_add, Nat.reduceAdd, Nat.reduceSub, List.getElem?_cons_zero, List.getElem?_cons_succ, List.set_cons_zero, List.set_cons_succ, setF, wipeF, true_and, and_true, if_true, if_false, Bool.true_eq_false, Bool.false_eq_true, ite_true, ite_false, reduceIte, not_true_eq_false, not_false_eq_true, Bool.not_true, Bool.not_false, exists_eq_left', exists_const, ne_eq]
                exact hQ
        · have q := Bool.and_eq_true_iff.mp hd
          exact (of_decide_eq_true q.2).symm
  termination_by n => n
  decreasing_by omega

/-! programs: the library -/
def prB (t : T) (p : P) : Bool := tmB t.pa (eN t) p
theorem d_inner_program {k : Nat} {t : T} {p : P} {S : Sto} {Q : KE} {E : XE} (hk : p.dp + 4 ≤ k) (hl : p.dp ≤ 1000) (ht : hf 4 t = true) (hQ : Q (.bl (prB t p)) S) : wC tab k "is_inner_program" [t.d, p.d] S Q E := by
  refine wd (fd := f_is_inner_program) (by omega) rfl rfl ?_
  unfold f_is_inner_program
  try simp (maxSteps := 2000000) only [startF, wSs, wS, wE, wL, wO, wB, wI, x_add, x_adds, x_addl, x_addt, x_sub, x_mul, x_mult, x_mull, x_fdv, x_mod, x_pow, x_auga, x_augs, x_augm, x_eqi, x_eqs, x_eqb, x_nei, x_nes, x_neb, x_eqtt, x_eqrr, x_eqtr, x_eqrt, x_eqst, x_eqts, x_nett, x_nerr, x_netr, x_nert, x_nest, x_nets, x_lt, x_le, x_gt, x_ge, x_ins, x_isn, x_isnt, x_ixt, x_ixl, x_ixd, x_ixs, x_slt, x_sll, x_sls, x_std, x_stl, x_isin, x_isis, x_isit, x_isii, x_isib, x_lens, x_lent, x_lenf, x_lenl, x_inti, x_intb, x_abs, x_max2, x_min2, x_maxl, x_minl, x_mxd, x_tupl, x_tupt, x_lisl, x_list, x_liss, x_all, x_any, x_sum, x_repr, x_app, x_ext, x_pop, x_popa, x_join, x_rcva, x_rcve, x_rcvp, x_rcvq, x_rcvj, x_srct, x_srcf, x_srcs, x_srcl, x_seqt, x_seql, x_enu, x_enut, x_zipl, x_zipt, x_rng1, x_rng2, x_tg1, x_tgt, x_tgl, x_var, x_put, x_ex, x_exv, x_exl, x_exl0, x_exd, x_exb, x_exi, x_dec, x_decf, x_ndec, x_ndecf, x_ty_str_str, x_ty_str_tuple, x_ty_str_int, x_ty_str_bool, x_ty_str_list, x_ty_str_dict, x_ty_str_list_tuple, x_ty_str_tuple_list, x_ty_str_str_tuple, x_ty_str_tuple_str, x_ty_str_int_bool, x_ty_str_bool_int, x_ty_str_str_int, x_ty_str_int_str, x_ty_tuple_str, x_ty_tuple_tuple, x_ty_tuple_int, x_ty_tuple_bool, x_ty_tuple_list, x_ty_tuple_dict, x_ty_tuple_list_tuple, x_ty_tuple_tuple_list, x_ty_tuple_str_tuple, x_ty_tuple_tuple_str, x_ty_tuple_int_bool, x_ty_tuple_bool_int, x_ty_tuple_str_int, x_ty_tuple_int_str, x_ty_int_str, x_ty_int_tuple, x_ty_int_int, x_ty_int_bool, x_ty_int_list, x_ty_int_dict, x_ty_int_list_tuple, x_ty_int_tuple_list, x_ty_int_str_tuple, x_ty_int_tuple_str, x_ty_int_int_bool, x_ty_int_bool_int, x_ty_int_str_int, x_ty_int_int_str, x_ty_bool_str, x_ty_bool_tuple, x_ty_bool_int, x_ty_bool_bool, x_ty_bool_list, x_ty_bool_dict, x_ty_bool_list_tuple, x_ty_bool_tuple_list, x_ty_bool_str_tuple, x_ty_bool_tuple_str, x_ty_bool_int_bool, x_ty_bool_bool_int, x_ty_bool_str_int, x_ty_bool_int_str, x_ty_list_str, x_ty_list_tuple, x_ty_list_int, x_ty_list_bool, x_ty_list_list, x_ty_list_dict, x_ty_list_list_tuple, x_ty_list_tuple_list, x_ty_list_str_tuple, x_ty_list_tuple_str, x_ty_list_int_bool, x_ty_list_bool_int, x_ty_list_str_int, x_ty_list_int_str, x_ty_dict_str, x_ty_dict_tuple, x_ty_dict_int, x_ty_dict_bool, x_ty_dict_list, x_ty_dict_dict, x_ty_dict_list_tuple, x_ty_dict_tuple_list, x_ty_dict_str_tuple, x_ty_dict_tuple_str, x_ty_dict_int_bool, x_ty_dict_bool_int, x_ty_dict_str_int, x_ty_dict_int_str, x_puto, x_puto', List.map_cons, List.map_nil, List.length_cons, List.length_nil, List.cons_append, List.nil_append, List.replicate, Nat.sub_zero, Nat.sub_self, Nat.zero_add, Nat.reduceAdd, Nat.reduceSub, List.getElem?_cons_zero, List.getElem?_cons_succ, List.set_cons_zero, List.set_cons_succ, setF, wipeF, true_and, and_true, if_true, if_false, Bool.true_eq_false, Bool.false_eq_true, ite_true, ite_false, reduceIte, not_true_eq_false, not_false_eq_true, Bool.not_true, Bool.not_false, exists_eq_left', exists_const, ne_eq]
  refine inner_p (by omega) ?_
  try simp (maxSteps := 2000000) only [startF, wSs, wS, wE, wL, wO, wB, wI, x_add, x_adds, x_addl, x_addt, x_sub, x_mul, x_mult, x_mull, x_fdv, x_mod, x_pow, x_auga, x_augs, x_augm, x_eqi, x_eqs, x_eqb, x_nei, x_nes, x_neb, x_eqtt, x_eqrr, x_eqtr, x_eqrt, x_eqst, x_eqts, x_nett, x_nerr, x_netr, x_nert, x_nest, x_nets, x_lt, x_le, x_gt, x_ge, x_ins, x_isn, x_isnt, x_ixt, x_ixl, x_ixd, x_ixs, x_slt, x_sll, x_sls, x_std, x_stl, x_isin, x_isis, x_isit, x_isii, x_isib, x_lens, x_lent, x_lenf, x_lenl, x_inti, x_intb, x_abs, x_max2, x_min2, x_maxl, x_minl, x_mxd, x_tupl, x_tupt, x_lisl, x_list, x_liss, x_all, x_any, x_sum, x_repr, x_app, x_ext, x_pop, x_popa, x_join, x_rcva, x_rcve, x_rcvp, x_rcvq, x_rcvj, x_srct, x_srcf, x_srcs, x_srcl, x_seqt, x_seql, x_enu, x_enut, x_zipl, x_zipt, x_rng1, x_rng2, x_tg1, x_tgt, x_tgl, x_var, x_put, x_ex, x_exv, x_exl, x_exl0, x_exd, x_exb, x_exi, x_dec, x_decf, x_ndec, x_ndecf, x_ty_str_str, x_ty_str_tuple, x_ty_str_int, x_ty_str_bool, x_ty_str_list, x_ty_str_dict, x_ty_str_list_tuple, x_ty_str_tuple_list, x_ty_str_str_tuple, x_ty_str_tuple_str, x_ty_str_int_bool, x_ty_str_bool_int, x_ty_str_str_int, x_ty_str_int_str, x_ty_tuple_str, x_ty_tuple_tuple, x_ty_tuple_int, x_ty_tuple_bool, x_ty_tuple_list, x_ty_tuple_dict, x_ty_tuple_list_tuple, x_ty_tuple_tuple_list, x_ty_tuple_str_tuple, x_ty_tuple_tuple_str, x_ty_tuple_int_bool, x_ty_tuple_bool_int, x_ty_tuple_str_int, x_ty_tuple_int_str, x_ty_int_str, x_ty_int_tuple, x_ty_int_int, x_ty_int_bool, x_ty_int_list, x_ty_int_dict, x_ty_int_list_tuple, x_ty_int_tuple_list, x_ty_int_str_tuple, x_ty_int_tuple_str, x_ty_int_int_bool, x_ty_int_bool_int, x_ty_int_str_int, x_ty_int_int_str, x_ty_bool_str, x_ty_bool_tuple, x_ty_bool_int, x_ty_bool_bool, x_ty_bool_list, x_ty_bool_dict, x_ty_bool_list_tuple, x_ty_bool_tuple_list, x_ty_bool_str_tuple, x_ty_bool_tuple_str, x_ty_bool_int_bool, x_ty_bool_bool_int, x_ty_bool_str_int, x_ty_bool_int_str, x_ty_list_str, x_ty_list_tuple, x_ty_list_int, x_ty_list_bool, x_ty_list_list, x_ty_list_dict, x_ty_list_list_tuple, x_ty_list_tuple_list, x_ty_list_str_tuple, x_ty_list_tuple_str, x_ty_list_int_bool, x_ty_list_bool_int, x_ty_list_str_int, x_ty_list_int_str, x_ty_dict_str, x_ty_dict_tuple, x_ty_dict_int, x_ty_dict_bool, x_ty_dict_list, x_ty_dict_dict, x_ty_dict_list_tuple, x_ty_dict_tuple_list, x_ty_dict_str_tuple, x_ty_dict_tuple_str, x_ty_dict_int_bool, x_ty_dict_bool_int, x_ty_dict_str_int, x_ty_dict_int_str, x_puto, x_puto', List.map_cons, List.map_nil, List.length_cons, List.length_nil, List.cons_append, List.nil_append, List.replicate, Nat.sub_zero, Nat.sub_self, Nat.zero_add, Nat.reduceAdd, Nat.reduceSub, List.getElem?_cons_zero, List.getElem?_cons_succ, List.set_cons_zero, List.set_cons_succ, setF, wipeF, true_and, and_true, if_true, if_false, Bool.true_eq_false, Bool.false_eq_true, ite_true, ite_false, reduceIte, not_true_eq_false, not_false_eq_true, Bool.not_true, Bool.not_false, exists_eq_left', exists_const, ne_eq]
  refine inner_e (by omega) (hf_ne ht) ?_
  rw [en_name ht]
  simp only [T.d]
  have := pa_few ht
  exact d_is_term (n := p.dp) (Nat.le_refl _) (by omega) (HK.pa ht) (by omega) hQ
theorem d_is_program {k : Nat} {t : T} {p : P} {S : Sto} {Q : KE} {E : XE} (hk : p.dp + 10 ≤ k) (hl : p.dp ≤ 1000) (ht : kindB t = true) (hQ : ∀ S', Ext S S' → Q (.bl (prB t p)) S') : wC tab k "is_program" [t.d, p.d] S Q E := by
  refine wd (fd := f_is_program) (by omega) rfl rfl ?_
  unfold f_is_program
  try simp (maxSteps := 2000000) only [startF, wSs, wS, wE, wL, wO, wB, wI, x_add, x_adds, x_addl, x_addt, x_sub, x_mul, x_mult, x_mull, x_fdv, x_mod, x_pow, x_auga, x_augs, x_augm, x_eqi, x_eqs, x_eqb, x_nei, x_nes, x_neb, x_eqtt, x_eqrr, x_eqtr, x_eqrt, x_eqst, x_eqts, x_nett, x_nerr, x_netr, x_nert, x_nest, x_nets, x_lt, x_le, x_gt, x_ge, x_ins, x_isn, x_isnt, x_ixt, x_ixl, x_ixd, x_ixs, x_slt, x_sll, x_sls, x_std, x_stl, x_isin, x_isis, x_isit, x_isii, x_isib, x_lens, x_lent, x_lenf, x_lenl, x_inti, x_intb, x_abs, x_max2, x_min2, x_maxl, x_minl, x_mxd, x_tupl, x_tupt, x_lisl, x_list, x_liss, x_all, x_any, x_sum, x_repr, x_app, x_ext, x_pop, x_popa, x_join, x_rcva, x_rcve, x_rcvp, x_rcvq, x_rcvj, x_srct, x_srcf, x_srcs, x_srcl, x_seqt, x_seql, x_enu, x_enut, x_zipl, x_zipt, x_rng1, x_rng2, x_tg1, x_tgt, x_tgl, x_var, x_put, x_ex, x_exv, x_exl, x_exl0, x_exd, x_exb, x_exi, x_dec, x_decf, x_ndec, x_ndecf, x_ty_str_str, x_ty_str_tuple, x_ty_str_int, x_ty_str_bool, x_ty_str_list, x_ty_str_dict, x_ty_str_list_tuple, x_ty_str_tuple_list, x_ty_str_str_tuple, x_ty_str_tuple_str, x_ty_str_int_bool, x_ty_str_bool_int, x_ty_str_str_int, x_ty_str_int_str, x_ty_tuple_str, x_ty_tuple_tuple, x_ty_tuple_int, x_ty_tuple_bool, x_ty_tuple_list, x_ty_tuple_dict, x_ty_tuple_list_tuple, x_ty_tuple_tuple_list, x_ty_tuple_str_tuple, x_ty_tuple_tuple_str, x_ty_tuple_int_bool, x_ty_tuple_bool_int, x_ty_tuple_str_int, x_ty_tuple_int_str, x_ty_int_str, x_ty_int_tuple, x_ty_int_int, x_ty_int_bool, x_ty_int_list, x_ty_int_dict, x_ty_int_list_tuple, x_ty_int_tuple_list, x_ty_int_str_tuple, x_ty_int_tuple_str, x_ty_int_int_bool, x_ty_int_bool_int, x_ty_int_str_int, x_ty_int_int_str, x_ty_bool_str, x_ty_bool_tuple, x_ty_bool_int, x_ty_bool_bool, x_ty_bool_list, x_ty_bool_dict, x_ty_bool_list_tuple, x_ty_bool_tuple_list, x_ty_bool_str_tuple, x_ty_bool_tuple_str, x_ty_bool_int_bool, x_ty_bool_bool_int, x_ty_bool_str_int, x_ty_bool_int_str, x_ty_list_str, x_ty_list_tuple, x_ty_list_int, x_ty_list_bool, x_ty_list_list, x_ty_list_dict, x_ty_list_list_tuple, x_ty_list_tuple_list, x_ty_list_str_tuple, x_ty_list_tuple_str, x_ty_list_int_bool, x_ty_list_bool_int, x_ty_list_str_int, x_ty_list_int_str, x_ty_dict_str, x_ty_dict_tuple, x_ty_dict_int, x_ty_dict_bool, x_ty_dict_list, x_ty_dict_dict, x_ty_dict_list_tuple, x_ty_dict_tuple_list, x_ty_dict_str_tuple, x_ty_dict_tuple_str, x_ty_dict_int_bool, x_ty_dict_bool_int, x_ty_dict_str_int, x_ty_dict_int_str, x_puto, x_puto', List.map_cons, List.map_nil, List.length_cons, List.length_nil, List.cons_append, List.nil_append, List.replicate, Nat.sub_zero, Nat.sub_self, Nat.zero_add, Nat.reduceAdd, Nat.reduceSub, List.getElem?_cons_zero, List.getElem?_cons_succ, List.set_cons_zero, List.set_cons_succ, setF, wipeF, true_and, and_true, if_true, if_false, Bool.true_eq_false, Bool.false_eq_true, ite_true, ite_false, reduceIte, not_true_eq_false, not_false_eq_true, Bool.not_true, Bool.not_false, exists_eq_left', exists_const, ne_eq]
  refine d_need_kind (by omega) ht fun S1 e1 => ?_
  try simp (maxSteps := 2000000) only [startF, wSs, wS, wE, wL, wO, wB, wI, x_add, x_adds, x_addl, x_addt, x_sub, x_mul, x_mult, x_mull, x_fdv, x_mod, x_pow, x_auga, x_augs, x_augm, x_eqi, x_eqs, x_eqb, x_nei, x_nes, x_neb, x_eqtt, x_eqrr, x_eqtr, x_eqrt, x_eqst, x_eqts, x_nett, x_nerr, x_netr, x_nert, x_nest, x_nets, x_lt, x_le, x_gt, x_ge, x_ins, x_isn, x_isnt, x_ixt, x_ixl, x_ixd, x_ixs, x_slt, x_sll, x_sls, x_std, x_stl, x_isin, x_isis, x_isit, x_isii, x_isib, x_lens, x_lent, x_lenf, x_lenl, x_inti, x_intb, x_abs, x_max2, x_min2, x_maxl, x_minl, x_mxd, x_tupl, x_tupt, x_lisl, x_list, x_liss, x_all, x_any, x_sum, x_repr, x_app, x_ext, x_pop, x_popa, x_join, x_rcva, x_rcve, x_rcvp, x_rcvq, x_rcvj, x_srct, x_srcf, x_srcs, x_srcl, x_seqt, x_seql, x_enu, x_enut, x_zipl, x_zipt, x_rng1, x_rng2, x_tg1, x_tgt, x_tgl, x_var, x_put, x_ex, x_exv, x_exl, x_exl0, x_exd, x_exb, x_exi, x_dec, x_decf, x_ndec, x_ndecf, x_ty_str_str, x_ty_str_tuple, x_ty_str_int, x_ty_str_bool, x_ty_str_list, x_ty_str_dict, x_ty_str_list_tuple, x_ty_str_tuple_list, x_ty_str_str_tuple, x_ty_str_tuple_str, x_ty_str_int_bool, x_ty_str_bool_int, x_ty_str_str_int, x_ty_str_int_str, x_ty_tuple_str, x_ty_tuple_tuple, x_ty_tuple_int, x_ty_tuple_bool, x_ty_tuple_list, x_ty_tuple_dict, x_ty_tuple_list_tuple, x_ty_tuple_tuple_list, x_ty_tuple_str_tuple, x_ty_tuple_tuple_str, x_ty_tuple_int_bool, x_ty_tuple_bool_int, x_ty_tuple_str_int, x_ty_tuple_int_str, x_ty_int_str, x_ty_int_tuple, x_ty_int_int, x_ty_int_bool, x_ty_int_list, x_ty_int_dict, x_ty_int_list_tuple, x_ty_int_tuple_list, x_ty_int_str_tuple, x_ty_int_tuple_str, x_ty_int_int_bool, x_ty_int_bool_int, x_ty_int_str_int, x_ty_int_int_str, x_ty_bool_str, x_ty_bool_tuple, x_ty_bool_int, x_ty_bool_bool, x_ty_bool_list, x_ty_bool_dict, x_ty_bool_list_tuple, x_ty_bool_tuple_list, x_ty_bool_str_tuple, x_ty_bool_tuple_str, x_ty_bool_int_bool, x_ty_bool_bool_int, x_ty_bool_str_int, x_ty_bool_int_str, x_ty_list_str, x_ty_list_tuple, x_ty_list_int, x_ty_list_bool, x_ty_list_list, x_ty_list_dict, x_ty_list_list_tuple, x_ty_list_tuple_list, x_ty_list_str_tuple, x_ty_list_tuple_str, x_ty_list_int_bool, x_ty_list_bool_int, x_ty_list_str_int, x_ty_list_int_str, x_ty_dict_str, x_ty_dict_tuple, x_ty_dict_int, x_ty_dict_bool, x_ty_dict_list, x_ty_dict_dict, x_ty_dict_list_tuple, x_ty_dict_tuple_list, x_ty_dict_str_tuple, x_ty_dict_tuple_str, x_ty_dict_int_bool, x_ty_dict_bool_int, x_ty_dict_str_int, x_ty_dict_int_str, x_puto, x_puto', List.map_cons, List.map_nil, List.length_cons, List.length_nil, List.cons_append, List.nil_append, List.replicate, Nat.sub_zero, Nat.sub_self, Nat.zero_add, Nat.reduceAdd, Nat.reduceSub, List.getElem?_cons_zero, List.getElem?_cons_succ, List.set_cons_zero, List.set_cons_succ, setF, wipeF, true_and, and_true, if_true, if_false, Bool.true_eq_false, Bool.false_eq_true, ite_true, ite_false, reduceIte, not_true_eq_false, not_false_eq_true, Bool.not_true, Bool.not_false, exists_eq_left', exists_const, ne_eq]
  exact d_inner_program (by omega) hl (kindB_hf ht) (hQ S1 e1)
theorem d_need_program {k : Nat} {t : T} {p : P} {S : Sto} {Q : KE} {E : XE} (hk : p.dp + 10 ≤ k) (hl : p.dp ≤ 1000) (ht : kindB t = true) (hp : prB t p = true) (hQ : ∀ S', Ext S S' → Q .non S') : wC tab k "need_program" [t.d, p.d] S Q E := by
  refine wd (fd := f_need_program) (by omega) rfl rfl ?_
  unfold f_need_program
  try simp (maxSteps := 2000000) only [startF, wSs, wS, wE, wL, wO, wB, wI, x_add, x_adds, x_addl, x_addt, x_sub, x_mul, x_mult, x_mull, x_fdv, x_mod, x_pow, x_auga, x_augs, x_augm, x_eqi, x_eqs, x_eqb, x_nei, x_nes, x_neb, x_eqtt, x_eqrr, x_eqtr, x_eqrt, x_eqst, x_eqts, x_nett, x_nerr, x_netr, x_nert, x_nest, x_nets, x_lt, x_le, x_gt, x_ge, x_ins, x_isn, x_isnt, x_ixt, x_ixl, x_ixd, x_ixs, x_slt, x_sll, x_sls, x_std, x_stl, x_isin, x_isis, x_isit, x_isii, x_isib, x_lens, x_lent, x_lenf, x_lenl, x_inti, x_intb, x_abs, x_max2, x_min2, x_maxl, x_minl, x_mxd, x_tupl, x_tupt, x_lisl, x_list, x_liss, x_all, x_any, x_sum, x_repr, x_app, x_ext, x_pop, x_popa, x_join, x_rcva, x_rcve, x_rcvp, x_rcvq, x_rcvj, x_srct, x_srcf, x_srcs, x_srcl, x_seqt, x_seql, x_enu, x_enut, x_zipl, x_zipt, x_rng1, x_rng2, x_tg1, x_tgt, x_tgl, x_var, x_put, x_ex, x_exv, x_exl, x_exl0, x_exd, x_exb, x_exi, x_dec, x_decf, x_ndec, x_ndecf, x_ty_str_str, x_ty_str_tuple, x_ty_str_int, x_ty_str_bool, x_ty_str_list, x_ty_str_dict, x_ty_str_list_tuple, x_ty_str_tuple_list, x_ty_str_str_tuple, x_ty_str_tuple_str, x_ty_str_int_bool, x_ty_str_bool_int, x_ty_str_str_int, x_ty_str_int_str, x_ty_tuple_str, x_ty_tuple_tuple, x_ty_tuple_int, x_ty_tuple_bool, x_ty_tuple_list, x_ty_tuple_dict, x_ty_tuple_list_tuple, x_ty_tuple_tuple_list, x_ty_tuple_str_tuple, x_ty_tuple_tuple_str, x_ty_tuple_int_bool, x_ty_tuple_bool_int, x_ty_tuple_str_int, x_ty_tuple_int_str, x_ty_int_str, x_ty_int_tuple, x_ty_int_int, x_ty_int_bool, x_ty_int_list, x_ty_int_dict, x_ty_int_list_tuple, x_ty_int_tuple_list, x_ty_int_str_tuple, x_ty_int_tuple_str, x_ty_int_int_bool, x_ty_int_bool_int, x_ty_int_str_int, x_ty_int_int_str, x_ty_bool_str, x_ty_bool_tuple, x_ty_bool_int, x_ty_bool_bool, x_ty_bool_list, x_ty_bool_dict, x_ty_bool_list_tuple, x_ty_bool_tuple_list, x_ty_bool_str_tuple, x_ty_bool_tuple_str, x_ty_bool_int_bool, x_ty_bool_bool_int, x_ty_bool_str_int, x_ty_bool_int_str, x_ty_list_str, x_ty_list_tuple, x_ty_list_int, x_ty_list_bool, x_ty_list_list, x_ty_list_dict, x_ty_list_list_tuple, x_ty_list_tuple_list, x_ty_list_str_tuple, x_ty_list_tuple_str, x_ty_list_int_bool, x_ty_list_bool_int, x_ty_list_str_int, x_ty_list_int_str, x_ty_dict_str, x_ty_dict_tuple, x_ty_dict_int, x_ty_dict_bool, x_ty_dict_list, x_ty_dict_dict, x_ty_dict_list_tuple, x_ty_dict_tuple_list, x_ty_dict_str_tuple, x_ty_dict_tuple_str, x_ty_dict_int_bool, x_ty_dict_bool_int, x_ty_dict_str_int, x_ty_dict_int_str, x_puto, x_puto', List.map_cons, List.map_nil, List.length_cons, List.length_nil, List.cons_append, List.nil_append, List.replicate, Nat.sub_zero, Nat.sub_self, Nat.zero_add, Nat.reduceAdd, Nat.reduceSub, List.getElem?_cons_zero, List.getElem?_cons_succ, List.set_cons_zero, List.set_cons_succ, setF, wipeF, true_and, and_true, if_true, if_false, Bool.true_eq_false, Bool.false_eq_true, ite_true, ite_false, reduceIte, not_true_eq_false, not_false_eq_true, Bool.not_true, Bool.not_false, exists_eq_left', exists_const, ne_eq]
  refine d_need_kind (by omega) ht fun S1 e1 => ?_
  try simp (maxSteps := 2000000) only [startF, wSs, wS, wE, wL, wO, wB, wI, x_add, x_adds, x_addl, x_addt, x_sub, x_mul, x_mult, x_mull, x_fdv, x_mod, x_pow, x_auga, x_augs, x_augm, x_eqi, x_eqs, x_eqb, x_nei, x_nes, x_neb, x_eqtt, x_eqrr, x_eqtr, x_eqrt, x_eqst, x_eqts, x_nett, x_nerr, x_netr, x_nert, x_nest, x_nets, x_lt, x_le, x_gt, x_ge, x_ins, x_isn, x_isnt, x_ixt, x_ixl, x_ixd, x_ixs, x_slt, x_sll, x_sls, x_std, x_stl, x_isin, x_isis, x_isit, x_isii, x_isib, x_lens, x_lent, x_lenf, x_lenl, x_inti, x_intb, x_abs, x_max2, x_min2, x_maxl, x_minl, x_mxd, x_tupl, x_tupt, x_lisl, x_list, x_liss, x_all, x_any, x_sum, x_repr, x_app, x_ext, x_pop, x_popa, x_join, x_rcva, x_rcve, x_rcvp, x_rcvq, x_rcvj, x_srct, x_srcf, x_srcs, x_srcl, x_seqt, x_seql, x_enu, x_enut, x_zipl, x_zipt, x_rng1, x_rng2, x_tg1, x_tgt, x_tgl, x_var, x_put, x_ex, x_exv, x_exl, x_exl0, x_exd, x_exb, x_exi, x_dec, x_decf, x_ndec, x_ndecf, x_ty_str_str, x_ty_str_tuple, x_ty_str_int, x_ty_str_bool, x_ty_str_list, x_ty_str_dict, x_ty_str_list_tuple, x_ty_str_tuple_list, x_ty_str_str_tuple, x_ty_str_tuple_str, x_ty_str_int_bool, x_ty_str_bool_int, x_ty_str_str_int, x_ty_str_int_str, x_ty_tuple_str, x_ty_tuple_tuple, x_ty_tuple_int, x_ty_tuple_bool, x_ty_tuple_list, x_ty_tuple_dict, x_ty_tuple_list_tuple, x_ty_tuple_tuple_list, x_ty_tuple_str_tuple, x_ty_tuple_tuple_str, x_ty_tuple_int_bool, x_ty_tuple_bool_int, x_ty_tuple_str_int, x_ty_tuple_int_str, x_ty_int_str, x_ty_int_tuple, x_ty_int_int, x_ty_int_bool, x_ty_int_list, x_ty_int_dict, x_ty_int_list_tuple, x_ty_int_tuple_list, x_ty_int_str_tuple, x_ty_int_tuple_str, x_ty_int_int_bool, x_ty_int_bool_int, x_ty_int_str_int, x_ty_int_int_str, x_ty_bool_str, x_ty_bool_tuple, x_ty_bool_int, x_ty_bool_bool, x_ty_bool_list, x_ty_bool_dict, x_ty_bool_list_tuple, x_ty_bool_tuple_list, x_ty_bool_str_tuple, x_ty_bool_tuple_str, x_ty_bool_int_bool, x_ty_bool_bool_int, x_ty_bool_str_int, x_ty_bool_int_str, x_ty_list_str, x_ty_list_tuple, x_ty_list_int, x_ty_list_bool, x_ty_list_list, x_ty_list_dict, x_ty_list_list_tuple, x_ty_list_tuple_list, x_ty_list_str_tuple, x_ty_list_tuple_str, x_ty_list_int_bool, x_ty_list_bool_int, x_ty_list_str_int, x_ty_list_int_str, x_ty_dict_str, x_ty_dict_tuple, x_ty_dict_int, x_ty_dict_bool, x_ty_dict_list, x_ty_dict_dict, x_ty_dict_list_tuple, x_ty_dict_tuple_list, x_ty_dict_str_tuple, x_ty_dict_tuple_str, x_ty_dict_int_bool, x_ty_dict_bool_int, x_ty_dict_str_int, x_ty_dict_int_str, x_puto, x_puto', List.map_cons, List.map_nil, List.length_cons, List.length_nil, List.cons_append, List.nil_append, List.replicate, Nat.sub_zero, Nat.sub_self, Nat.zero_add, Nat.reduceAdd, Nat.reduceSub, List.getElem?_cons_zero, List.getElem?_cons_succ, List.set_cons_zero, List.set_cons_succ, setF, wipeF, true_and, and_true, if_true, if_false, Bool.true_eq_false, Bool.false_eq_true, ite_true, ite_false, reduceIte, not_true_eq_false, not_false_eq_true, Bool.not_true, Bool.not_false, exists_eq_left', exists_const, ne_eq]
  refine d_inner_program (by omega) hl (kindB_hf ht) ?_
  rw [hp]
  try simp (maxSteps := 2000000) only [startF, wSs, wS, wE, wL, wO, wB, wI, x_add, x_adds, x_addl, x_addt, x_sub, x_mul, x_mult, x_mull, x_fdv, x_mod, x_pow, x_auga, x_augs, x_augm, x_eqi, x_eqs, x_eqb, x_nei, x_nes, x_neb, x_eqtt, x_eqrr, x_eqtr, x_eqrt, x_eqst, x_eqts, x_nett, x_nerr, x_netr, x_nert, x_nest, x_nets, x_lt, x_le, x_gt, x_ge, x_ins, x_isn, x_isnt, x_ixt, x_ixl, x_ixd, x_ixs, x_slt, x_sll, x_sls, x_std, x_stl, x_isin, x_isis, x_isit, x_isii, x_isib, x_lens, x_lent, x_lenf, x_lenl, x_inti, x_intb, x_abs, x_max2, x_min2, x_maxl, x_minl, x_mxd, x_tupl, x_tupt, x_lisl, x_list, x_liss, x_all, x_any, x_sum, x_repr, x_app, x_ext, x_pop, x_popa, x_join, x_rcva, x_rcve, x_rcvp, x_rcvq, x_rcvj, x_srct, x_srcf, x_srcs, x_srcl, x_seqt, x_seql, x_enu, x_enut, x_zipl, x_zipt, x_rng1, x_rng2, x_tg1, x_tgt, x_tgl, x_var, x_put, x_ex, x_exv, x_exl, x_exl0, x_exd, x_exb, x_exi, x_dec, x_decf, x_ndec, x_ndecf, x_ty_str_str, x_ty_str_tuple, x_ty_str_int, x_ty_str_bool, x_ty_str_list, x_ty_str_dict, x_ty_str_list_tuple, x_ty_str_tuple_list, x_ty_str_str_tuple, x_ty_str_tuple_str, x_ty_str_int_bool, x_ty_str_bool_int, x_ty_str_str_int, x_ty_str_int_str, x_ty_tuple_str, x_ty_tuple_tuple, x_ty_tuple_int, x_ty_tuple_bool, x_ty_tuple_list, x_ty_tuple_dict, x_ty_tuple_list_tuple, x_ty_tuple_tuple_list, x_ty_tuple_str_tuple, x_ty_tuple_tuple_str, x_ty_tuple_int_bool, x_ty_tuple_bool_int, x_ty_tuple_str_int, x_ty_tuple_int_str, x_ty_int_str, x_ty_int_tuple, x_ty_int_int, x_ty_int_bool, x_ty_int_list, x_ty_int_dict, x_ty_int_list_tuple, x_ty_int_tuple_list, x_ty_int_str_tuple, x_ty_int_tuple_str, x_ty_int_int_bool, x_ty_int_bool_int, x_ty_int_str_int, x_ty_int_int_str, x_ty_bool_str, x_ty_bool_tuple, x_ty_bool_int, x_ty_bool_bool, x_ty_bool_list, x_ty_bool_dict, x_ty_bool_list_tuple, x_ty_bool_tuple_list, x_ty_bool_str_tuple, x_ty_bool_tuple_str, x_ty_bool_int_bool, x_ty_bool_bool_int, x_ty_bool_str_int, x_ty_bool_int_str, x_ty_list_str, x_ty_list_tuple, x_ty_list_int, x_ty_list_bool, x_ty_list_list, x_ty_list_dict, x_ty_list_list_tuple, x_ty_list_tuple_list, x_ty_list_str_tuple, x_ty_list_tuple_str, x_ty_list_int_bool, x_ty_list_bool_int, x_ty_list_str_int, x_ty_list_int_str, x_ty_dict_str, x_ty_dict_tuple, x_ty_dict_int, x_ty_dict_bool, x_ty_dict_list, x_ty_dict_dict, x_ty_dict_list_tuple, x_ty_dict_tuple_list, x_ty_dict_str_tuple, x_ty_dict_tuple_str, x_ty_dict_int_bool, x_ty_dict_bool_int, x_ty_dict_str_int, x_ty_dict_int_str, x_puto, x_puto', List.map_cons, List.map_nil, List.length_cons, List.length_nil, List.cons_append, List.nil_append, List.replicate, Nat.sub_zero, Nat.sub_self, Nat.zero_add, Nat.reduceAdd, Nat.reduceSub, List.getElem?_cons_zero, List.getElem?_cons_succ, List.set_cons_zero, List.set_cons_succ, setF, wipeF, true_and, and_true, if_true, if_false, Bool.true_eq_false, Bool.false_eq_true, ite_true, ite_false, reduceIte, not_true_eq_false, not_false_eq_true, Bool.not_true, Bool.not_false, exists_eq_left', exists_const, ne_eq]
  exact hQ S1 e1
namespace P
mutual
def sz : P → Nat
  | .p _ xs => 1 + szs xs
def szs : List P → Nat
  | [] => 0
  | x :: xs => sz x + szs xs
end
mutual
def pth : P → List (List Int)
  | .p _ xs => [] :: pths 0 xs
def pths : Nat → List P → List (List Int)
  | _, [] => []
  | n, x :: xs => (pth x).map (fun r => ((n : Nat) : Int) :: r) ++ pths (n + 1) xs
end
mutual
theorem pth_len : ∀ t : P, (pth t).length = sz t
  | .p _ xs => by rw [pth, List.length_cons, pths_len 0 xs, sz, Nat.add_comm]
theorem pths_len : ∀ (n : Nat) (xs : List P), (pths n xs).length = szs xs
  | _, [] => rfl
  | n, x :: xs => by rw [pths, List.length_append, List.length_map, pth_len x, pths_len (n + 1) xs, szs]
end
theorem szs_mem {xs : List P} {x : P} (h : x ∈ xs) : sz x ≤ szs xs := by
  induction xs with
  | nil => cases h
  | cons y ys ih =>
    rw [szs]
    rcases List.mem_cons.mp h with e | h
    · rw [e]; omega
    · have := ih h; omega
theorem len_szs (xs : List P) : xs.length ≤ szs xs := by
  induction xs with
  | nil => exact Nat.le_refl _
  | cons y ys ih =>
    rw [szs, List.length_cons]
    have : 1 ≤ sz y := by cases y; unfold sz; omega
    omega
theorem dp_le_sz : ∀ t : P, dp t ≤ sz t
  | .p _ xs => by
    unfold dp sz
    have : ∀ ys : List P, (∀ y ∈ ys, dp y ≤ sz y) → dps ys ≤ szs ys := by
      intro ys
      induction ys with
      | nil => intro _; exact Nat.le_refl _
      | cons y ys ih =>
        intro h
        unfold dps szs
        have h1 := h y List.mem_cons_self
        have h2 := ih fun z hz => h z (List.mem_cons_of_mem _ hz)
        omega
    have := this xs fun y hy => dp_le_sz y
    omega
end P
theorem sum_sz : ∀ xs : List P, (xs.map fun x => ((x.sz : Nat) : Int)).sum = ((P.szs xs : Nat) : Int)
  | [] => rfl
  | x :: xs => by rw [List.map_cons, List.sum_cons, sum_sz xs, P.szs]; omega
theorem d_terms_in : ∀ {n k : Nat} {t : P} {S : Sto} {Q : KE} {E : XE}, t.dp ≤ n → n + 1 ≤ k → t.sz ≤ 1000 → (∀ S', Ext S S' → Q (.int (t.sz : Nat)) S') → wC tab k "terms_in" [t.d] S Q E
  | n, k, t, S, Q, E, hn, hk, hz, hQ => by
    refine wd (fd := f_terms_in) (by omega) rfl rfl ?_
    unfold f_terms_in
    obtain ⟨i, xs⟩ := t
    have hn : 1 + P.dps xs ≤ n := hn
    have hz : 1 + P.szs xs ≤ 1000 := hz
    have hl := P.len_szs xs
    simp only [P.d]
    try simp (maxSteps := 2000000) only [startF, wSs, wS, wE, wL, wO, wB, wI, x_add, x_adds, x_addl, x_addt, x_sub, x_mul, x_mult, x_mull, x_fdv, x_mod, x_pow, x_auga, x_augs, x_augm, x_eqi, x_eqs, x_eqb, x_nei, x_nes, x_neb, x_eqtt, x_eqrr, x_eqtr, x_eqrt, x_eqst, x_eqts, x_nett, x_nerr, x_netr, x_nert, x_nest, x_nets, x_lt, x_le, x_gt, x_ge, x_ins, x_isn, x_isnt, x_ixt, x_ixl, x_ixd, x_ixs, x_slt, x_sll, x_sls, x_std, x_stl, x_isin, x_isis, x_isit, x_isii, x_isib, x_lens, x_lent, x_lenf, x_lenl, x_inti, x_intb, x_abs, x_max2, x_min2, x_maxl, x_minl, x_mxd, x_tupl, x_tupt, x_lisl, x_list, x_liss, x_all, x_any, x_sum, x_repr, x_app, x_ext, x_pop, x_popa, x_join, x_rcva, x_rcve, x_rcvp, x_rcvq, x_rcvj, x_srct, x_srcf, x_srcs, x_srcl, x_seqt, x_seql, x_enu, x_enut, x_zipl, x_zipt, x_rng1, x_rng2, x_tg1, x_tgt, x_tgl, x_var, x_put, x_ex, x_exv, x_exl, x_exl0, x_exd, x_exb, x_exi, x_dec, x_decf, x_ndec, x_ndecf, x_ty_str_str, x_ty_str_tuple, x_ty_str_int, x_ty_str_bool, x_ty_str_list, x_ty_str_dict, x_ty_str_list_tuple, x_ty_str_tuple_list, x_ty_str_str_tuple, x_ty_str_tuple_str, x_ty_str_int_bool, x_ty_str_bool_int, x_ty_str_str_int, x_ty_str_int_str, x_ty_tuple_str, x_ty_tuple_tuple, x_ty_tuple_int, x_ty_tuple_bool, x_ty_tuple_list, x_ty_tuple_dict, x_ty_tuple_list_tuple, x_ty_tuple_tuple_list, x_ty_tuple_str_tuple, x_ty_tuple_tuple_str, x_ty_tuple_int_bool, x_ty_tuple_bool_int, x_ty_tuple_str_int, x_ty_tuple_int_str, x_ty_int_str, x_ty_int_tuple, x_ty_int_int, x_ty_int_bool, x_ty_int_list, x_ty_int_dict, x_ty_int_list_tuple, x_ty_int_tuple_list, x_ty_int_str_tuple, x_ty_int_tuple_str, x_ty_int_int_bool, x_ty_int_bool_int, x_ty_int_str_int, x_ty_int_int_str, x_ty_bool_str, x_ty_bool_tuple, x_ty_bool_int, x_ty_bool_bool, x_ty_bool_list, x_ty_bool_dict, x_ty_bool_list_tuple, x_ty_bool_tuple_list, x_ty_bool_str_tuple, x_ty_bool_tuple_str, x_ty_bool_int_bool, x_ty_bool_bool_int, x_ty_bool_str_int, x_ty_bool_int_str, x_ty_list_str, x_ty_list_tuple, x_ty_list_int, x_ty_list_bool, x_ty_list_list, x_ty_list_dict, x_ty_list_list_tuple, x_ty_list_tuple_list, x_ty_list_str_tuple, x_ty_list_tuple_str, x_ty_list_int_bool, x_ty_list_bool_int, x_ty_list_str_int, x_ty_list_int_str, x_ty_dict_str, x_ty_dict_tuple, x_ty_dict_int, x_ty_dict_bool, x_ty_dict_list, x_ty_dict_dict, x_ty_dict_list_tuple, x_ty_dict_tuple_list, x_ty_dict_str_tuple, x_ty_dict_tuple_str, x_ty_dict_int_bool, x_ty_dict_bool_int, x_ty_dict_str_int, x_ty_dict_int_str, x_puto, x_puto', List.map_cons, List.map_nil, List.length_cons, List.length_nil, List.cons_append, List.nil_append, List.replicate, Nat.sub_zero, Nat.sub_self, Nat.zero_add, Nat.reduceAdd, Nat.reduceSub, List.getElem?_cons_zero, List.getElem?_cons_succ, List.set_cons_zero, List.set_cons_succ, setF, wipeF, true_and, and_true, if_true, if_false, Bool.true_eq_false, Bool.false_eq_true, ite_true, ite_false, reduceIte, not_true_eq_false, not_false_eq_true, Bool.not_true, Bool.not_false, exists_eq_left', exists_const, ne_eq]
    rw [cut_from1, P.ds_map]
    refine loop_map P.d (fun x => D.int ((x.sz : Nat) : Int)) (fun _ _ => trivial) xs (by omega) (fun x hx acc S1 N e1 ha hN => ?_) fun S1 e1 => ?_
    · have h1 := dps_mem hx
      have h2 := P.szs_mem hx
      refine d_terms_in (n := n - 1) (by omega) (by omega) (by omega) fun S2 e2 => ?_
      try simp (maxSteps := 2000000) only [startF, wSs, wS, wE, wL, wO, wB, wI, x_add, x_adds, x_addl, x_addt, x_sub, x_mul, x_mult, x_mull, x_fdv, x_mod, x_pow, x_auga, x_augs, x_augm, x_eqi, x_eqs, x_eqb, x_nei, x_nes, x_neb, x_eqtt, x_eqrr, x_eqtr, x_eqrt, x_eqst, x_eqts, x_nett, x_nerr, x_netr, x_nert, x_nest, x_nets, x_lt, x_le, x_gt, x_ge, x_ins, x_isn, x_isnt, x_ixt, x_ixl, x_ixd, x_ixs, x_slt, x_sll, x_sls, x_std, x_stl, x_isin, x_isis, x_isit, x_isii, x_isib, x_lens, x_lent, x_lenf, x_lenl, x_inti, x_intb, x_abs, x_max2, x_min2, x_maxl, x_minl, x_mxd, x_tupl, x_tupt, x_lisl, x_list, x_liss, x_all, x_any, x_sum, x_repr, x_app, x_ext, x_pop, x_popa, x_join, x_rcva, x_rcve, x_rcvp, x_rcvq, x_rcvj, x_srct, x_srcf, x_srcs, x_srcl, x_seqt, x_seql, x_enu, x_enut, x_zipl, x_zipt, x_rng1, x_rng2, x_tg1, x_tgt, x_tgl, x_var, x_put, x_ex, x_exv, x_exl, x_exl0, x_exd, x_exb, x_exi, x_dec, x_decf, x_ndec, x_ndecf, x_ty_str_str, x_ty_str_tuple, x_ty_str_int, x_ty_str_bool, x_ty_str_list, x_ty_str_dict, x_ty_str_list_tuple, x_ty_str_tuple_list, x_ty_str_str_tuple, x_ty_str_tuple_str, x_ty_str_int_bool, x_ty_str_bool_int, x_ty_str_str_int, x_ty_str_int_str, x_ty_tuple_str, x_ty_tuple_tuple, x_ty_tuple_int, x_ty_tuple_bool, x_ty_tuple_list, x_ty_tuple_dict, x_ty_tuple_list_tuple, x_ty_tuple_tuple_list, x_ty_tuple_str_tuple, x_ty_tuple_tuple_str, x_ty_tuple_int_bool, x_ty_tuple_bool_int, x_ty_tuple_str_int, x_ty_tuple_int_str, x_ty_int_str, x_ty_int_tuple, x_ty_int_int, x_ty_int_bool, x_ty_int_list, x_ty_int_dict, x_ty_int_list_tuple, x_ty_int_tuple_list, x_ty_int_str_tuple, x_ty_int_tuple_str, x_ty_int_int_bool, x_ty_int_bool_int, x_ty_int_str_int, x_ty_int_int_str, x_ty_bool_str, x_ty_bool_tuple, x_ty_bool_int, x_ty_bool_bool, x_ty_bool_list, x_ty_bool_dict, x_ty_bool_list_tuple, x_ty_bool_tuple_list, x_ty_bool_str_tuple, x_ty_bool_tuple_str, x_ty_bool_int_bool, x_ty_bool_bool_int, x_ty_bool_str_int, x_ty_bool_int_str, x_ty_list_str, x_ty_list_tuple, x_ty_list_int, x_ty_list_bool, x_ty_list_list, x_ty_list_dict, x_ty_list_list_tuple, x_ty_list_tuple_list, x_ty_list_str_tuple, x_ty_list_tuple_str, x_ty_list_int_bool, x_ty_list_bool_int, x_ty_list_str_int, x_ty_list_int_str, x_ty_dict_str, x_ty_dict_tuple, x_ty_dict_int, x_ty_dict_bool, x_ty_dict_list, x_ty_dict_dict, x_ty_dict_list_tuple, x_ty_dict_tuple_list, x_ty_dict_str_tuple, x_ty_dict_tuple_str, x_ty_dict_int_bool, x_ty_dict_bool_int, x_ty_dict_str_int, x_ty_dict_int_str, x_puto, x_puto', List.map_cons, List.map_nil, List.length_cons, List.length_nil, List.cons_append, List.nil_append, List.replicate, Nat.sub_zero, Nat.sub_self, Nat.zero_add, Nat.reduceAdd, Nat.reduceSub, List.getElem?_cons_zero, List.getElem?_cons_succ, List.set_cons_zero, List.set_cons_succ, setF, wipeF, true_and, and_true, if_true, if_false, Bool.true_eq_false, Bool.false_eq_true, ite_true, ite_false, reduceIte, not_true_eq_false, not_false_eq_true, Bool.not_true, Bool.not_false, exists_eq_left', exists_const, ne_eq]
      exact ⟨ha, hN S2 e2⟩
    · try simp (maxSteps := 2000000) only [startF, wSs, wS, wE, wL, wO, wB, wI, x_add, x_adds, x_addl, x_addt, x_sub, x_mul, x_mult, x_mull, x_fdv, x_mod, x_pow, x_auga, x_augs, x_augm, x_eqi, x_eqs, x_eqb, x_nei, x_nes, x_neb, x_eqtt, x_eqrr, x_eqtr, x_eqrt, x_eqst, x_eqts, x_nett, x_nerr, x_netr, x_nert, x_nest, x_nets, x_lt, x_le, x_gt, x_ge, x_ins, x_isn, x_isnt, x_ixt, x_ixl, x_ixd, x_ixs, x_slt, x_sll, x_sls, x_std, x_stl, x_isin, x_isis, x_isit, x_isii, x_isib, x_lens, x_lent, x_lenf, x_lenl, x_inti, x_intb, x_abs, x_max2, x_min2, x_maxl, x_minl, x_mxd, x_tupl, x_tupt, x_lisl, x_list, x_liss, x_all, x_any, x_sum, x_repr, x_app, x_ext, x_pop, x_popa, x_join, x_rcva, x_rcve, x_rcvp, x_rcvq, x_rcvj, x_srct, x_srcf, x_srcs, x_srcl, x_seqt, x_seql, x_enu, x_enut, x_zipl, x_zipt, x_rng1, x_rng2, x_tg1, x_tgt, x_tgl, x_var, x_put, x_ex, x_exv, x_exl, x_exl0, x_exd, x_exb, x_exi, x_dec, x_decf, x_ndec, x_ndecf, x_ty_str_str, x_ty_str_tuple, x_ty_str_int, x_ty_str_bool, x_ty_str_list, x_ty_str_dict, x_ty_str_list_tuple, x_ty_str_tuple_list, x_ty_str_str_tuple, x_ty_str_tuple_str, x_ty_str_int_bool, x_ty_str_bool_int, x_ty_str_str_int, x_ty_str_int_str, x_ty_tuple_str, x_ty_tuple_tuple, x_ty_tuple_int, x_ty_tuple_bool, x_ty_tuple_list, x_ty_tuple_dict, x_ty_tuple_list_tuple, x_ty_tuple_tuple_list, x_ty_tuple_str_tuple, x_ty_tuple_tuple_str, x_ty_tuple_int_bool, x_ty_tuple_bool_int, x_ty_tuple_str_int, x_ty_tuple_int_str, x_ty_int_str, x_ty_int_tuple, x_ty_int_int, x_ty_int_bool, x_ty_int_list, x_ty_int_dict, x_ty_int_list_tuple, x_ty_int_tuple_list, x_ty_int_str_tuple, x_ty_int_tuple_str, x_ty_int_int_bool, x_ty_int_bool_int, x_ty_int_str_int, x_ty_int_int_str, x_ty_bool_str, x_ty_bool_tuple, x_ty_bool_int, x_ty_bool_bool, x_ty_bool_list, x_ty_bool_dict, x_ty_bool_list_tuple, x_ty_bool_tuple_list, x_ty_bool_str_tuple, x_ty_bool_tuple_str, x_ty_bool_int_bool, x_ty_bool_bool_int, x_ty_bool_str_int, x_ty_bool_int_str, x_ty_list_str, x_ty_list_tuple, x_ty_list_int, x_ty_list_bool, x_ty_list_list, x_ty_list_dict, x_ty_list_list_tuple, x_ty_list_tuple_list, x_ty_list_str_tuple, x_ty_list_tuple_str, x_ty_list_int_bool, x_ty_list_bool_int, x_ty_list_str_int, x_ty_list_int_str, x_ty_dict_str, x_ty_dict_tuple, x_ty_dict_int, x_ty_dict_bool, x_ty_dict_list, x_ty_dict_dict, x_ty_dict_list_tuple, x_ty_dict_tuple_list, x_ty_dict_str_tuple, x_ty_dict_tuple_str, x_ty_dict_int_bool, x_ty_dict_bool_int, x_ty_dict_str_int, x_ty_dict_int_str, x_puto, x_puto', List.map_cons, List.map_nil, List.length_cons, List.length_nil, List.cons_append, List.nil_append, List.replicate, Nat.sub_zero, Nat.sub_self, Nat.zero_add, Nat.reduceAdd, Nat.reduceSub, List.getElem?_cons_zero, List.getElem?_cons_succ, List.set_cons_zero, List.set_cons_succ, setF, wipeF, true_and, and_true, if_true, if_false, Bool.true_eq_false, Bool.false_eq_true, ite_true, ite_false, reduceIte, not_true_eq_false, not_false_eq_true, Bool.not_true, Bool.not_false, exists_eq_left', exists_const, ne_eq]
      intro p hp
      refine ⟨_, intsB_map (fun x : P => ((x.sz : Nat) : Int)) _, ?_⟩
      rw [sum_sz]
      have q := hQ _ (e1.trans (Ext.new (o := .lst (xs.map fun x => D.int ((x.sz : Nat) : Int))) hp))
      have eo : (((P.p i xs).sz : Nat) : Int) = 1 + ((P.szs xs : Nat) : Int) := by rw [P.sz]; omega
      rw [eo] at q
      exact q
  termination_by n => n
  decreasing_by omega
theorem d_size_of {k : Nat} {t : T} {p : P} {S : Sto} {Q : KE} {E : XE} (hk : p.dp + 11 ≤ k) (hl : p.sz ≤ 1000) (ht : kindB t = true) (hp : prB t p = true) (hQ : ∀ S', Ext S S' → Q (.int (p.sz : Nat)) S') : wC tab k "size_of" [t.d, p.d] S Q E := by
  refine wd (fd := f_size_of) (by omega) rfl rfl ?_
  unfold f_size_of
  have := P.dp_le_sz p
  try simp (maxSteps := 2000000) only [startF, wSs, wS, wE, wL, wO, wB, wI, x_add, x_adds, x_addl, x_addt, x_sub, x_mul, x_mult, x_mull, x_fdv, x_mod, x_pow, x_auga, x_augs, x_augm, x_eqi, x_eqs, x_eqb, x_nei, x_nes, x_neb, x_eqtt, x_eqrr, x_eqtr, x_eqrt, x_eqst, x_eqts, x_nett, x_nerr, x_netr, x_nert, x_nest, x_nets, x_lt, x_le, x_gt, x_ge, x_ins, x_isn, x_isnt, x_ixt, x_ixl, x_ixd, x_ixs, x_slt, x_sll, x_sls, x_std, x_stl, x_isin, x_isis, x_isit, x_isii, x_isib, x_lens, x_lent, x_lenf, x_lenl, x_inti, x_intb, x_abs, x_max2, x_min2, x_maxl, x_minl, x_mxd, x_tupl, x_tupt, x_lisl, x_list, x_liss, x_all, x_any, x_sum, x_repr, x_app, x_ext, x_pop, x_popa, x_join, x_rcva, x_rcve, x_rcvp, x_rcvq, x_rcvj, x_srct, x_srcf, x_srcs, x_srcl, x_seqt, x_seql, x_enu, x_enut, x_zipl, x_zipt, x_rng1, x_rng2, x_tg1, x_tgt, x_tgl, x_var, x_put, x_ex, x_exv, x_exl, x_exl0, x_exd, x_exb, x_exi, x_dec, x_decf, x_ndec, x_ndecf, x_ty_str_str, x_ty_str_tuple, x_ty_str_int, x_ty_str_bool, x_ty_str_list, x_ty_str_dict, x_ty_str_list_tuple, x_ty_str_tuple_list, x_ty_str_str_tuple, x_ty_str_tuple_str, x_ty_str_int_bool, x_ty_str_bool_int, x_ty_str_str_int, x_ty_str_int_str, x_ty_tuple_str, x_ty_tuple_tuple, x_ty_tuple_int, x_ty_tuple_bool, x_ty_tuple_list, x_ty_tuple_dict, x_ty_tuple_list_tuple, x_ty_tuple_tuple_list, x_ty_tuple_str_tuple, x_ty_tuple_tuple_str, x_ty_tuple_int_bool, x_ty_tuple_bool_int, x_ty_tuple_str_int, x_ty_tuple_int_str, x_ty_int_str, x_ty_int_tuple, x_ty_int_int, x_ty_int_bool, x_ty_int_list, x_ty_int_dict, x_ty_int_list_tuple, x_ty_int_tuple_list, x_ty_int_str_tuple, x_ty_int_tuple_str, x_ty_int_int_bool, x_ty_int_bool_int, x_ty_int_str_int, x_ty_int_int_str, x_ty_bool_str, x_ty_bool_tuple, x_ty_bool_int, x_ty_bool_bool, x_ty_bool_list, x_ty_bool_dict, x_ty_bool_list_tuple, x_ty_bool_tuple_list, x_ty_bool_str_tuple, x_ty_bool_tuple_str, x_ty_bool_int_bool, x_ty_bool_bool_int, x_ty_bool_str_int, x_ty_bool_int_str, x_ty_list_str, x_ty_list_tuple, x_ty_list_int, x_ty_list_bool, x_ty_list_list, x_ty_list_dict, x_ty_list_list_tuple, x_ty_list_tuple_list, x_ty_list_str_tuple, x_ty_list_tuple_str, x_ty_list_int_bool, x_ty_list_bool_int, x_ty_list_str_int, x_ty_list_int_str, x_ty_dict_str, x_ty_dict_tuple, x_ty_dict_int, x_ty_dict_bool, x_ty_dict_list, x_ty_dict_dict, x_ty_dict_list_tuple, x_ty_dict_tuple_list, x_ty_dict_str_tuple, x_ty_dict_tuple_str, x_ty_dict_int_bool, x_ty_dict_bool_int, x_ty_dict_str_int, x_ty_dict_int_str, x_puto, x_puto', List.map_cons, List.map_nil, List.length_cons, List.length_nil, List.cons_append, List.nil_append, List.replicate, Nat.sub_zero, Nat.sub_self, Nat.zero_add, Nat.reduceAdd, Nat.reduceSub, List.getElem?_cons_zero, List.getElem?_cons_succ, List.set_cons_zero, List.set_cons_succ, setF, wipeF, true_and, and_true, if_true, if_false, Bool.true_eq_false, Bool.false_eq_true, ite_true, ite_false, reduceIte, not_true_eq_false, not_false_eq_true, Bool.not_true, Bool.not_false, exists_eq_left', exists_const, ne_eq]
  refine d_need_program (by omega) (by omega) ht hp fun S1 e1 => ?_
  try simp (maxSteps := 2000000) only [startF, wSs, wS, wE, wL, wO, wB, wI, x_add, x_adds, x_addl, x_addt, x_sub, x_mul, x_mult, x_mull, x_fdv, x_mod, x_pow, x_auga, x_augs, x_augm, x_eqi, x_eqs, x_eqb, x_nei, x_nes, x_neb, x_eqtt, x_eqrr, x_eqtr, x_eqrt, x_eqst, x_eqts, x_nett, x_nerr, x_netr, x_nert, x_nest, x_nets, x_lt, x_le, x_gt, x_ge, x_ins, x_isn, x_isnt, x_ixt, x_ixl, x_ixd, x_ixs, x_slt, x_sll, x_sls, x_std, x_stl, x_isin, x_isis, x_isit, x_isii, x_isib, x_lens, x_lent, x_lenf, x_lenl, x_inti, x_intb, x_abs, x_max2, x_min2, x_maxl, x_minl, x_mxd, x_tupl, x_tupt, x_lisl, x_list, x_liss, x_all, x_any, x_sum, x_repr, x_app, x_ext, x_pop, x_popa, x_join, x_rcva, x_rcve, x_rcvp, x_rcvq, x_rcvj, x_srct, x_srcf, x_srcs, x_srcl, x_seqt, x_seql, x_enu, x_enut, x_zipl, x_zipt, x_rng1, x_rng2, x_tg1, x_tgt, x_tgl, x_var, x_put, x_ex, x_exv, x_exl, x_exl0, x_exd, x_exb, x_exi, x_dec, x_decf, x_ndec, x_ndecf, x_ty_str_str, x_ty_str_tuple, x_ty_str_int, x_ty_str_bool, x_ty_str_list, x_ty_str_dict, x_ty_str_list_tuple, x_ty_str_tuple_list, x_ty_str_str_tuple, x_ty_str_tuple_str, x_ty_str_int_bool, x_ty_str_bool_int, x_ty_str_str_int, x_ty_str_int_str, x_ty_tuple_str, x_ty_tuple_tuple, x_ty_tuple_int, x_ty_tuple_bool, x_ty_tuple_list, x_ty_tuple_dict, x_ty_tuple_list_tuple, x_ty_tuple_tuple_list, x_ty_tuple_str_tuple, x_ty_tuple_tuple_str, x_ty_tuple_int_bool, x_ty_tuple_bool_int, x_ty_tuple_str_int, x_ty_tuple_int_str, x_ty_int_str, x_ty_int_tuple, x_ty_int_int, x_ty_int_bool, x_ty_int_list, x_ty_int_dict, x_ty_int_list_tuple, x_ty_int_tuple_list, x_ty_int_str_tuple, x_ty_int_tuple_str, x_ty_int_int_bool, x_ty_int_bool_int, x_ty_int_str_int, x_ty_int_int_str, x_ty_bool_str, x_ty_bool_tuple, x_ty_bool_int, x_ty_bool_bool, x_ty_bool_list, x_ty_bool_dict, x_ty_bool_list_tuple, x_ty_bool_tuple_list, x_ty_bool_str_tuple, x_ty_bool_tuple_str, x_ty_bool_int_bool, x_ty_bool_bool_int, x_ty_bool_str_int, x_ty_bool_int_str, x_ty_list_str, x_ty_list_tuple, x_ty_list_int, x_ty_list_bool, x_ty_list_list, x_ty_list_dict, x_ty_list_list_tuple, x_ty_list_tuple_list, x_ty_list_str_tuple, x_ty_list_tuple_str, x_ty_list_int_bool, x_ty_list_bool_int, x_ty_list_str_int, x_ty_list_int_str, x_ty_dict_str, x_ty_dict_tuple, x_ty_dict_int, x_ty_dict_bool, x_ty_dict_list, x_ty_dict_dict, x_ty_dict_list_tuple, x_ty_dict_tuple_list, x_ty_dict_str_tuple, x_ty_dict_tuple_str, x_ty_dict_int_bool, x_ty_dict_bool_int, x_ty_dict_str_int, x_ty_dict_int_str, x_puto, x_puto', List.map_cons, List.map_nil, List.length_cons, List.length_nil, List.cons_append, List.nil_append, List.replicate, Nat.sub_zero, Nat.sub_self, Nat.zero_add, Nat.reduceAdd, Nat.reduceSub, List.getElem?_cons_zero, List.getElem?_cons_succ, List.set_cons_zero, List.set_cons_succ, setF, wipeF, true_and, and_true, if_true, if_false, Bool.true_eq_false, Bool.false_eq_true, ite_true, ite_false, reduceIte, not_true_eq_false, not_false_eq_true, Bool.not_true, Bool.not_false, exists_eq_left', exists_const, ne_eq]
  exact d_terms_in (n := p.dp) (Nat.le_refl _) (by omega) hl fun S2 e2 => hQ S2 (e1.trans e2)
theorem P.dps_in : ∀ {xs : List P}, xs ≠ [] → ∃ x ∈ xs, x.dp = P.dps xs
  | [], h => absurd rfl h
  | x :: xs, _ => by
    by_cases hx : xs = []
    · subst hx
      exact ⟨x, List.mem_cons_self, by show x.dp = max x.dp 0; omega⟩
    · obtain ⟨y, hy, e⟩ := P.dps_in hx
      by_cases h : x.dp ≤ P.dps xs
      · exact ⟨y, List.mem_cons_of_mem _ hy, by rw [P.dps, e]; omega⟩
      · exact ⟨x, List.mem_cons_self, by rw [P.dps]; omega⟩
theorem d_deep_in : ∀ {n k : Nat} {t : P} {S : Sto} {Q : KE} {E : XE}, t.dp ≤ n → n + 1 ≤ k → t.sz ≤ 1000 → (∀ S', Ext S S' → Q (.int (t.dp : Nat)) S') → wC tab k "deep_in" [t.d] S Q E
  | n, k, t, S, Q, E, hn, hk, hz, hQ => by
    refine wd (fd := f_deep_in) (by omega) rfl rfl ?_
    unfold f_deep_in
    obtain ⟨i, xs⟩ := t
    have hn : 1 + P.dps xs ≤ n := hn
    have hz : 1 + P.szs xs ≤ 1000 := hz
    have hl := P.len_szs xs
    simp only [P.d]
    try simp (maxSteps := 2000000) only [startF, wSs, wS, wE, wL, wO, wB, wI, x_add, x_adds, x_addl, x_addt, x_sub, x_mul, x_mult, x_mull, x_fdv, x_mod, x_pow, x_auga, x_augs, x_augm, x_eqi, x_eqs, x_eqb, x_nei, x_nes, x_neb, x_eqtt, x_eqrr, x_eqtr, x_eqrt, x_eqst, x_eqts, x_nett, x_nerr, x_netr, x_nert, x_nest, x_nets, x_lt, x_le, x_gt, x_ge, x_ins, x_isn, x_isnt, x_ixt, x_ixl, x_ixd, x_ixs, x_slt, x_sll, x_sls, x_std, x_stl, x_isin, x_isis, x_isit, x_isii, x_isib, x_lens, x_lent, x_lenf, x_lenl, x_inti, x_intb, x_abs, x_max2, x_min2, x_maxl, x_minl, x_mxd, x_tupl, x_tupt, x_lisl, x_list, x_liss, x_all, x_any, x_sum, x_repr, x_app, x_ext, x_pop, x_popa, x_join, x_rcva, x_rcve, x_rcvp, x_rcvq, x_rcvj, x_srct, x_srcf, x_srcs, x_srcl, x_seqt, x_seql, x_enu, x_enut, x_zipl, x_zipt, x_rng1, x_rng2, x_tg1, x_tgt, x_tgl, x_var, x_put, x_ex, x_exv, x_exl, x_exl0, x_exd, x_exb, x_exi, x_dec, x_decf, x_ndec, x_ndecf, x_ty_str_str, x_ty_str_tuple, x_ty_str_int, x_ty_str_bool, x_ty_str_list, x_ty_str_dict, x_ty_str_list_tuple, x_ty_str_tuple_list, x_ty_str_str_tuple, x_ty_str_tuple_str, x_ty_str_int_bool, x_ty_str_bool_int, x_ty_str_str_int, x_ty_str_int_str, x_ty_tuple_str, x_ty_tuple_tuple, x_ty_tuple_int, x_ty_tuple_bool, x_ty_tuple_list, x_ty_tuple_dict, x_ty_tuple_list_tuple, x_ty_tuple_tuple_list, x_ty_tuple_str_tuple, x_ty_tuple_tuple_str, x_ty_tuple_int_bool, x_ty_tuple_bool_int, x_ty_tuple_str_int, x_ty_tuple_int_str, x_ty_int_str, x_ty_int_tuple, x_ty_int_int, x_ty_int_bool, x_ty_int_list, x_ty_int_dict, x_ty_int_list_tuple, x_ty_int_tuple_list, x_ty_int_str_tuple, x_ty_int_tuple_str, x_ty_int_int_bool, x_ty_int_bool_int, x_ty_int_str_int, x_ty_int_int_str, x_ty_bool_str, x_ty_bool_tuple, x_ty_bool_int, x_ty_bool_bool, x_ty_bool_list, x_ty_bool_dict, x_ty_bool_list_tuple, x_ty_bool_tuple_list, x_ty_bool_str_tuple, x_ty_bool_tuple_str, x_ty_bool_int_bool, x_ty_bool_bool_int, x_ty_bool_str_int, x_ty_bool_int_str, x_ty_list_str, x_ty_list_tuple, x_ty_list_int, x_ty_list_bool, x_ty_list_list, x_ty_list_dict, x_ty_list_list_tuple, x_ty_list_tuple_list, x_ty_list_str_tuple, x_ty_list_tuple_str, x_ty_list_int_bool, x_ty_list_bool_int, x_ty_list_str_int, x_ty_list_int_str, x_ty_dict_str, x_ty_dict_tuple, x_ty_dict_int, x_ty_dict_bool, x_ty_dict_list, x_ty_dict_dict, x_ty_dict_list_tuple, x_ty_dict_tuple_list, x_ty_dict_str_tuple, x_ty_dict_tuple_str, x_ty_dict_int_bool, x_ty_dict_bool_int, x_ty_dict_str_int, x_ty_dict_int_str, x_puto, x_puto', List.map_cons, List.map_nil, List.length_cons, List.length_nil, List.cons_append, List.nil_append, List.replicate, Nat.sub_zero, Nat.sub_self, Nat.zero_add, Nat.reduceAdd, Nat.reduceSub, List.getElem?_cons_zero, List.getElem?_cons_succ, List.set_cons_zero, List.set_cons_succ, setF, wipeF, true_and, and_true, if_true, if_false, Bool.true_eq_false, Bool.false_eq_true, ite_true, ite_false, reduceIte, not_true_eq_false, not_false_eq_true, Bool.not_true, Bool.not_false, exists_eq_left', exists_const, ne_eq]
    rw [cut_from1, P.ds_map]
    refine loop_map P.d (fun x => D.int ((x.dp : Nat) : Int)) (fun _ _ => trivial) xs (by omega) (fun x hx acc S1 N e1 ha hN => ?_) fun S1 e1 => ?_
    · have h1 := dps_mem hx
      have h2 := P.szs_mem hx
      refine d_deep_in (n := n - 1) (by omega) (by omega) (by omega) fun S2 e2 => ?_
      try simp (maxSteps := 2000000) only [startF, wSs, wS, wE, wL, wO, wB, wI, x_add, x_adds, x_addl, x_addt, x_sub, x_mul, x_mult, x_mull, x_fdv, x_mod, x_pow, x_auga, x_augs, x_augm, x_eqi, x_eqs, x_eqb, x_nei, x_nes, x_neb, x_eqtt, x_eqrr, x_eqtr, x_eqrt, x_eqst, x_eqts, x_nett, x_nerr, x_netr, x_nert, x_nest, x_nets, x_lt, x_le, x_gt, x_ge, x_ins, x_isn, x_isnt, x_ixt, x_ixl, x_ixd, x_ixs, x_slt, x_sll, x_sls, x_std, x_stl, x_isin, x_isis, x_isit, x_isii, x_isib, x_lens, x_lent, x_lenf, x_lenl, x_inti, x_intb, x_abs, x_max2, x_min2, x_maxl, x_minl, x_mxd, x_tupl, x_tupt, x_lisl, x_list, x_liss, x_all, x_any, x_sum, x_repr, x_app, x_ext, x_pop, x_popa, x_join, x_rcva, x_rcve, x_rcvp, x_rcvq, x_rcvj, x_srct, x_srcf, x_srcs, x_srcl, x_seqt, x_seql, x_enu, x_enut, x_zipl, x_zipt, x_rng1, x_rng2, x_tg1, x_tgt, x_tgl, x_var, x_put, x_ex, x_exv, x_exl, x_exl0, x_exd, x_exb, x_exi, x_dec, x_decf, x_ndec, x_ndecf, x_ty_str_str, x_ty_str_tuple, x_ty_str_int, x_ty_str_bool, x_ty_str_list, x_ty_str_dict, x_ty_str_list_tuple, x_ty_str_tuple_list, x_ty_str_str_tuple, x_ty_str_tuple_str, x_ty_str_int_bool, x_ty_str_bool_int, x_ty_str_str_int, x_ty_str_int_str, x_ty_tuple_str, x_ty_tuple_tuple, x_ty_tuple_int, x_ty_tuple_bool, x_ty_tuple_list, x_ty_tuple_dict, x_ty_tuple_list_tuple, x_ty_tuple_tuple_list, x_ty_tuple_str_tuple, x_ty_tuple_tuple_str, x_ty_tuple_int_bool, x_ty_tuple_bool_int, x_ty_tuple_str_int, x_ty_tuple_int_str, x_ty_int_str, x_ty_int_tuple, x_ty_int_int, x_ty_int_bool, x_ty_int_list, x_ty_int_dict, x_ty_int_list_tuple, x_ty_int_tuple_list, x_ty_int_str_tuple, x_ty_int_tuple_str, x_ty_int_int_bool, x_ty_int_bool_int, x_ty_int_str_int, x_ty_int_int_str, x_ty_bool_str, x_ty_bool_tuple, x_ty_bool_int, x_ty_bool_bool, x_ty_bool_list, x_ty_bool_dict, x_ty_bool_list_tuple, x_ty_bool_tuple_list, x_ty_bool_str_tuple, x_ty_bool_tuple_str, x_ty_bool_int_bool, x_ty_bool_bool_int, x_ty_bool_str_int, x_ty_bool_int_str, x_ty_list_str, x_ty_list_tuple, x_ty_list_int, x_ty_list_bool, x_ty_list_list, x_ty_list_dict, x_ty_list_list_tuple, x_ty_list_tuple_list, x_ty_list_str_tuple, x_ty_list_tuple_str, x_ty_list_int_bool, x_ty_list_bool_int, x_ty_list_str_int, x_ty_list_int_str, x_ty_dict_str, x_ty_dict_tuple, x_ty_dict_int, x_ty_dict_bool, x_ty_dict_list, x_ty_dict_dict, x_ty_dict_list_tuple, x_ty_dict_tuple_list, x_ty_dict_str_tuple, x_ty_dict_tuple_str, x_ty_dict_int_bool, x_ty_dict_bool_int, x_ty_dict_str_int, x_ty_dict_int_str, x_puto, x_puto', List.map_cons, List.map_nil, List.length_cons, List.length_nil, List.cons_append, List.nil_append, List.replicate, Nat.sub_zero, Nat.sub_self, Nat.zero_add, Nat.reduceAdd, Nat.reduceSub, List.getElem?_cons_zero, List.getElem?_cons_succ, List.set_cons_zero, List.set_cons_succ, setF, wipeF, true_and, and_true, if_true, if_false, Bool.true_eq_false, Bool.false_eq_true, ite_true, ite_false, reduceIte, not_true_eq_false, not_false_eq_true, Bool.not_true, Bool.not_false, exists_eq_left', exists_const, ne_eq]
      exact ⟨ha, hN S2 e2⟩
    · try simp (maxSteps := 2000000) only [startF, wSs, wS, wE, wL, wO, wB, wI, x_add, x_adds, x_addl, x_addt, x_sub, x_mul, x_mult, x_mull, x_fdv, x_mod, x_pow, x_auga, x_augs, x_augm, x_eqi, x_eqs, x_eqb, x_nei, x_nes, x_neb, x_eqtt, x_eqrr, x_eqtr, x_eqrt, x_eqst, x_eqts, x_nett, x_nerr, x_netr, x_nert, x_nest, x_nets, x_lt, x_le, x_gt, x_ge, x_ins, x_isn, x_isnt, x_ixt, x_ixl, x_ixd, x_ixs, x_slt, x_sll, x_sls, x_std, x_stl, x_isin, x_isis, x_isit, x_isii, x_isib, x_lens, x_lent, x_lenf, x_lenl, x_inti, x_intb, x_abs, x_max2, x_min2, x_maxl, x_minl, x_mxd, x_tupl, x_tupt, x_lisl, x_list, x_liss, x_all, x_any, x_sum, x_repr, x_app, x_ext, x_pop, x_popa, x_join, x_rcva, x_rcve, x_rcvp, x_rcvq, x_rcvj, x_srct, x_srcf, x_srcs, x_srcl, x_seqt, x_seql, x_enu, x_enut, x_zipl, x_zipt, x_rng1, x_rng2, x_tg1, x_tgt, x_tgl, x_var, x_put, x_ex, x_exv, x_exl, x_exl0, x_exd, x_exb, x_exi, x_dec, x_decf, x_ndec, x_ndecf, x_ty_str_str, x_ty_str_tuple, x_ty_str_int, x_ty_str_bool, x_ty_str_list, x_ty_str_dict, x_ty_str_list_tuple, x_ty_str_tuple_list, x_ty_str_str_tuple, x_ty_str_tuple_str, x_ty_str_int_bool, x_ty_str_bool_int, x_ty_str_str_int, x_ty_str_int_str, x_ty_tuple_str, x_ty_tuple_tuple, x_ty_tuple_int, x_ty_tuple_bool, x_ty_tuple_list, x_ty_tuple_dict, x_ty_tuple_list_tuple, x_ty_tuple_tuple_list, x_ty_tuple_str_tuple, x_ty_tuple_tuple_str, x_ty_tuple_int_bool, x_ty_tuple_bool_int, x_ty_tuple_str_int, x_ty_tuple_int_str, x_ty_int_str, x_ty_int_tuple, x_ty_int_int, x_ty_int_bool, x_ty_int_list, x_ty_int_dict, x_ty_int_list_tuple, x_ty_int_tuple_list, x_ty_int_str_tuple, x_ty_int_tuple_str, x_ty_int_int_bool, x_ty_int_bool_int, x_ty_int_str_int, x_ty_int_int_str, x_ty_bool_str, x_ty_bool_tuple, x_ty_bool_int, x_ty_bool_bool, x_ty_bool_list, x_ty_bool_dict, x_ty_bool_list_tuple, x_ty_bool_tuple_list, x_ty_bool_str_tuple, x_ty_bool_tuple_str, x_ty_bool_int_bool, x_ty_bool_bool_int, x_ty_bool_str_int, x_ty_bool_int_str, x_ty_list_str, x_ty_list_tuple, x_ty_list_int, x_ty_list_bool, x_ty_list_list, x_ty_list_dict, x_ty_list_list_tuple, x_ty_list_tuple_list, x_ty_list_str_tuple, x_ty_list_tuple_str, x_ty_list_int_bool, x_ty_list_bool_int, x_ty_list_str_int, x_ty_list_int_str, x_ty_dict_str, x_ty_dict_tuple, x_ty_dict_int, x_ty_dict_bool, x_ty_dict_list, x_ty_dict_dict, x_ty_dict_list_tuple, x_ty_dict_tuple_list, x_ty_dict_str_tuple, x_ty_dict_tuple_str, x_ty_dict_int_bool, x_ty_dict_bool_int, x_ty_dict_str_int, x_ty_dict_int_str, x_puto, x_puto', List.map_cons, List.map_nil, List.length_cons, List.length_nil, List.cons_append, List.nil_append, List.replicate, Nat.sub_zero, Nat.sub_self, Nat.zero_add, Nat.reduceAdd, Nat.reduceSub, List.getElem?_cons_zero, List.getElem?_cons_succ, List.set_cons_zero, List.set_cons_succ, setF, wipeF, true_and, and_true, if_true, if_false, Bool.true_eq_false, Bool.false_eq_true, ite_true, ite_false, reduceIte, not_true_eq_false, not_false_eq_true, Bool.not_true, Bool.not_false, exists_eq_left', exists_const, ne_eq]
      intro p hp
      have q := hQ _ (e1.trans (Ext.new (o := .lst (xs.map fun x => D.int ((x.dp : Nat) : Int))) hp))
      have eo : (((P.p i xs).dp : Nat) : Int) = 1 + ((P.dps xs : Nat) : Int) := by rw [P.dp]; omega
      rw [eo] at q
      refine ⟨_, intsB_map (fun x : P => ((x.dp : Nat) : Int)) _, fun h0 => ?_, fun h0 m hm hmax => ?_⟩
      · have x0 : xs = [] := List.map_eq_nil_iff.mp h0
        subst x0
        exact q
      · have hne : xs ≠ [] := fun x0 => h0 (by rw [x0]; rfl)
        have em : m = ((P.dps xs : Nat) : Int) := by
          obtain ⟨x, hx, rfl⟩ := List.mem_map.mp hm
          obtain ⟨y, hy, e⟩ := P.dps_in hne
          have h1 := hmax _ (List.mem_map_of_mem (f := fun x : P => ((x.dp : Nat) : Int)) hy)
          have h2 := dps_mem hx
          omega
        rw [em]
        exact q
  termination_by n => n
  decreasing_by omega
theorem d_depth_of {k : Nat} {t : T} {p : P} {S : Sto} {Q : KE} {E : XE} (hk : p.dp + 11 ≤ k) (hl : p.sz ≤ 1000) (ht : kindB t = true) (hp : prB t p = true) (hQ : ∀ S', Ext S S' → Q (.int (p.dp : Nat)) S') : wC tab k "depth_of" [t.d, p.d] S Q E := by
  refine wd (fd := f_depth_of) (by omega) rfl rfl ?_
  unfold f_depth_of
  have := P.dp_le_sz p
  try simp (maxSteps := 2000000) only [startF, wSs, wS, wE, wL, wO, wB, wI, x_add, x_adds, x_addl, x_addt, x_sub, x_mul, x_mult, x_mull, x_fdv, x_mod, x_pow, x_auga, x_augs, x_augm, x_eqi, x_eqs, x_eqb, x_nei, x_nes, x_neb, x_eqtt, x_eqrr, x_eqtr, x_eqrt, x_eqst, x_eqts, x_nett, x_nerr, x_netr, x_nert, x_nest, x_nets, x_lt, x_le, x_gt, x_ge, x_ins, x_isn, x_isnt, x_ixt, x_ixl, x_ixd, x_ixs, x_slt, x_sll, x_sls, x_std, x_stl, x_isin, x_isis, x_isit, x_isii, x_isib, x_lens, x_lent, x_lenf, x_lenl, x_inti, x_intb, x_abs, x_max2, x_min2, x_maxl, x_minl, x_mxd, x_tupl, x_tupt, x_lisl, x_list, x_liss, x_all, x_any, x_sum, x_repr, x_app, x_ext, x_pop, x_popa, x_join, x_rcva, x_rcve, x_rcvp, x_rcvq, x_rcvj, x_srct, x_srcf, x_srcs, x_srcl, x_seqt, x_seql, x_enu, x_enut, x_zipl, x_zipt, x_rng1, x_rng2, x_tg1, x_tgt, x_tgl, x_var, x_put, x_ex, x_exv, x_exl, x_exl0, x_exd, x_exb, x_exi, x_dec, x_decf, x_ndec, x_ndecf, x_ty_str_str, x_ty_str_tuple, x_ty_str_int, x_ty_str_bool, x_ty_str_list, x_ty_str_dict, x_ty_str_list_tuple, x_ty_str_tuple_list, x_ty_str_str_tuple, x_ty_str_tuple_str, x_ty_str_int_bool, x_ty_str_bool_int, x_ty_str_str_int, x_ty_str_int_str, x_ty_tuple_str, x_ty_tuple_tuple, x_ty_tuple_int, x_ty_tuple_bool, x_ty_tuple_list, x_ty_tuple_dict, x_ty_tuple_list_tuple, x_ty_tuple_tuple_list, x_ty_tuple_str_tuple, x_ty_tuple_tuple_str, x_ty_tuple_int_bool, x_ty_tuple_bool_int, x_ty_tuple_str_int, x_ty_tuple_int_str, x_ty_int_str, x_ty_int_tuple, x_ty_int_int, x_ty_int_bool, x_ty_int_list, x_ty_int_dict, x_ty_int_list_tuple, x_ty_int_tuple_list, x_ty_int_str_tuple, x_ty_int_tuple_str, x_ty_int_int_bool, x_ty_int_bool_int, x_ty_int_str_int, x_ty_int_int_str, x_ty_bool_str, x_ty_bool_tuple, x_ty_bool_int, x_ty_bool_bool, x_ty_bool_list, x_ty_bool_dict, x_ty_bool_list_tuple, x_ty_bool_tuple_list, x_ty_bool_str_tuple, x_ty_bool_tuple_str, x_ty_bool_int_bool, x_ty_bool_bool_int, x_ty_bool_str_int, x_ty_bool_int_str, x_ty_list_str, x_ty_list_tuple, x_ty_list_int, x_ty_list_bool, x_ty_list_list, x_ty_list_dict, x_ty_list_list_tuple, x_ty_list_tuple_list, x_ty_list_str_tuple, x_ty_list_tuple_str, x_ty_list_int_bool, x_ty_list_bool_int, x_ty_list_str_int, x_ty_list_int_str, x_ty_dict_str, x_ty_dict_tuple, x_ty_dict_int, x_ty_dict_bool, x_ty_dict_list, x_ty_dict_dict, x_ty_dict_list_tuple, x_ty_dict_tuple_list, x_ty_dict_str_tuple, x_ty_dict_tuple_str, x_ty_dict_int_bool, x_ty_dict_bool_int, x_ty_dict_str_int, x_ty_dict_int_str, x_puto, x_puto', List.map_cons, List.map_nil, List.length_cons, List.length_nil, List.cons_append, List.nil_append, List.replicate, Nat.sub_zero, Nat.sub_self, Nat.zero_add, Nat.reduceAdd, Nat.reduceSub, List.getElem?_cons_zero, List.getElem?_cons_succ, List.set_cons_zero, List.set_cons_succ, setF, wipeF, true_and, and_true, if_true, if_false, Bool.true_eq_false, Bool.false_eq_true, ite_true, ite_false, reduceIte, not_true_eq_false, not_false_eq_true, Bool.not_true, Bool.not_false, exists_eq_left', exists_const, ne_eq]
  refine d_need_program (by omega) (by omega) ht hp fun S1 e1 => ?_
  try simp (maxSteps := 2000000) only [startF, wSs, wS, wE, wL, wO, wB, wI, x_add, x_adds, x_addl, x_addt, x_sub, x_mul, x_mult, x_mull, x_fdv, x_mod, x_pow, x_auga, x_augs, x_augm, x_eqi, x_eqs, x_eqb, x_nei, x_nes, x_neb, x_eqtt, x_eqrr, x_eqtr, x_eqrt, x_eqst, x_eqts, x_nett, x_nerr, x_netr, x_nert, x_nest, x_nets, x_lt, x_le, x_gt, x_ge, x_ins, x_isn, x_isnt, x_ixt, x_ixl, x_ixd, x_ixs, x_slt, x_sll, x_sls, x_std, x_stl, x_isin, x_isis, x_isit, x_isii, x_isib, x_lens, x_lent, x_lenf, x_lenl, x_inti, x_intb, x_abs, x_max2, x_min2, x_maxl, x_minl, x_mxd, x_tupl, x_tupt, x_lisl, x_list, x_liss, x_all, x_any, x_sum, x_repr, x_app, x_ext, x_pop, x_popa, x_join, x_rcva, x_rcve, x_rcvp, x_rcvq, x_rcvj, x_srct, x_srcf, x_srcs, x_srcl, x_seqt, x_seql, x_enu, x_enut, x_zipl, x_zipt, x_rng1, x_rng2, x_tg1, x_tgt, x_tgl, x_var, x_put, x_ex, x_exv, x_exl, x_exl0, x_exd, x_exb, x_exi, x_dec, x_decf, x_ndec, x_ndecf, x_ty_str_str, x_ty_str_tuple, x_ty_str_int, x_ty_str_bool, x_ty_str_list, x_ty_str_dict, x_ty_str_list_tuple, x_ty_str_tuple_list, x_ty_str_str_tuple, x_ty_str_tuple_str, x_ty_str_int_bool, x_ty_str_bool_int, x_ty_str_str_int, x_ty_str_int_str, x_ty_tuple_str, x_ty_tuple_tuple, x_ty_tuple_int, x_ty_tuple_bool, x_ty_tuple_list, x_ty_tuple_dict, x_ty_tuple_list_tuple, x_ty_tuple_tuple_list, x_ty_tuple_str_tuple, x_ty_tuple_tuple_str, x_ty_tuple_int_bool, x_ty_tuple_bool_int, x_ty_tuple_str_int, x_ty_tuple_int_str, x_ty_int_str, x_ty_int_tuple, x_ty_int_int, x_ty_int_bool, x_ty_int_list, x_ty_int_dict, x_ty_int_list_tuple, x_ty_int_tuple_list, x_ty_int_str_tuple, x_ty_int_tuple_str, x_ty_int_int_bool, x_ty_int_bool_int, x_ty_int_str_int, x_ty_int_int_str, x_ty_bool_str, x_ty_bool_tuple, x_ty_bool_int, x_ty_bool_bool, x_ty_bool_list, x_ty_bool_dict, x_ty_bool_list_tuple, x_ty_bool_tuple_list, x_ty_bool_str_tuple, x_ty_bool_tuple_str, x_ty_bool_int_bool, x_ty_bool_bool_int, x_ty_bool_str_int, x_ty_bool_int_str, x_ty_list_str, x_ty_list_tuple, x_ty_list_int, x_ty_list_bool, x_ty_list_list, x_ty_list_dict, x_ty_list_list_tuple, x_ty_list_tuple_list, x_ty_list_str_tuple, x_ty_list_tuple_str, x_ty_list_int_bool, x_ty_list_bool_int, x_ty_list_str_int, x_ty_list_int_str, x_ty_dict_str, x_ty_dict_tuple, x_ty_dict_int, x_ty_dict_bool, x_ty_dict_list, x_ty_dict_dict, x_ty_dict_list_tuple, x_ty_dict_tuple_list, x_ty_dict_str_tuple, x_ty_dict_tuple_str, x_ty_dict_int_bool, x_ty_dict_bool_int, x_ty_dict_str_int, x_ty_dict_int_str, x_puto, x_puto', List.map_cons, List.map_nil, List.length_cons, List.length_nil, List.cons_append, List.nil_append, List.replicate, Nat.sub_zero, Nat.sub_self, Nat.zero_add, Nat.reduceAdd, Nat.reduceSub, List.getElem?_cons_zero, List.getElem?_cons_succ, List.set_cons_zero, List.set_cons_succ, setF, wipeF, true_and, and_true, if_true, if_false, Bool.true_eq_false, Bool.false_eq_true, ite_true, ite_false, reduceIte, not_true_eq_false, not_false_eq_true, Bool.not_true, Bool.not_false, exists_eq_left', exists_const, ne_eq]
  exact d_deep_in (n := p.dp) (Nat.le_refl _) (by omega) hl fun S2 e2 => hQ S2 (e1.trans e2)
namespace P
mutual
theorem pth_row : ∀ (t : P) (r : List Int), r ∈ pth t → r.length < sz t
  | .p _ xs, r, h => by
    rw [pth] at h
    rw [sz]
    rcases List.mem_cons.mp h with e | h
    · rw [e, List.length_nil]; omega
    · have := pths_row 0 xs r h; omega
theorem pths_row : ∀ (n : Nat) (xs : List P) (r : List Int), r ∈ pths n xs → r.length ≤ szs xs
  | _, [], r, h => by cases h
  | n, x :: xs, r, h => by
    rw [pths] at h
    rw [szs]
    rcases List.mem_append.mp h with h | h
    · obtain ⟨s, hs, rfl⟩ := List.mem_map.mp h
      have := pth_row x s hs
      rw [List.length_cons]
      omega
    · have := pths_row (n + 1) xs r h; omega
end
end P
/-- a row of whole numbers -/
def rwD (r : List Int) : D := .tup (r.map D.int)
theorem d_paths_in : ∀ {n k : Nat} {t : P} {S : Sto} {Q : KE} {E : XE}, t.dp ≤ n → n + 1 ≤ k → t.sz ≤ 1000 → (∀ p S', Ext S S' → S p = none → S' p = some (.lst (t.pth.map rwD)) → Q (.ref p) S') → wC tab k "paths_in" [t.d] S Q E
  | n, k, t, S, Q, E, hn, hk, hz, hQ => by
    refine wd (fd := f_paths_in) (by omega) rfl rfl ?_
    unfold f_paths_in
    obtain ⟨i, xs⟩ := t
    have hn : 1 + P.dps xs ≤ n := hn
    have hz : 1 + P.szs xs ≤ 1000 := hz
    have hl := P.len_szs xs
    simp only [P.d]
    try simp (maxSteps := 2000000) only [startF, wSs, wS, wE, wL, wO, wB, wI, x_add, x_adds, x_addl, x_addt, x_sub, x_mul, x_mult, x_mull, x_fdv, x_mod, x_pow, x_auga, x_augs, x_augm, x_eqi, x_eqs, x_eqb, x_nei, x_nes, x_neb, x_eqtt, x_eqrr, x_eqtr, x_eqrt, x_eqst, x_eqts, x_nett, x_nerr, x_netr, x_nert, x_nest, x_nets, x_lt, x_le, x_gt, x_ge, x_ins, x_isn, x_isnt, x_ixt, x_ixl, x_ixd, x_ixs, x_slt, x_sll, x_sls, x_std, x_stl, x_isin, x_isis, x_isit, x_isii, x_isib, x_lens, x_lent, x_lenf, x_lenl, x_inti, x_intb, x_abs, x_max2, x_min2, x_maxl, x_minl, x_mxd, x_tupl, x_tupt, x_lisl, x_list, x_liss, x_all, x_any, x_sum, x_repr, x_app, x_ext, x_pop, x_popa, x_join, x_rcva, x_rcve, x_rcvp, x_rcvq, x_rcvj, x_srct, x_srcf, x_srcs, x_srcl, x_seqt, x_seql, x_enu, x_enut, x_zipl, x_zipt, x_rng1, x_rng2, x_tg1, x_tgt, x_tgl, x_var, x_put, x_ex, x_exv, x_exl, x_exl0, x_exd, x_exb, x_exi, x_dec, x_decf, x_ndec, x_ndecf, x_ty_str_str, x_ty_str_tuple, x_ty_str_int, x_ty_str_bool, x_ty_str_list, x_ty_str_dict, x_ty_str_list_tuple, x_ty_str_tuple_list, x_ty_str_str_tuple, x_ty_str_tuple_str, x_ty_str_int_bool, x_ty_str_bool_int, x_ty_str_str_int, x_ty_str_int_str, x_ty_tuple_str, x_ty_tuple_tuple, x_ty_tuple_int, x_ty_tuple_bool, x_ty_tuple_list, x_ty_tuple_dict, x_ty_tuple_list_tuple, x_ty_tuple_tuple_list, x_ty_tuple_str_tuple, x_ty_tuple_tuple_str, x_ty_tuple_int_bool, x_ty_tuple_bool_int, x_ty_tuple_str_int, x_ty_tuple_int_str, x_ty_int_str, x_ty_int_tuple, x_ty_int_int, x_ty_int_bool, x_ty_int_list, x_ty_int_dict, x_ty_int_list_tuple, x_ty_int_tuple_list, x_ty_int_str_tuple, x_ty_int_tuple_str, x_ty_int_int_bool, x_ty_int_bool_int, x_ty_int_str_int, x_ty_int_int_str, x_ty_bool_str, x_ty_bool_tuple, x_ty_bool_int, x_ty_bool_bool, x_ty_bool_list, x_ty_bool_dict, x_ty_bool_list_tuple, x_ty_bool_tuple_list, x_ty_bool_str_tuple, x_ty_bool_tuple_str, x_ty_bool_int_bool, x_ty_bool_bool_int, x_ty_bool_str_int, x_ty_bool_int_str, x_ty_list_str, x_ty_list_tuple, x_ty_list_int, x_ty_list_bool, x_ty_list_list, x_ty_list_dict, x_ty_list_list_tuple, x_ty_list_tuple_list, x_ty_list_str_tuple, x_ty_list_tuple_str, x_ty_list_int_bool, x_ty_list_bool_int, x_ty_list_str_int, x_ty_list_int_str, x_ty_dict_str, x_ty_dict_tuple, x_ty_dict_int, x_ty_dict_bool, x_ty_dict_list, x_ty_dict_dict, x_ty_dict_list_tuple, x_ty_dict_tuple_list, x_ty_dict_str_tuple, x_ty_dict_tuple_str, x_ty_dict_int_bool, x_ty_dict_bool_int, x_ty_dict_str_int, x_ty_dict_int_str, x_puto, x_puto', List.map_cons, List.map_nil, List.length_cons, List.length_nil, List.cons_append, List.nil_append, List.replicate, Nat.sub_zero, Nat.sub_self, Nat.zero_add, Nat.reduceAdd, Nat.reduceSub, List.getElem?_cons_zero, List.getElem?_cons_succ, List.set_cons_zero, List.set_cons_succ, setF, wipeF, true_and, and_true, if_true, if_false, Bool.true_eq_false, Bool.false_eq_true, ite_true, ite_false, reduceIte, not_true_eq_false, not_false_eq_true, Bool.not_true, Bool.not_false, exists_eq_left', exists_const, ne_eq]
    rw [cut_from1]
    have sz := sizeLine_eq
    refine ⟨by omega, by omega, fun p hp => ?_⟩
    refine loop_ok (fun zs φ S' => ∃ (m : Nat) (ys : List P) (acc : List (List Int)) (o2 o3 : Option D), zs = Pi.numbered m (P.ds ys) ∧ φ = [some (.tup (.int i :: P.ds xs)), some (.ref p), o2, o3, none] ∧ Ext S S' ∧ S' p = some (.lst (acc.map rwD)) ∧ (∀ y ∈ ys, y ∈ xs) ∧ acc ++ P.pths m ys = P.pth (.p i xs)) (fun _ _ _ _ => trivial) ?_ ?_ ⟨0, xs, [[]], none, none, rfl, rfl, Ext.new hp, put_same, fun _ h => h, rfl⟩
    · rintro φ S' ⟨m, ys, acc, o2, o3, hz', rfl, e1, g1, hy, ha⟩
      cases ys with
      | nil =>
        try simp (maxSteps := 2000000) only [startF, wSs, wS, wE, wL, wO, wB, wI, x_add, x_adds, x_addl, x_addt, x_sub, x_mul, x_mult, x_mull, x_fdv, x_mod, x_pow, x_auga, x_augs, x_augm, x_eqi, x_eqs, x_eqb, x_nei, x_nes, x_neb, x_eqtt, x_eqrr, x_eqtr, x_eqrt, x_eqst, x_eqts, x_nett, x_nerr, x_netr, x_nert, x_nest, x_nets, x_lt, x_le, x_gt, x_ge, x_ins, x_isn, x_isnt, x_ixt, x_ixl, x_ixd, x_ixs, x_slt, x_sll, x_sls, x_std, x_stl, x_isin, x_isis, x_isit, x_isii, x_isib, x_lens, x_lent, x_lenf, x_lenl, x_inti, x_intb, x_abs, x_max2, x_min2, x_maxl, x_minl, x_mxd, x_tupl, x_tupt, x_lisl, x_list, x_liss, x_all, x_any, x_sum, x_repr, x_app, x_ext, x_pop, x_popa, x_join, x_rcva, x_rcve, x_rcvp, x_rcvq, x_rcvj, x_srct, x_srcf, x_srcs, x_srcl, x_seqt, x_seql, x_enu, x_enut, x_zipl, x_zipt, x_rng1, x_rng2, x_tg1, x_tgt, x_tgl, x_var, x_put, x_ex, x_exv, x_exl, x_exl0, x_exd, x_exb, x_exi, x_dec, x_decf, x_ndec, x_ndecf, x_ty_str_str, x_ty_str_tuple, x_ty_str_int, x_ty_str_bool, x_ty_str_list, x_ty_str_dict, x_ty_str_list_tuple, x_ty_str_tuple_list, x_ty_str_str_tuple, x_ty_str_tuple_str, x_ty_str_int_bool, x_ty_str_bool_int, x_ty_str_str_int, x_ty_str_int_str, x_ty_tuple_str, x_ty_tuple_tuple, x_ty_tuple_int, x_ty_tuple_bool, x_ty_tuple_list, x_ty_tuple_dict, x_ty_tuple_list_tuple, x_ty_tuple_tuple_list, x_ty_tuple_str_tuple, x_ty_tuple_tuple_str, x_ty_tuple_int_bool, x_ty_tuple_bool_int, x_ty_tuple_str_int, x_ty_tuple_int_str, x_ty_int_str, x_ty_int_tuple, x_ty_int_int, x_ty_int_bool, x_ty_int_list, x_ty_int_dict, x_ty_int_list_tuple, x_ty_int_tuple_list, x_ty_int_str_tuple, x_ty_int_tuple_str, x_ty_int_int_bool, x_ty_int_bool_int, x_ty_int_str_int, x_ty_int_int_str, x_ty_bool_str, x_ty_bool_tuple, x_ty_bool_int, x_ty_bool_bool, x_ty_bool_list, x_ty_bool_dict, x_ty_bool_list_tuple, x_ty_bool_tuple_list, x_ty_bool_str_tuple, x_ty_bool_tuple_str, x_ty_bool_int_bool, x_ty_bool_bool_int, x_ty_bool_str_int, x_ty_bool_int_str, x_ty_list_str, x_ty_list_tuple, x_ty_list_int, x_ty_list_bool, x_ty_list_list, x_ty_list_dict, x_ty_list_list_tuple, x_ty_list_tuple_list, x_ty_list_str_tuple, x_ty_list_tuple_str, x_ty_list_int_bool, x_ty_list_bool_int, x_ty_list_str_int, x_ty_list_int_str, x_ty_dict_str, x_ty_dict_tuple, x_ty_dict_int, x_ty_dict_bool, x_ty_dict_list, x_ty_dict_dict, x_ty_dict_list_tuple, x_ty_dict_tuple_list, x_ty_dict_str_tuple, x_ty_dict_tuple_str, x_ty_dict_int_bool, x_ty_dict_bool_int, x_ty_dict_str_int, x_ty_dict_int_str, x_puto, x_puto', List.map_cons, List.map_nil, List.length_cons, List.length_nil, List.cons_append, List.nil_append, List.replicate, Nat.sub_zero, Nat.sub_self, Nat.zero_add, Nat.reduceAdd, Nat.reduceSub, List.getElem?_cons_zero, List.getElem?_cons_succ, List.set_cons_zero, List.set_cons_succ, setF, wipeF, true_and, and_true, if_true, if_false, Bool.true_eq_false, Bool.false_eq_true, ite_true, ite_false, reduceIte, not_true_eq_false, not_false_eq_true, Bool.not_true, Bool.not_false, exists_eq_left', exists_const, ne_eq]
        unfold P.pths at ha
        rw [List.append_nil] at ha
        exact hQ p S' e1 hp (by rw [← ha]; exact g1)
      | cons y ys => cases hz'
    · rintro z zs φ S' N ⟨m, ys, acc, o2, o3, hz', rfl, e1, g1, hy, ha⟩ hN
      cases ys with
      | nil => cases hz'
      | cons y ys =>
        cases hz'
        have hm := hy y List.mem_cons_self
        have h1 := dps_mem hm
        have h2 := P.szs_mem hm
        have hlen := P.pth_len (.p i xs)
        have hz2 : (P.p i xs).sz = 1 + P.szs xs := rfl
        rw [P.pths] at ha
        rw [← ha, List.length_append, List.length_append, List.length_map, P.pth_len] at hlen
        try simp (maxSteps := 2000000) only [startF, wSs, wS, wE, wL, wO, wB, wI, x_add, x_adds, x_addl, x_addt, x_sub, x_mul, x_mult, x_mull, x_fdv, x_mod, x_pow, x_auga, x_augs, x_augm, x_eqi, x_eqs, x_eqb, x_nei, x_nes, x_neb, x_eqtt, x_eqrr, x_eqtr, x_eqrt, x_eqst, x_eqts, x_nett, x_nerr, x_netr, x_nert, x_nest, x_nets, x_lt, x_le, x_gt, x_ge, x_ins, x_isn, x_isnt, x_ixt, x_ixl, x_ixd, x_ixs, x_slt, x_sll, x_sls, x_std, x_stl, x_isin, x_isis, x_isit, x_isii, x_isib, x_lens, x_lent, x_lenf, x_lenl, x_inti, x_intb, x_abs, x_max2, x_min2, x_maxl, x_minl, x_mxd, x_tupl, x_tupt, x_lisl, x_list, x_liss, x_all, x_any, x_sum, x_repr, x_app, x_ext, x_pop, x_popa, x_join, x_rcva, x_rcve, x_rcvp, x_rcvq, x_rcvj, x_srct, x_srcf, x_srcs, x_srcl, x_seqt, x_seql, x_enu, x_enut, x_zipl, x_zipt, x_rng1, x_rng2, x_tg1, x_tgt, x_tgl, x_var, x_put, x_ex, x_exv, x_exl, x_exl0, x_exd, x_exb, x_exi, x_dec, x_decf, x_ndec, x_ndecf, x_ty_str_str, x_ty_str_tuple, x_ty_str_int, x_ty_str_bool, x_ty_str_list, x_ty_str_dict, x_ty_str_list_tuple, x_ty_str_tuple_list, x_ty_str_str_tuple, x_ty_str_tuple_str, x_ty_str_int_bool, x_ty_str_bool_int, x_ty_str_str_int, x_ty_str_int_str, x_ty_tuple_str, x_ty_tuple_tuple, x_ty_tuple_int, x_ty_tuple_bool, x_ty_tuple_list, x_ty_tuple_dict, x_ty_tuple_list_tuple, x_ty_tuple_tuple_list, x_ty_tuple_str_tuple, x_ty_tuple_tuple_str, x_ty_tuple_int_bool, x_ty_tuple_bool_int, x_ty_tuple_str_int, x_ty_tuple_int_str, x_ty_int_str, x_ty_int_tuple, x_ty_int_int, x_ty_int_bool, x_ty_int_list, x_ty_int_dict, x_ty_int_list_tuple, x_ty_int_tuple_list, x_ty_int_str_tuple, x_ty_int_tuple_str, x_ty_int_int_bool, x_ty_int_bool_int, x_ty_int_str_int, x_ty_int_int_str, x_ty_bool_str, x_ty_bool_tuple, x_ty_bool_int, x_ty_bool_bool, x_ty_bool_list, x_ty_bool_dict, x_ty_bool_list_tuple, x_ty_bool_tuple_list, x_ty_bool_str_tuple, x_ty_bool_tuple_str, x_ty_bool_int_bool, x_ty_bool_bool_int, x_ty_bool_str_int, x_ty_bool_int_str, x_ty_list_str, x_ty_list_tuple, x_ty_list_int, x_ty_list_bool, x_ty_list_list, x_ty_list_dict, x_ty_list_list_tuple, x_ty_list_tuple_list, x_ty_list_str_tuple, x_ty_list_tuple_str, x_ty_list_int_bool, x_ty_list_bool_int, x_ty_list_str_int, x_ty_list_int_str, x_ty_dict_str, x_ty_dict_tuple, x_ty_dict_int, x_ty_dict_bool, x_ty_dict_list, x_ty_dict_dict, x_ty_dict_list_tuple, x_ty_dict_tuple_list, x_ty_dict_str_tuple, x_ty_dict_tuple_str, x_ty_dict_int_bool, x_ty_dict_bool_int, x_ty_dict_str_int, x_ty_dict_int_str, x_puto, x_puto', List.map_cons, List.map_nil, List.length_cons, List.length_nil, List.cons_append, List.nil_append, List.replicate, Nat.sub_zero, Nat.sub_self, Nat.zero_add, Nat.reduceAdd, Nat.reduceSub, List.getElem?_cons_zero, List.getElem?_cons_succ, List.set_cons_zero, List.set_cons_succ, setF, wipeF, true_and, and_true, if_true, if_false, Bool.true_eq_false, Bool.false_eq_true, ite_true, ite_false, reduceIte, not_true_eq_false, not_false_eq_true, Bool.not_true, Bool.not_false, exists_eq_left', exists_const, ne_eq, g1]
        refine d_paths_in (n := n - 1) (by omega) (by omega) (by omega) fun q S2 e2 nq gq => ?_
        try simp (maxSteps := 2000000) only [startF, wSs, wS, wE, wL, wO, wB, wI, x_add, x_adds, x_addl, x_addt, x_sub, x_mul, x_mult, x_mull, x_fdv, x_mod, x_pow, x_auga, x_augs, x_augm, x_eqi, x_eqs, x_eqb, x_nei, x_nes, x_neb, x_eqtt, x_eqrr, x_eqtr, x_eqrt, x_eqst, x_eqts, x_nett, x_nerr, x_netr, x_nert, x_nest, x_nets, x_lt, x_le, x_gt, x_ge, x_ins, x_isn, x_isnt, x_ixt, x_ixl, x_ixd, x_ixs, x_slt, x_sll, x_sls, x_std, x_stl, x_isin, x_isis, x_isit, x_isii, x_isib, x_lens, x_lent, x_lenf, x_lenl, x_inti, x_intb, x_abs, x_max2, x_min2, x_maxl, x_minl, x_mxd, x_tupl, x_tupt, x_lisl, x_list, x_liss, x_all, x_any, x_sum, x_repr, x_app, x_ext, x_pop, x_popa, x_join, x_rcva, x_rcve, x_rcvp, x_rcvq, x_rcvj, x_srct, x_srcf, x_srcs, x_srcl, x_seqt, x_seql, x_enu, x_enut, x_zipl, x_zipt, x_rng1, x_rng2, x_tg1, x_tgt, x_tgl, x_var, x_put, x_ex, x_exv, x_exl, x_exl0, x_exd, x_exb, x_exi, x_dec, x_decf, x_ndec, x_ndecf, x_ty_str_str, x_ty_str_tuple, x_ty_str_int, x_ty_str_bool, x_ty_str_list, x_ty_str_dict, x_ty_str_list_tuple, x_ty_str_tuple_list, x_ty_str_str_tuple, x_ty_str_tuple_str, x_ty_str_int_bool, x_ty_str_bool_int, x_ty_str_str_int, x_ty_str_int_str, x_ty_tuple_str, x_ty_tuple_tuple, x_ty_tuple_int, x_ty_tuple_bool, x_ty_tuple_list, x_ty_tuple_dict, x_ty_tuple_list_tuple, x_ty_tuple_tuple_list, x_ty_tuple_str_tuple, x_ty_tuple_tuple_str, x_ty_tuple_int_bool, x_ty_tuple_bool_int, x_ty_tuple_str_int, x_ty_tuple_int_str, x_ty_int_str, x_ty_int_tuple, x_ty_int_int, x_ty_int_bool, x_ty_int_list, x_ty_int_dict, x_ty_int_list_tuple, x_ty_int_tuple_list, x_ty_int_str_tuple, x_ty_int_tuple_str, x_ty_int_int_bool, x_ty_int_bool_int, x_ty_int_str_int, x_ty_int_int_str, x_ty_bool_str, x_ty_bool_tuple, x_ty_bool_int, x_ty_bool_bool, x_ty_bool_list, x_ty_bool_dict, x_ty_bool_list_tuple, x_ty_bool_tuple_list, x_ty_bool_str_tuple, x_ty_bool_tuple_str, x_ty_bool_int_bool, x_ty_bool_bool_int, x_ty_bool_str_int, x_ty_bool_int_str, x_ty_list_str, x_ty_list_tuple, x_ty_list_int, x_ty_list_bool, x_ty_list_list, x_ty_list_dict, x_ty_list_list_tuple, x_ty_list_tuple_list, x_ty_list_str_tuple, x_ty_list_tuple_str, x_ty_list_int_bool, x_ty_list_bool_int, x_ty_list_str_int, x_ty_list_int_str, x_ty_dict_str, x_ty_dict_tuple, x_ty_dict_int, x_ty_dict_bool, x_ty_dict_list, x_ty_dict_dict, x_ty_dict_list_tuple, x_ty_dict_tuple_list, x_ty_dict_str_tuple, x_ty_dict_tuple_str, x_ty_dict_int_bool, x_ty_dict_bool_int, x_ty_dict_str_int, x_ty_dict_int_str, x_puto, x_puto', List.map_cons, List.map_nil, List.length_cons, List.length_nil, List.cons_append, List.nil_append, List.replicate, Nat.sub_zero, Nat.sub_self, Nat.zero_add, Nat.reduceAdd, Nat.reduceSub, List.getElem?_cons_zero, List.getElem?_cons_succ, List.set_cons_zero, List.set_cons_succ, setF, wipeF, true_and, and_true, if_true, if_false, Bool.true_eq_false, Bool.false_eq_true, ite_true, ite_false, reduceIte, not_true_eq_false, not_false_eq_true, Bool.not_true, Bool.not_false, exists_eq_left', exists_const, ne_eq, gq]
        refine loop_map rwD (fun r => rwD ((m : Nat) :: r)) (fun S3 e3 => e3.k _ _ gq) y.pth (by rw [P.pth_len]; omega) (fun r hr acc' S3 N' e3 hl' hN' => ?_) fun S3 e3 => ?_
        · have hr2 := P.pth_row y r hr
          unfold rwD
          try simp (maxSteps := 2000000) only [startF, wSs, wS, wE, wL, wO, wB, wI, x_add, x_adds, x_addl, x_addt, x_sub, x_mul, x_mult, x_mull, x_fdv, x_mod, x_pow, x_auga, x_augs, x_augm, x_eqi, x_eqs, x_eqb, x_nei, x_nes, x_neb, x_eqtt, x_eqrr, x_eqtr, x_eqrt, x_eqst, x_eqts, x_nett, x_nerr, x_netr, x_nert, x_nest, x_nets, x_lt, x_le, x_gt, x_ge, x_ins, x_isn, x_isnt, x_ixt, x_ixl, x_ixd, x_ixs, x_slt, x_sll, x_sls, x_std, x_stl, x_isin, x_isis, x_isit, x_isii, x_isib, x_lens, x_lent, x_lenf, x_lenl, x_inti, x_intb, x_abs, x_max2, x_min2, x_maxl, x_minl, x_mxd, x_tupl, x_tupt, x_lisl, x_list, x_liss, x_all, x_any, x_sum, x_repr, x_app, x_ext, x_pop, x_popa, x_join, x_rcva, x_rcve, x_rcvp, x_rcvq, x_rcvj, x_srct, x_srcf, x_srcs, x_srcl, x_seqt, x_seql, x_enu, x_enut, x_zipl, x_zipt, x_rng1, x_rng2, x_tg1, x_tgt, x_tgl, x_var, x_put, x_ex, x_exv, x_exl, x_exl0, x_exd, x_exb, x_exi, x_dec, x_decf, x_ndec, x_ndecf, x_ty_str_str, x_ty_str_tuple, x_ty_str_int, x_ty_str_bool, x_ty_str_list, x_ty_str_dict, x_ty_str_list_tuple, x_ty_str_tuple_list, x_ty_str_str_tuple, x_ty_str_tuple_str, x_ty_str_int_bool, x_ty_str_bool_int, x_ty_str_str_int, x_ty_str_int_str, x_ty_tuple_str, x_ty_tuple_tuple, x_ty_tuple_int, x_ty_tuple_bool, x_ty_tuple_list, x_ty_tuple_dict, x_ty_tuple_list_tuple, x_ty_tuple_tuple_list, x_ty_tuple_str_tuple, x_ty_tuple_tuple_str, x_ty_tuple_int_bool, x_ty_tuple_bool_int, x_ty_tuple_str_int, x_ty_tuple_int_str, x_ty_int_str, x_ty_int_tuple, x_ty_int_int, x_ty_int_bool, x_ty_int_list, x_ty_int_dict, x_ty_int_list_tuple, x_ty_int_tuple_list, x_ty_int_str_tuple, x_ty_int_tuple_str, x_ty_int_int_bool, x_ty_int_bool_int, x_ty_int_str_int, x_ty_int_int_str, x_ty_bool_str, x_ty_bool_tuple, x_ty_bool_int, x_ty_bool_bool, x_ty_bool_list, x_ty_bool_dict, x_ty_bool_list_tuple, x_ty_bool_tuple_list, x_ty_bool_str_tuple, x_ty_bool_tuple_str, x_ty_bool_int_bool, x_ty_bool_bool_int, x_ty_bool_str_int, x_ty_bool_int_str, x_ty_list_str, x_ty_list_tuple, x_ty_list_int, x_ty_list_bool, x_ty_list_list, x_ty_list_dict, x_ty_list_list_tuple, x_ty_list_tuple_list, x_ty_list_str_tuple, x_ty_list_tuple_str, x_ty_list_int_bool, x_ty_list_bool_int, x_ty_list_str_int, x_ty_list_int_str, x_ty_dict_str, x_ty_dict_tuple, x_ty_dict_int, x_ty_dict_bool, x_ty_dict_list, x_ty_dict_dict, x_ty_dict_list_tuple, x_ty_dict_tuple_list, x_ty_dict_str_tuple, x_ty_dict_tuple_str, x_ty_dict_int_bool, x_ty_dict_bool_int, x_ty_dict_str_int, x_ty_dict_int_str, x_puto, x_puto', List.map_cons, List.map_nil, List.length_cons, List.length_nil, List.cons_append, List.nil_append, List.replicate, Nat.sub_zero, Nat.sub_self, Nat.zero_add, Nat.reduceAdd, Nat.reduceSub, List.getElem?_cons_zero, List.getElem?_cons_succ, List.set_cons_zero, List.set_cons_succ, setF, wipeF, true_and, and_true, if_true, if_false, Bool.true_eq_false, Bool.false_eq_true, ite_true, ite_false, reduceIte, not_true_eq_false, not_false_eq_true, Bool.not_true, Bool.not_false, exists_eq_left', exists_const, ne_eq, List.append_nil]
          exact ⟨by rw [List.length_map]; omega, hl', hN' S3 .refl⟩
        · try simp (maxSteps := 2000000) only [startF, wSs, wS, wE, wL, wO, wB, wI, x_add, x_adds, x_addl, x_addt, x_sub, x_mul, x_mult, x_mull, x_fdv, x_mod, x_pow, x_auga, x_augs, x_augm, x_eqi, x_eqs, x_eqb, x_nei, x_nes, x_neb, x_eqtt, x_eqrr, x_eqtr, x_eqrt, x_eqst, x_eqts, x_nett, x_nerr, x_netr, x_nert, x_nest, x_nets, x_lt, x_le, x_gt, x_ge, x_ins, x_isn, x_isnt, x_ixt, x_ixl, x_ixd, x_ixs, x_slt, x_sll, x_sls, x_std, x_stl, x_isin, x_isis, x_isit, x_isii, x_isib, x_lens, x_lent, x_lenf, x_lenl, x_inti, x_intb, x_abs, x_max2, x_min2, x_maxl, x_minl, x_mxd, x_tupl, x_tupt, x_lisl, x_list, x_liss, x_all, x_any, x_sum, x_repr, x_app, x_ext, x_pop, x_popa, x_join, x_rcva, x_rcve, x_rcvp, x_rcvq, x_rcvj, x_srct, x_srcf, x_srcs, x_srcl, x_seqt, x_seql, x_enu, x_enut, x_zipl, x_zipt, x_rng1, x_rng2, x_tg1, x_tgt, x_tgl, x_var, x_put, x_ex, x_exv, x_exl, x_exl0, x_exd, x_exb, x_exi, x_dec, x_decf, x_ndec, x_ndecf, x_ty_str_str, x_ty_str_tuple, x_ty_str_int, x_ty_str_bool, x_ty_str_list, x_ty_str_dict, x_ty_str_list_tuple, x_ty_str_tuple_list, x_ty_str_str_tuple, x_ty_str_tuple_str, x_ty_str_int_bool, x_ty_str_bool_int, x_ty_str_str_int, x_ty_str_int_str, x_ty_tuple_str, x_ty_tuple_tuple, x_ty_tuple_int, x_ty_tuple_bool, x_ty_tuple_list, x_ty_tuple_dict, x_ty_tuple_list_tuple, x_ty_tuple_tuple_list, x_ty_tuple_str_tuple, x_ty_tuple_tuple_str, x_ty_tuple_int_bool, x_ty_tuple_bool_int, x_ty_tuple_str_int, x_ty_tuple_int_str, x_ty_int_str, x_ty_int_tuple, x_ty_int_int, x_ty_int_bool, x_ty_int_list, x_ty_int_dict, x_ty_int_list_tuple, x_ty_int_tuple_list, x_ty_int_str_tuple, x_ty_int_tuple_str, x_ty_int_int_bool, x_ty_int_bool_int, x_ty_int_str_int, x_ty_int_int_str, x_ty_bool_str, x_ty_bool_tuple, x_ty_bool_int, x_ty_bool_bool, x_ty_bool_list, x_ty_bool_dict, x_ty_bool_list_tuple, x_ty_bool_tuple_list, x_ty_bool_str_tuple, x_ty_bool_tuple_str, x_ty_bool_int_bool, x_ty_bool_bool_int, x_ty_bool_str_int, x_ty_bool_int_str, x_ty_list_str, x_ty_list_tuple, x_ty_list_int, x_ty_list_bool, x_ty_list_list, x_ty_list_dict, x_ty_list_list_tuple, x_ty_list_tuple_list, x_ty_list_str_tuple, x_ty_list_tuple_str, x_ty_list_int_bool, x_ty_list_bool_int, x_ty_list_str_int, x_ty_list_int_str, x_ty_dict_str, x_ty_dict_tuple, x_ty_dict_int, x_ty_dict_bool, x_ty_dict_list, x_ty_dict_dict, x_ty_dict_list_tuple, x_ty_dict_tuple_list, x_ty_dict_str_tuple, x_ty_dict_tuple_str, x_ty_dict_int_bool, x_ty_dict_bool_int, x_ty_dict_str_int, x_ty_dict_int_str, x_puto, x_puto', List.map_cons, List.map_nil, List.length_cons, List.length_nil, List.cons_append, List.nil_append, List.replicate, Nat.sub_zero, Nat.sub_self, Nat.zero_add, Nat.reduceAdd, Nat.reduceSub, List.getElem?_cons_zero, List.getElem?_cons_succ, List.set_cons_zero, List.set_cons_succ, setF, wipeF, true_and, and_true, if_true, if_false, Bool.true_eq_false, Bool.false_eq_true, ite_true, ite_false, reduceIte, not_true_eq_false, not_false_eq_true, Bool.not_true, Bool.not_false, exists_eq_left', exists_const, ne_eq]
          intro u hu
          have e4 := (e2.trans e3).trans (Ext.new (o := .lst (y.pth.map fun r => rwD ((m : Nat) :: r))) hu)
          have em : List.map (fun r => rwD (((m : Nat) : Int) :: r)) y.pth = (y.pth.map fun r => ((m : Nat) : Int) :: r).map rwD := by rw [List.map_map]; rfl
          refine ⟨_, e4.k _ _ g1, by rw [List.length_map, List.length_map, P.pth_len]; omega, ?_⟩
          refine hN _ _ ⟨m + 1, ys, acc ++ (y.pth.map fun r => ((m : Nat) : Int) :: r), _, _, rfl, rfl, Ext.put (e1.trans e4) hp, ?_, fun z hz => hy z (List.mem_cons_of_mem _ hz), by rw [List.append_assoc]; exact ha⟩
          rw [put_same, List.map_append, em]
theorem d_paths {k : Nat} {t : T} {p : P} {S : Sto} {Q : KE} {E : XE} (hk : p.dp + 11 ≤ k) (hl : p.sz ≤ 1000) (ht : kindB t = true) (hp : prB t p = true) (hQ : ∀ q S', Ext S S' → S q = none → S' q = some (.lst (p.pth.map rwD)) → Q (.ref q) S') : wC tab k "paths" [t.d, p.d] S Q E := by
  refine wd (fd := f_paths) (by omega) rfl rfl ?_
  unfold f_paths
  have := P.dp_le_sz p
  try simp (maxSteps := 2000000) only [startF, wSs, wS, wE, wL, wO, wB, wI, x_add, x_adds, x_addl, x_addt, x_sub, x_mul, x_mult, x_mull, x_fdv, x_mod, x_pow, x_auga, x_augs, x_augm, x_eqi, x_eqs, x_eqb, x_nei, x_nes, x_neb, x_eqtt, x_eqrr, x_eqtr, x_eqrt, x_eqst, x_eqts, x_nett, x_nerr, x_netr, x_nert, x_nest, x_nets, x_lt, x_le, x_gt, x_ge, x_ins, x_isn, x_isnt, x_ixt, x_ixl, x_ixd, x_ixs, x_slt, x_sll, x_sls, x_std, x_stl, x_isin, x_isis, x_isit, x_isii, x_isib, x_lens, x_lent, x_lenf, x_lenl, x_inti, x_intb, x_abs, x_max2, x_min2, x_maxl, x_minl, x_mxd, x_tupl, x_tupt, x_lisl, x_list, x_liss, x_all, x_any, x_sum, x_repr, x_app, x_ext, x_pop, x_popa, x_join, x_rcva, x_rcve, x_rcvp, x_rcvq, x_rcvj, x_srct, x_srcf, x_srcs, x_srcl, x_seqt, x_seql, x_enu, x_enut, x_zipl, x_zipt, x_rng1, x_rng2, x_tg1, x_tgt, x_tgl, x_var, x_put, x_ex, x_exv, x_exl, x_exl0, x_exd, x_exb, x_exi, x_dec, x_decf, x_ndec, x_ndecf, x_ty_str_str, x_ty_str_tuple, x_ty_str_int, x_ty_str_bool, x_ty_str_list, x_ty_str_dict, x_ty_str_list_tuple, x_ty_str_tuple_list, x_ty_str_str_tuple, x_ty_str_tuple_str, x_ty_str_int_bool, x_ty_str_bool_int, x_ty_str_str_int, x_ty_str_int_str, x_ty_tuple_str, x_ty_tuple_tuple, x_ty_tuple_int, x_ty_tuple_bool, x_ty_tuple_list, x_ty_tuple_dict, x_ty_tuple_list_tuple, x_ty_tuple_tuple_list, x_ty_tuple_str_tuple, x_ty_tuple_tuple_str, x_ty_tuple_int_bool, x_ty_tuple_bool_int, x_ty_tuple_str_int, x_ty_tuple_int_str, x_ty_int_str, x_ty_int_tuple, x_ty_int_int, x_ty_int_bool, x_ty_int_list, x_ty_int_dict, x_ty_int_list_tuple, x_ty_int_tuple_list, x_ty_int_str_tuple, x_ty_int_tuple_str, x_ty_int_int_bool, x_ty_int_bool_int, x_ty_int_str_int, x_ty_int_int_str, x_ty_bool_str, x_ty_bool_tuple, x_ty_bool_int, x_ty_bool_bool, x_ty_bool_list, x_ty_bool_dict, x_ty_bool_list_tuple, x_ty_bool_tuple_list, x_ty_bool_str_tuple, x_ty_bool_tuple_str, x_ty_bool_int_bool, x_ty_bool_bool_int, x_ty_bool_str_int, x_ty_bool_int_str, x_ty_list_str, x_ty_list_tuple, x_ty_list_int, x_ty_list_bool, x_ty_list_list, x_ty_list_dict, x_ty_list_list_tuple, x_ty_list_tuple_list, x_ty_list_str_tuple, x_ty_list_tuple_str, x_ty_list_int_bool, x_ty_list_bool_int, x_ty_list_str_int, x_ty_list_int_str, x_ty_dict_str, x_ty_dict_tuple, x_ty_dict_int, x_ty_dict_bool, x_ty_dict_list, x_ty_dict_dict, x_ty_dict_list_tuple, x_ty_dict_tuple_list, x_ty_dict_str_tuple, x_ty_dict_tuple_str, x_ty_dict_int_bool, x_ty_dict_bool_int, x_ty_dict_str_int, x_ty_dict_int_str, x_puto, x_puto', List.map_cons, List.map_nil, List.length_cons, List.length_nil, List.cons_append, List.nil_append, List.replicate, Nat.sub_zero, Nat.sub_self, Nat.zero_add, Nat.reduceAdd, Nat.reduceSub, List.getElem?_cons_zero, List.getElem?_cons_succ, List.set_cons_zero, List.set_cons_succ, setF, wipeF, true_and, and_true, if_true, if_false, Bool.true_eq_false, Bool.false_eq_true, ite_true, ite_false, reduceIte, not_true_eq_false, not_false_eq_true, Bool.not_true, Bool.not_false, exists_eq_left', exists_const, ne_eq]
  refine d_need_program (by omega) (by omega) ht hp fun S1 e1 => ?_
  try simp (maxSteps := 2000000) only [startF, wSs, wS, wE, wL, wO, wB, wI, x_add, x_adds, x_addl, x_addt, x_sub, x_mul, x_mult, x_mull, x_fdv, x_mod, x_pow, x_auga, x_augs, x_augm, x_eqi, x_eqs, x_eqb, x_nei, x_nes, x_neb, x_eqtt, x_eqrr, x_eqtr, x_eqrt, x_eqst, x_eqts, x_nett, x_nerr, x_netr, x_nert, x_nest, x_nets, x_lt, x_le, x_gt, x_ge, x_ins, x_isn, x_isnt, x_ixt, x_ixl, x_ixd, x_ixs, x_slt, x_sll, x_sls, x_std, x_stl, x_isin, x_isis, x_isit, x_isii, x_isib, x_lens, x_lent, x_lenf, x_lenl, x_inti, x_intb, x_abs, x_max2, x_min2, x_maxl, x_minl, x_mxd, x_tupl, x_tupt, x_lisl, x_list, x_liss, x_all, x_any, x_sum, x_repr, x_app, x_ext, x_pop, x_popa, x_join, x_rcva, x_rcve, x_rcvp, x_rcvq, x_rcvj, x_srct, x_srcf, x_srcs, x_srcl, x_seqt, x_seql, x_enu, x_enut, x_zipl, x_zipt, x_rng1, x_rng2, x_tg1, x_tgt, x_tgl, x_var, x_put, x_ex, x_exv, x_exl, x_exl0, x_exd, x_exb, x_exi, x_dec, x_decf, x_ndec, x_ndecf, x_ty_str_str, x_ty_str_tuple, x_ty_str_int, x_ty_str_bool, x_ty_str_list, x_ty_str_dict, x_ty_str_list_tuple, x_ty_str_tuple_list, x_ty_str_str_tuple, x_ty_str_tuple_str, x_ty_str_int_bool, x_ty_str_bool_int, x_ty_str_str_int, x_ty_str_int_str, x_ty_tuple_str, x_ty_tuple_tuple, x_ty_tuple_int, x_ty_tuple_bool, x_ty_tuple_list, x_ty_tuple_dict, x_ty_tuple_list_tuple, x_ty_tuple_tuple_list, x_ty_tuple_str_tuple, x_ty_tuple_tuple_str, x_ty_tuple_int_bool, x_ty_tuple_bool_int, x_ty_tuple_str_int, x_ty_tuple_int_str, x_ty_int_str, x_ty_int_tuple, x_ty_int_int, x_ty_int_bool, x_ty_int_list, x_ty_int_dict, x_ty_int_list_tuple, x_ty_int_tuple_list, x_ty_int_str_tuple, x_ty_int_tuple_str, x_ty_int_int_bool, x_ty_int_bool_int, x_ty_int_str_int, x_ty_int_int_str, x_ty_bool_str, x_ty_bool_tuple, x_ty_bool_int, x_ty_bool_bool, x_ty_bool_list, x_ty_bool_dict, x_ty_bool_list_tuple, x_ty_bool_tuple_list, x_ty_bool_str_tuple, x_ty_bool_tuple_str, x_ty_bool_int_bool, x_ty_bool_bool_int, x_ty_bool_str_int, x_ty_bool_int_str, x_ty_list_str, x_ty_list_tuple, x_ty_list_int, x_ty_list_bool, x_ty_list_list, x_ty_list_dict, x_ty_list_list_tuple, x_ty_list_tuple_list, x_ty_list_str_tuple, x_ty_list_tuple_str, x_ty_list_int_bool, x_ty_list_bool_int, x_ty_list_str_int, x_ty_list_int_str, x_ty_dict_str, x_ty_dict_tuple, x_ty_dict_int, x_ty_dict_bool, x_ty_dict_list, x_ty_dict_dict, x_ty_dict_list_tuple, x_ty_dict_tuple_list, x_ty_dict_str_tuple, x_ty_dict_tuple_str, x_ty_dict_int_bool, x_ty_dict_bool_int, x_ty_dict_str_int, x_ty_dict_int_str, x_puto, x_puto', List.map_cons, List.map_nil, List.length_cons, List.length_nil, List.cons_append, List.nil_append, List.replicate, Nat.sub_zero, Nat.sub_self, Nat.zero_add, Nat.reduceAdd, Nat.reduceSub, List.getElem?_cons_zero, List.getElem?_cons_succ, List.set_cons_zero, List.set_cons_succ, setF, wipeF, true_and, and_true, if_true, if_false, Bool.true_eq_false, Bool.false_eq_true, ite_true, ite_false, reduceIte, not_true_eq_false, not_false_eq_true, Bool.not_true, Bool.not_false, exists_eq_left', exists_const, ne_eq]
  exact d_paths_in (n := p.dp) (Nat.le_refl _) (by omega) hl fun q S2 e2 nq gq => hQ q S2 (e1.trans e2) (e1.none nq) gq
theorem allB_true {α : Type} : ∀ xs : List α, allB (xs.map fun _ => D.bl true) = some true
  | [] => rfl
  | x :: xs => by
    show (allB (xs.map fun _ => D.bl true)).map _ = _
    rw [allB_true xs]
    rfl
theorem d_is_row {k : Nat} {r : List Int} {S : Sto} {Q : KE} {E : XE} (hk : 2 ≤ k) (hl : r.length ≤ 1000) (hQ : ∀ S', Ext S S' → Q (.bl true) S') : wC tab k "is_row" [rwD r] S Q E := by
  refine wd (fd := f_is_row) (by omega) rfl rfl ?_
  unfold f_is_row
  unfold rwD
  try simp (maxSteps := 2000000) only [startF, wSs, wS, wE, wL, wO, wB, wI, x_add, x_adds, x_addl, x_addt, x_sub, x_mul, x_mult, x_mull, x_fdv, x_mod, x_pow, x_auga, x_augs, x_augm, x_eqi, x_eqs, x_eqb, x_nei, x_nes, x_neb, x_eqtt, x_eqrr, x_eqtr, x_eqrt, x_eqst, x_eqts, x_nett, x_nerr, x_netr, x_nert, x_nest, x_nets, x_lt, x_le, x_gt, x_ge, x_ins, x_isn, x_isnt, x_ixt, x_ixl, x_ixd, x_ixs, x_slt, x_sll, x_sls, x_std, x_stl, x_isin, x_isis, x_isit, x_isii, x_isib, x_lens, x_lent, x_lenf, x_lenl, x_inti, x_intb, x_abs, x_max2, x_min2, x_maxl, x_minl, x_mxd, x_tupl, x_tupt, x_lisl, x_list, x_liss, x_all, x_any, x_sum, x_repr, x_app, x_ext, x_pop, x_popa, x_join, x_rcva, x_rcve, x_rcvp, x_rcvq, x_rcvj, x_srct, x_srcf, x_srcs, x_srcl, x_seqt, x_seql, x_enu, x_enut, x_zipl, x_zipt, x_rng1, x_rng2, x_tg1, x_tgt, x_tgl, x_var, x_put, x_ex, x_exv, x_exl, x_exl0, x_exd, x_exb, x_exi, x_dec, x_decf, x_ndec, x_ndecf, x_ty_str_str, x_ty_str_tuple, x_ty_str_int, x_ty_str_bool, x_ty_str_list, x_ty_str_dict, x_ty_str_list_tuple, x_ty_str_tuple_list, x_ty_str_str_tuple, x_ty_str_tuple_str, x_ty_str_int_bool, x_ty_str_bool_int, x_ty_str_str_int, x_ty_str_int_str, x_ty_tuple_str, x_ty_tuple_tuple, x_ty_tuple_int, x_ty_tuple_bool, x_ty_tuple_list, x_ty_tuple_dict, x_ty_tuple_list_tuple, x_ty_tuple_tuple_list, x_ty_tuple_str_tuple, x_ty_tuple_tuple_str, x_ty_tuple_int_bool, x_ty_tuple_bool_int, x_ty_tuple_str_int, x_ty_tuple_int_str, x_ty_int_str, x_ty_int_tuple, x_ty_int_int, x_ty_int_bool, x_ty_int_list, x_ty_int_dict, x_ty_int_list_tuple, x_ty_int_tuple_list, x_ty_int_str_tuple, x_ty_int_tuple_str, x_ty_int_int_bool, x_ty_int_bool_int, x_ty_int_str_int, x_ty_int_int_str, x_ty_bool_str, x_ty_bool_tuple, x_ty_bool_int, x_ty_bool_bool, x_ty_bool_list, x_ty_bool_dict, x_ty_bool_list_tuple, x_ty_bool_tuple_list, x_ty_bool_str_tuple, x_ty_bool_tuple_str, x_ty_bool_int_bool, x_ty_bool_bool_int, x_ty_bool_str_int, x_ty_bool_int_str, x_ty_list_str, x_ty_list_tuple, x_ty_list_int, x_ty_list_bool, x_ty_list_list, x_ty_list_dict, x_ty_list_list_tuple, x_ty_list_tuple_list, x_ty_list_str_tuple, x_ty_list_tuple_str, x_ty_list_int_bool, x_ty_list_bool_int, x_ty_list_str_int, x_ty_list_int_str, x_ty_dict_str, x_ty_dict_tuple, x_ty_dict_int, x_ty_dict_bool, x_ty_dict_list, x_ty_dict_dict, x_ty_dict_list_tuple, x_ty_dict_tuple_list, x_ty_dict_str_tuple, x_ty_dict_tuple_str, x_ty_dict_int_bool, x_ty_dict_bool_int, x_ty_dict_str_int, x_ty_dict_int_str, x_puto, x_puto', List.map_cons, List.map_nil, List.length_cons, List.length_nil, List.cons_append, List.nil_append, List.replicate, Nat.sub_zero, Nat.sub_self, Nat.zero_add, Nat.reduceAdd, Nat.reduceSub, List.getElem?_cons_zero, List.getElem?_cons_succ, List.set_cons_zero, List.set_cons_succ, setF, wipeF, true_and, and_true, if_true, if_false, Bool.true_eq_false, Bool.false_eq_true, ite_true, ite_false, reduceIte, not_true_eq_false, not_false_eq_true, Bool.not_true, Bool.not_false, exists_eq_left', exists_const, ne_eq]
  refine loop_map (fun i : Int => D.int i) (fun _ => D.bl true) (fun _ _ => trivial) r (by omega) (fun x hx acc S1 N e1 ha hN => ?_) fun S1 e1 => ?_
  · try simp (maxSteps := 2000000) only [startF, wSs, wS, wE, wL, wO, wB, wI, x_add, x_adds, x_addl, x_addt, x_sub, x_mul, x_mult, x_mull, x_fdv, x_mod, x_pow, x_auga, x_augs, x_augm, x_eqi, x_eqs, x_eqb, x_nei, x_nes, x_neb, x_eqtt, x_eqrr, x_eqtr, x_eqrt, x_eqst, x_eqts, x_nett, x_nerr, x_netr, x_nert, x_nest, x_nets, x_lt, x_le, x_gt, x_ge, x_ins, x_isn, x_isnt, x_ixt, x_ixl, x_ixd, x_ixs, x_slt, x_sll, x_sls, x_std, x_stl, x_isin, x_isis, x_isit, x_isii, x_isib, x_lens, x_lent, x_lenf, x_lenl, x_inti, x_intb, x_abs, x_max2, x_min2, x_maxl, x_minl, x_mxd, x_tupl, x_tupt, x_lisl, x_list, x_liss, x_all, x_any, x_sum, x_repr, x_app, x_ext, x_pop, x_popa, x_join, x_rcva, x_rcve, x_rcvp, x_rcvq, x_rcvj, x_srct, x_srcf, x_srcs, x_srcl, x_seqt, x_seql, x_enu, x_enut, x_zipl, x_zipt, x_rng1, x_rng2, x_tg1, x_tgt, x_tgl, x_var, x_put, x_ex, x_exv, x_exl, x_exl0, x_exd, x_exb, x_exi, x_dec, x_decf, x_ndec, x_ndecf, x_ty_str_str, x_ty_str_tuple, x_ty_str_int, x_ty_str_bool, x_ty_str_list, x_ty_str_dict, x_ty_str_list_tuple, x_ty_str_tuple_list, x_ty_str_str_tuple, x_ty_str_tuple_str, x_ty_str_int_bool, x_ty_str_bool_int, x_ty_str_str_int, x_ty_str_int_str, x_ty_tuple_str, x_ty_tuple_tuple, x_ty_tuple_int, x_ty_tuple_bool, x_ty_tuple_list, x_ty_tuple_dict, x_ty_tuple_list_tuple, x_ty_tuple_tuple_list, x_ty_tuple_str_tuple, x_ty_tuple_tuple_str, x_ty_tuple_int_bool, x_ty_tuple_bool_int, x_ty_tuple_str_int, x_ty_tuple_int_str, x_ty_int_str, x_ty_int_tuple, x_ty_int_int, x_ty_int_bool, x_ty_int_list, x_ty_int_dict, x_ty_int_list_tuple, x_ty_int_tuple_list, x_ty_int_str_tuple, x_ty_int_tuple_str, x_ty_int_int_bool, x_ty_int_bool_int, x_ty_int_str_int, x_ty_int_int_str, x_ty_bool_str, x_ty_bool_tuple, x_ty_bool_int, x_ty_bool_bool, x_ty_bool_list, x_ty_bool_dict, x_ty_bool_list_tuple, x_ty_bool_tuple_list, x_ty_bool_str_tuple, x_ty_bool_tuple_str, x_ty_bool_int_bool, x_ty_bool_bool_int, x_ty_bool_str_int, x_ty_bool_int_str, x_ty_list_str, x_ty_list_tuple, x_ty_list_int, x_ty_list_bool, x_ty_list_list, x_ty_list_dict, x_ty_list_list_tuple, x_ty_list_tuple_list, x_ty_list_str_tuple, x_ty_list_tuple_str, x_ty_list_int_bool, x_ty_list_bool_int, x_ty_list_str_int, x_ty_list_int_str, x_ty_dict_str, x_ty_dict_tuple, x_ty_dict_int, x_ty_dict_bool, x_ty_dict_list, x_ty_dict_dict, x_ty_dict_list_tuple, x_ty_dict_tuple_list, x_ty_dict_str_tuple, x_ty_dict_tuple_str, x_ty_dict_int_bool, x_ty_dict_bool_int, x_ty_dict_str_int, x_ty_dict_int_str, x_puto, x_puto', List.map_cons, List.map_nil, List.length_cons, List.length_nil, List.cons_append, List.nil_append, List.replicate, Nat.sub_zero, Nat.sub_self, Nat.zero_add, Nat.reduceAdd, Nat.reduceSub, List.getElem?_cons_zero, List.getElem?_cons_succ, List.set_cons_zero, List.set_cons_succ, setF, wipeF, true_and, and_true, if_true, if_false, Bool.true_eq_false, Bool.false_eq_true, ite_true, ite_false, reduceIte, not_true_eq_false, not_false_eq_true, Bool.not_true, Bool.not_false, exists_eq_left', exists_const, ne_eq]
    refine d_is_number_i (by omega) ?_
    try simp (maxSteps := 2000000) only [startF, wSs, wS, wE, wL, wO, wB, wI, x_add, x_adds, x_addl, x_addt, x_sub, x_mul, x_mult, x_mull, x_fdv, x_mod, x_pow, x_auga, x_augs, x_augm, x_eqi, x_eqs, x_eqb, x_nei, x_nes, x_neb, x_eqtt, x_eqrr, x_eqtr, x_eqrt, x_eqst, x_eqts, x_nett, x_nerr, x_netr, x_nert, x_nest, x_nets, x_lt, x_le, x_gt, x_ge, x_ins, x_isn, x_isnt, x_ixt, x_ixl, x_ixd, x_ixs, x_slt, x_sll, x_sls, x_std, x_stl, x_isin, x_isis, x_isit, x_isii, x_isib, x_lens, x_lent, x_lenf, x_lenl, x_inti, x_intb, x_abs, x_max2, x_min2, x_maxl, x_minl, x_mxd, x_tupl, x_tupt, x_lisl, x_list, x_liss, x_all, x_any, x_sum, x_repr, x_app, x_ext, x_pop, x_popa, x_join, x_rcva, x_rcve, x_rcvp, x_rcvq, x_rcvj, x_srct, x_srcf, x_srcs, x_srcl, x_seqt, x_seql, x_enu, x_enut, x_zipl, x_zipt, x_rng1, x_rng2, x_tg1, x_tgt, x_tgl, x_var, x_put, x_ex, x_exv, x_exl, x_exl0, x_exd, x_exb, x_exi, x_dec, x_decf, x_ndec, x_ndecf, x_ty_str_str, x_ty_str_tuple, x_ty_str_int, x_ty_str_bool, x_ty_str_list, x_ty_str_dict, x_ty_str_list_tuple, x_ty_str_tuple_list, x_ty_str_str_tuple, x_ty_str_tuple_str, x_ty_str_int_bool, x_ty_str_bool_int, x_ty_str_str_int, x_ty_str_int_str, x_ty_tuple_str, x_ty_tuple_tuple, x_ty_tuple_int, x_ty_tuple_bool, x_ty_tuple_list, x_ty_tuple_dict, x_ty_tuple_list_tuple, x_ty_tuple_tuple_list, x_ty_tuple_str_tuple, x_ty_tuple_tuple_str, x_ty_tuple_int_bool, x_ty_tuple_bool_int, x_ty_tuple_str_int, x_ty_tuple_int_str, x_ty_int_str, x_ty_int_tuple, x_ty_int_int, x_ty_int_bool, x_ty_int_list, x_ty_int_dict, x_ty_int_list_tuple, x_ty_int_tuple_list, x_ty_int_str_tuple, x_ty_int_tuple_str, x_ty_int_int_bool, x_ty_int_bool_int, x_ty_int_str_int, x_ty_int_int_str, x_ty_bool_str, x_ty_bool_tuple, x_ty_bool_int, x_ty_bool_bool, x_ty_bool_list, x_ty_bool_dict, x_ty_bool_list_tuple, x_ty_bool_tuple_list, x_ty_bool_str_tuple, x_ty_bool_tuple_str, x_ty_bool_int_bool, x_ty_bool_bool_int, x_ty_bool_str_int, x_ty_bool_int_str, x_ty_list_str, x_ty_list_tuple, x_ty_list_int, x_ty_list_bool, x_ty_list_list, x_ty_list_dict, x_ty_list_list_tuple, x_ty_list_tuple_list, x_ty_list_str_tuple, x_ty_list_tuple_str, x_ty_list_int_bool, x_ty_list_bool_int, x_ty_list_str_int, x_ty_list_int_str, x_ty_dict_str, x_ty_dict_tuple, x_ty_dict_int, x_ty_dict_bool, x_ty_dict_list, x_ty_dict_dict, x_ty_dict_list_tuple, x_ty_dict_tuple_list, x_ty_dict_str_tuple, x_ty_dict_tuple_str, x_ty_dict_int_bool, x_ty_dict_bool_int, x_ty_dict_str_int, x_ty_dict_int_str, x_puto, x_puto', List.map_cons, List.map_nil, List.length_cons, List.length_nil, List.cons_append, List.nil_append, List.replicate, Nat.sub_zero, Nat.sub_self, Nat.zero_add, Nat.reduceAdd, Nat.reduceSub, List.getElem?_cons_zero, List.getElem?_cons_succ, List.set_cons_zero, List.set_cons_succ, setF, wipeF, true_and, and_true, if_true, if_false, Bool.true_eq_false, Bool.false_eq_true, ite_true, ite_false, reduceIte, not_true_eq_false, not_false_eq_true, Bool.not_true, Bool.not_false, exists_eq_left', exists_const, ne_eq]
    exact ⟨ha, hN S1 .refl⟩
  · try simp (maxSteps := 2000000) only [startF, wSs, wS, wE, wL, wO, wB, wI, x_add, x_adds, x_addl, x_addt, x_sub, x_mul, x_mult, x_mull, x_fdv, x_mod, x_pow, x_auga, x_augs, x_augm, x_eqi, x_eqs, x_eqb, x_nei, x_nes, x_neb, x_eqtt, x_eqrr, x_eqtr, x_eqrt, x_eqst, x_eqts, x_nett, x_nerr, x_netr, x_nert, x_nest, x_nets, x_lt, x_le, x_gt, x_ge, x_ins, x_isn, x_isnt, x_ixt, x_ixl, x_ixd, x_ixs, x_slt, x_sll, x_sls, x_std, x_stl, x_isin, x_isis, x_isit, x_isii, x_isib, x_lens, x_lent, x_lenf, x_lenl, x_inti, x_intb, x_abs, x_max2, x_min2, x_maxl, x_minl, x_mxd, x_tupl, x_tupt, x_lisl, x_list, x_liss, x_all, x_any, x_sum, x_repr, x_app, x_ext, x_pop, x_popa, x_join, x_rcva, x_rcve, x_rcvp, x_rcvq, x_rcvj, x_srct, x_srcf, x_srcs, x_srcl, x_seqt, x_seql, x_enu, x_enut, x_zipl, x_zipt, x_rng1, x_rng2, x_tg1, x_tgt, x_tgl, x_var, x_put, x_ex, x_exv, x_exl, x_exl0, x_exd, x_exb, x_exi, x_dec, x_decf, x_ndec, x_ndecf, x_ty_str_str, x_ty_str_tuple, x_ty_str_int, x_ty_str_bool, x_ty_str_list, x_ty_str_dict, x_ty_str_list_tuple, x_ty_str_tuple_list, x_ty_str_str_tuple, x_ty_str_tuple_str, x_ty_str_int_bool, x_ty_str_bool_int, x_ty_str_str_int, x_ty_str_int_str, x_ty_tuple_str, x_ty_tuple_tuple, x_ty_tuple_int, x_ty_tuple_bool, x_ty_tuple_list, x_ty_tuple_dict, x_ty_tuple_list_tuple, x_ty_tuple_tuple_list, x_ty_tuple_str_tuple, x_ty_tuple_tuple_str, x_ty_tuple_int_bool, x_ty_tuple_bool_int, x_ty_tuple_str_int, x_ty_tuple_int_str, x_ty_int_str, x_ty_int_tuple, x_ty_int_int, x_ty_int_bool, x_ty_int_list, x_ty_int_dict, x_ty_int_list_tuple, x_ty_int_tuple_list, x_ty_int_str_tuple, x_ty_int_tuple_str, x_ty_int_int_bool, x_ty_int_bool_int, x_ty_int_str_int, x_ty_int_int_str, x_ty_bool_str, x_ty_bool_tuple, x_ty_bool_int, x_ty_bool_bool, x_ty_bool_list, x_ty_bool_dict, x_ty_bool_list_tuple, x_ty_bool_tuple_list, x_ty_bool_str_tuple, x_ty_bool_tuple_str, x_ty_bool_int_bool, x_ty_bool_bool_int, x_ty_bool_str_int, x_ty_bool_int_str, x_ty_list_str, x_ty_list_tuple, x_ty_list_int, x_ty_list_bool, x_ty_list_list, x_ty_list_dict, x_ty_list_list_tuple, x_ty_list_tuple_list, x_ty_list_str_tuple, x_ty_list_tuple_str, x_ty_list_int_bool, x_ty_list_bool_int, x_ty_list_str_int, x_ty_list_int_str, x_ty_dict_str, x_ty_dict_tuple, x_ty_dict_int, x_ty_dict_bool, x_ty_dict_list, x_ty_dict_dict, x_ty_dict_list_tuple, x_ty_dict_tuple_list, x_ty_dict_str_tuple, x_ty_dict_tuple_str, x_ty_dict_int_bool, x_ty_dict_bool_int, x_ty_dict_str_int, x_ty_dict_int_str, x_puto, x_puto', List.map_cons, List.map_nil, List.length_cons, List.length_nil, List.cons_append, List.nil_append, List.replicate, Nat.sub_zero, Nat.sub_self, Nat.zero_add, Nat.reduceAdd, Nat.reduceSub, List.getElem?_cons_zero, List.getElem?_cons_succ, List.set_cons_zero, List.set_cons_succ, setF, wipeF, true_and, and_true, if_true, if_false, Bool.true_eq_false, Bool.false_eq_true, ite_true, ite_false, reduceIte, not_true_eq_false, not_false_eq_true, Bool.not_true, Bool.not_false, exists_eq_left', exists_const, ne_eq]
    intro p hp
    refine ⟨true, allB_true r, ?_⟩
    exact hQ _ (e1.trans (Ext.new hp))
/-- the term at a path -/
def fnd : List T → Str → P → List Int → Option (List T × Str × P)
  | hs, w, t, [] => some (hs, w, t)
  | hs, _, .p i xs, j :: js => match at? hs i with
    | none => none
    | some h => match at? h.pa j with
      | none => none
      | some g => if 0 ≤ j then match xs[j.toNat]? with
        | none => none
        | some x => fnd (hs ++ g.pa) (eN g) x js
        else none
theorem d_found_at {k : Nat} {t : T} {p : P} {r : List Int} {hs : List T} {w : Str} {q : P} {S : Sto} {Q : KE} {E : XE} (hk : 5 ≤ k) (hl : r.length ≤ 1000) (ht : hf 4 t = true) (he : fnd t.pa (eN t) p r = some (hs, w, q)) (hQ : Q (.tup [.tup (T.ds hs), .str w, q.d]) S) : wC tab k "found_at" [t.d, p.d, rwD r] S Q E := by
  refine wd (fd := f_found_at) (by omega) rfl rfl ?_
  unfold f_found_at
  try simp (maxSteps := 2000000) only [startF, wSs, wS, wE, wL, wO, wB, wI, x_add, x_adds, x_addl, x_addt, x_sub, x_mul, x_mult, x_mull, x_fdv, x_mod, x_pow, x_auga, x_augs, x_augm, x_eqi, x_eqs, x_eqb, x_nei, x_nes, x_neb, x_eqtt, x_eqrr, x_eqtr, x_eqrt, x_eqst, x_eqts, x_nett, x_nerr, x_netr, x_nert, x_nest, x_nets, x_lt, x_le, x_gt, x_ge, x_ins, x_isn, x_isnt, x_ixt, x_ixl, x_ixd, x_ixs, x_slt, x_sll, x_sls, x_std, x_stl, x_isin, x_isis, x_isit, x_isii, x_isib, x_lens, x_lent, x_lenf, x_lenl, x_inti, x_intb, x_abs, x_max2, x_min2, x_maxl, x_minl, x_mxd, x_tupl, x_tupt, x_lisl, x_list, x_liss, x_all, x_any, x_sum, x_repr, x_app, x_ext, x_pop, x_popa, x_join, x_rcva, x_rcve, x_rcvp, x_rcvq, x_rcvj, x_srct, x_srcf, x_srcs, x_srcl, x_seqt, x_seql, x_enu, x_enut, x_zipl, x_zipt, x_rng1, x_rng2, x_tg1, x_tgt, x_tgl, x_var, x_put, x_ex, x_exv, x_exl, x_exl0, x_exd, x_exb, x_exi, x_dec, x_decf, x_ndec, x_ndecf, x_ty_str_str, x_ty_str_tuple, x_ty_str_int, x_ty_str_bool, x_ty_str_list, x_ty_str_dict, x_ty_str_list_tuple, x_ty_str_tuple_list, x_ty_str_str_tuple, x_ty_str_tuple_str, x_ty_str_int_bool, x_ty_str_bool_int, x_ty_str_str_int, x_ty_str_int_str, x_ty_tuple_str, x_ty_tuple_tuple, x_ty_tuple_int, x_ty_tuple_bool, x_ty_tuple_list, x_ty_tuple_dict, x_ty_tuple_list_tuple, x_ty_tuple_tuple_list, x_ty_tuple_str_tuple, x_ty_tuple_tuple_str, x_ty_tuple_int_bool, x_ty_tuple_bool_int, x_ty_tuple_str_int, x_ty_tuple_int_str, x_ty_int_str, x_ty_int_tuple, x_ty_int_int, x_ty_int_bool, x_ty_int_list, x_ty_int_dict, x_ty_int_list_tuple, x_ty_int_tuple_list, x_ty_int_str_tuple, x_ty_int_tuple_str, x_ty_int_int_bool, x_ty_int_bool_int, x_ty_int_str_int, x_ty_int_int_str, x_ty_bool_str, x_ty_bool_tuple, x_ty_bool_int, x_ty_bool_bool, x_ty_bool_list, x_ty_bool_dict, x_ty_bool_list_tuple, x_ty_bool_tuple_list, x_ty_bool_str_tuple, x_ty_bool_tuple_str, x_ty_bool_int_bool, x_ty_bool_bool_int, x_ty_bool_str_int, x_ty_bool_int_str, x_ty_list_str, x_ty_list_tuple, x_ty_list_int, x_ty_list_bool, x_ty_list_list, x_ty_list_dict, x_ty_list_list_tuple, x_ty_list_tuple_list, x_ty_list_str_tuple, x_ty_list_tuple_str, x_ty_list_int_bool, x_ty_list_bool_int, x_ty_list_str_int, x_ty_list_int_str, x_ty_dict_str, x_ty_dict_tuple, x_ty_dict_int, x_ty_dict_bool, x_ty_dict_list, x_ty_dict_dict, x_ty_dict_list_tuple, x_ty_dict_tuple_list, x_ty_dict_str_tuple, x_ty_dict_tuple_str, x_ty_dict_int_bool, x_ty_dict_bool_int, x_ty_dict_str_int, x_ty_dict_int_str, x_puto, x_puto', List.map_cons, List.map_nil, List.length_cons, List.length_nil, List.cons_append, List.nil_append, List.replicate, Nat.sub_zero, Nat.sub_self, Nat.zero_add, Nat.reduceAdd, Nat.reduceSub, List.getElem?_cons_zero, List.getElem?_cons_succ, List.set_cons_zero, List.set_cons_succ, setF, wipeF, true_and, and_true, if_true, if_false, Bool.true_eq_false, Bool.false_eq_true, ite_true, ite_false, reduceIte, not_true_eq_false, not_false_eq_true, Bool.not_true, Bool.not_false, exists_eq_left', exists_const, ne_eq]
  refine inner_p (by omega) ?_
  try simp (maxSteps := 2000000) only [startF, wSs, wS, wE, wL, wO, wB, wI, x_add, x_adds, x_addl, x_addt, x_sub, x_mul, x_mult, x_mull, x_fdv, x_mod, x_pow, x_auga, x_augs, x_augm, x_eqi, x_eqs, x_eqb, x_nei, x_nes, x_neb, x_eqtt, x_eqrr, x_eqtr, x_eqrt, x_eqst, x_eqts, x_nett, x_nerr, x_netr, x_nert, x_nest, x_nets, x_lt, x_le, x_gt, x_ge, x_ins, x_isn, x_isnt, x_ixt, x_ixl, x_ixd, x_ixs, x_slt, x_sll, x_sls, x_std, x_stl, x_isin, x_isis, x_isit, x_isii, x_isib, x_lens, x_lent, x_lenf, x_lenl, x_inti, x_intb, x_abs, x_max2, x_min2, x_maxl, x_minl, x_mxd, x_tupl, x_tupt, x_lisl, x_list, x_liss, x_all, x_any, x_sum, x_repr, x_app, x_ext, x_pop, x_popa, x_join, x_rcva, x_rcve, x_rcvp, x_rcvq, x_rcvj, x_srct, x_srcf, x_srcs, x_srcl, x_seqt, x_seql, x_enu, x_enut, x_zipl, x_zipt, x_rng1, x_rng2, x_tg1, x_tgt, x_tgl, x_var, x_put, x_ex, x_exv, x_exl, x_exl0, x_exd, x_exb, x_exi, x_dec, x_decf, x_ndec, x_ndecf, x_ty_str_str, x_ty_str_tuple, x_ty_str_int, x_ty_str_bool, x_ty_str_list, x_ty_str_dict, x_ty_str_list_tuple, x_ty_str_tuple_list, x_ty_str_str_tuple, x_ty_str_tuple_str, x_ty_str_int_bool, x_ty_str_bool_int, x_ty_str_str_int, x_ty_str_int_str, x_ty_tuple_str, x_ty_tuple_tuple, x_ty_tuple_int, x_ty_tuple_bool, x_ty_tuple_list, x_ty_tuple_dict, x_ty_tuple_list_tuple, x_ty_tuple_tuple_list, x_ty_tuple_str_tuple, x_ty_tuple_tuple_str, x_ty_tuple_int_bool, x_ty_tuple_bool_int, x_ty_tuple_str_int, x_ty_tuple_int_str, x_ty_int_str, x_ty_int_tuple, x_ty_int_int, x_ty_int_bool, x_ty_int_list, x_ty_int_dict, x_ty_int_list_tuple, x_ty_int_tuple_list, x_ty_int_str_tuple, x_ty_int_tuple_str, x_ty_int_int_bool, x_ty_int_bool_int, x_ty_int_str_int, x_ty_int_int_str, x_ty_bool_str, x_ty_bool_tuple, x_ty_bool_int, x_ty_bool_bool, x_ty_bool_list, x_ty_bool_dict, x_ty_bool_list_tuple, x_ty_bool_tuple_list, x_ty_bool_str_tuple, x_ty_bool_tuple_str, x_ty_bool_int_bool, x_ty_bool_bool_int, x_ty_bool_str_int, x_ty_bool_int_str, x_ty_list_str, x_ty_list_tuple, x_ty_list_int, x_ty_list_bool, x_ty_list_list, x_ty_list_dict, x_ty_list_list_tuple, x_ty_list_tuple_list, x_ty_list_str_tuple, x_ty_list_tuple_str, x_ty_list_int_bool, x_ty_list_bool_int, x_ty_list_str_int, x_ty_list_int_str, x_ty_dict_str, x_ty_dict_tuple, x_ty_dict_int, x_ty_dict_bool, x_ty_dict_list, x_ty_dict_dict, x_ty_dict_list_tuple, x_ty_dict_tuple_list, x_ty_dict_str_tuple, x_ty_dict_tuple_str, x_ty_dict_int_bool, x_ty_dict_bool_int, x_ty_dict_str_int, x_ty_dict_int_str, x_puto, x_puto', List.map_cons, List.map_nil, List.length_cons, List.length_nil, List.cons_append, List.nil_append, List.replicate, Nat.sub_zero, Nat.sub_self, Nat.zero_add, Nat.reduceAdd, Nat.reduceSub, List.getElem?_cons_zero, List.getElem?_cons_succ, List.set_cons_zero, List.set_cons_succ, setF, wipeF, true_and, and_true, if_true, if_false, Bool.true_eq_false, Bool.false_eq_true, ite_true, ite_false, reduceIte, not_true_eq_false, not_false_eq_true, Bool.not_true, Bool.not_false, exists_eq_left', exists_const, ne_eq]
  refine inner_e (by omega) (hf_ne ht) ?_
  rw [en_name ht]
  simp only [T.d]
  unfold rwD
  try simp (maxSteps := 2000000) only [startF, wSs, wS, wE, wL, wO, wB, wI, x_add, x_adds, x_addl, x_addt, x_sub, x_mul, x_mult, x_mull, x_fdv, x_mod, x_pow, x_auga, x_augs, x_augm, x_eqi, x_eqs, x_eqb, x_nei, x_nes, x_neb, x_eqtt, x_eqrr, x_eqtr, x_eqrt, x_eqst, x_eqts, x_nett, x_nerr, x_netr, x_nert, x_nest, x_nets, x_lt, x_le, x_gt, x_ge, x_ins, x_isn, x_isnt, x_ixt, x_ixl, x_ixd, x_ixs, x_slt, x_sll, x_sls, x_std, x_stl, x_isin, x_isis, x_isit, x_isii, x_isib, x_lens, x_lent, x_lenf, x_lenl, x_inti, x_intb, x_abs, x_max2, x_min2, x_maxl, x_minl, x_mxd, x_tupl, x_tupt, x_lisl, x_list, x_liss, x_all, x_any, x_sum, x_repr, x_app, x_ext, x_pop, x_popa, x_join, x_rcva, x_rcve, x_rcvp, x_rcvq, x_rcvj, x_srct, x_srcf, x_srcs, x_srcl, x_seqt, x_seql, x_enu, x_enut, x_zipl, x_zipt, x_rng1, x_rng2, x_tg1, x_tgt, x_tgl, x_var, x_put, x_ex, x_exv, x_exl, x_exl0, x_exd, x_exb, x_exi, x_dec, x_decf, x_ndec, x_ndecf, x_ty_str_str, x_ty_str_tuple, x_ty_str_int, x_ty_str_bool, x_ty_str_list, x_ty_str_dict, x_ty_str_list_tuple, x_ty_str_tuple_list, x_ty_str_str_tuple, x_ty_str_tuple_str, x_ty_str_int_bool, x_ty_str_bool_int, x_ty_str_str_int, x_ty_str_int_str, x_ty_tuple_str, x_ty_tuple_tuple, x_ty_tuple_int, x_ty_tuple_bool, x_ty_tuple_list, x_ty_tuple_dict, x_ty_tuple_list_tuple, x_ty_tuple_tuple_list, x_ty_tuple_str_tuple, x_ty_tuple_tuple_str, x_ty_tuple_int_bool, x_ty_tuple_bool_int, x_ty_tuple_str_int, x_ty_tuple_int_str, x_ty_int_str, x_ty_int_tuple, x_ty_int_int, x_ty_int_bool, x_ty_int_list, x_ty_int_dict, x_ty_int_list_tuple, x_ty_int_tuple_list, x_ty_int_str_tuple, x_ty_int_tuple_str, x_ty_int_int_bool, x_ty_int_bool_int, x_ty_int_str_int, x_ty_int_int_str, x_ty_bool_str, x_ty_bool_tuple, x_ty_bool_int, x_ty_bool_bool, x_ty_bool_list, x_ty_bool_dict, x_ty_bool_list_tuple, x_ty_bool_tuple_list, x_ty_bool_str_tuple, x_ty_bool_tuple_str, x_ty_bool_int_bool, x_ty_bool_bool_int, x_ty_bool_str_int, x_ty_bool_int_str, x_ty_list_str, x_ty_list_tuple, x_ty_list_int, x_ty_list_bool, x_ty_list_list, x_ty_list_dict, x_ty_list_list_tuple, x_ty_list_tuple_list, x_ty_list_str_tuple, x_ty_list_tuple_str, x_ty_list_int_bool, x_ty_list_bool_int, x_ty_list_str_int, x_ty_list_int_str, x_ty_dict_str, x_ty_dict_tuple, x_ty_dict_int, x_ty_dict_bool, x_ty_dict_list, x_ty_dict_dict, x_ty_dict_list_tuple, x_ty_dict_tuple_list, x_ty_dict_str_tuple, x_ty_dict_tuple_str, x_ty_dict_int_bool, x_ty_dict_bool_int, x_ty_dict_str_int, x_ty_dict_int_str, x_puto, x_puto', List.map_cons, List.map_nil, List.length_cons, List.length_nil, List.cons_append, List.nil_append, List.replicate, Nat.sub_zero, Nat.sub_self, Nat.zero_add, Nat.reduceAdd, Nat.reduceSub, List.getElem?_cons_zero, List.getElem?_cons_succ, List.set_cons_zero, List.set_cons_succ, setF, wipeF, true_and, and_true, if_true, if_false, Bool.true_eq_false, Bool.false_eq_true, ite_true, ite_false, reduceIte, not_true_eq_false, not_false_eq_true, Bool.not_true, Bool.not_false, exists_eq_left', exists_const, ne_eq]
  have h7 := pa_few ht
  refine loop_ok (fun zs φ S' => ∃ (js : List Int) (hs' : List T) (w' : Str) (q' : P) (o3 o7 : Option D), zs = js.map D.int ∧ φ = [some t.d, some p.d, some (.tup (r.map D.int)), o3, some (.tup (T.ds hs')), some (.str w'), some q'.d, o7] ∧ S' = S ∧ HK hs' ∧ hs'.length + 7 * js.length ≤ 100000 ∧ fnd hs' w' q' js = some (hs, w, q)) (fun _ _ _ _ => trivial) ?_ ?_ ⟨r, t.pa, eN t, p, none, none, rfl, rfl, rfl, HK.pa ht, by omega, he⟩
  · rintro φ S' ⟨js, hs', w', q', o3, o7, hz, rfl, rfl, hK, hn, hf⟩
    cases js with
    | nil =>
      unfold fnd at hf
      cases hf
      try simp (maxSteps := 2000000) only [startF, wSs, wS, wE, wL, wO, wB, wI, x_add, x_adds, x_addl, x_addt, x_sub, x_mul, x_mult, x_mull, x_fdv, x_mod, x_pow, x_auga, x_augs, x_augm, x_eqi, x_eqs, x_eqb, x_nei, x_nes, x_neb, x_eqtt, x_eqrr, x_eqtr, x_eqrt, x_eqst, x_eqts, x_nett, x_nerr, x_netr, x_nert, x_nest, x_nets, x_lt, x_le, x_gt, x_ge, x_ins, x_isn, x_isnt, x_ixt, x_ixl, x_ixd, x_ixs, x_slt, x_sll, x_sls, x_std, x_stl, x_isin, x_isis, x_isit, x_isii, x_isib, x_lens, x_lent, x_lenf, x_lenl, x_inti, x_intb, x_abs, x_max2, x_min2, x_maxl, x_minl, x_mxd, x_tupl, x_tupt, x_lisl, x_list, x_liss, x_all, x_any, x_sum, x_repr, x_app, x_ext, x_pop, x_popa, x_join, x_rcva, x_rcve, x_rcvp, x_rcvq, x_rcvj, x_srct, x_srcf, x_srcs, x_srcl, x_seqt, x_seql, x_enu, x_enut, x_zipl, x_zipt, x_rng1, x_rng2, x_tg1, x_tgt, x_tgl, x_var, x_put, x_ex, x_exv, x_exl, x_exl0, x_exd, x_exb, x_exi, x_dec, x_decf, x_ndec, x_ndecf, x_ty_str_str, x_ty_str_tuple, x_ty_str_int, x_ty_str_bool, x_ty_str_list, x_ty_str_dict, x_ty_str_list_tuple, x_ty_str_tuple_list, x_ty_str_str_tuple, x_ty_str_tuple_str, x_ty_str_int_bool, x_ty_str_bool_int, x_ty_str_str_int, x_ty_str_int_str, x_ty_tuple_str, x_ty_tuple_tuple, x_ty_tuple_int, x_ty_tuple_bool, x_ty_tuple_list, x_ty_tuple_dict, x_ty_tuple_list_tuple, x_ty_tuple_tuple_list, x_ty_tuple_str_tuple, x_ty_tuple_tuple_str, x_ty_tuple_int_bool, x_ty_tuple_bool_int, x_ty_tuple_str_int, x_ty_tuple_int_str, x_ty_int_str, x_ty_int_tuple, x_ty_int_int, x_ty_int_bool, x_ty_int_list, x_ty_int_dict, x_ty_int_list_tuple, x_ty_int_tuple_list, x_ty_int_str_tuple, x_ty_int_tuple_str, x_ty_int_int_bool, x_ty_int_bool_int, x_ty_int_str_int, x_ty_int_int_str, x_ty_bool_str, x_ty_bool_tuple, x_ty_bool_int, x_ty_bool_bool, x_ty_bool_list, x_ty_bool_dict, x_ty_bool_list_tuple, x_ty_bool_tuple_list, x_ty_bool_str_tuple, x_ty_bool_tuple_str, x_ty_bool_int_bool, x_ty_bool_bool_int, x_ty_bool_str_int, x_ty_bool_int_str, x_ty_list_str, x_ty_list_tuple, x_ty_list_int, x_ty_list_bool, x_ty_list_list, x_ty_list_dict, x_ty_list_list_tuple, x_ty_list_tuple_list, x_ty_list_str_tuple, x_ty_list_tuple_str, x_ty_list_int_bool, x_ty_list_bool_int, x_ty_list_str_int, x_ty_list_int_str, x_ty_dict_str, x_ty_dict_tuple, x_ty_dict_int, x_ty_dict_bool, x_ty_dict_list, x_ty_dict_dict, x_ty_dict_list_tuple, x_ty_dict_tuple_list, x_ty_dict_str_tuple, x_ty_dict_tuple_str, x_ty_dict_int_bool, x_ty_dict_bool_int, x_ty_dict_str_int, x_ty_dict_int_str, x_puto, x_puto', List.map_cons, List.map_nil, List.length_cons, List.length_nil, List.cons_append, List.nil_append, List.replicate, Nat.sub_zero, Nat.sub_self, Nat.zero_add, Nat.reduceAdd, Nat.reduceSub, List.getElem?_cons_zero, List.getElem?_cons_succ, List.set_cons_zero, List.set_cons_succ, setF, wipeF, true_and, and_true, if_true, if_false, Bool.true_eq_false, Bool.false_eq_true, ite_true, ite_false, reduceIte, not_true_eq_false, not_false_eq_true, Bool.not_true, Bool.not_false, exists_eq_left', exists_const, ne_eq]
      exact ⟨by rw [sizeLine_eq]; decide, hQ⟩
    | cons j js => cases hz
  · rintro z zs φ S' N ⟨js, hs', w', q', o3, o7, hz, rfl, rfl, hK, hn, hf⟩ hN
    cases js with
    | nil => cases hz
    | cons j js =>
      cases hz
      obtain ⟨i, xs⟩ := q'
      unfold fnd at hf
      cases e1 : at? hs' i with
      | none => rw [e1] at hf; cases hf
      | some h =>
        rw [e1] at hf
        dsimp only at hf
        cases e2 : at? h.pa j with
        | none => rw [e2] at hf; cases hf
        | some g =>
          rw [e2] at hf
          dsimp only at hf
          obtain ⟨a1, a2, a3, a4⟩ := at_get e1
          obtain ⟨b1, b2, b3, b4⟩ := at_get e2
          rw [if_pos b1] at hf
          cases e3 : xs[j.toNat]? with
          | none => rw [e3] at hf; cases hf
          | some x =>
            rw [e3] at hf
            dsimp only at hf
            have h4 := hK h a4
            have g4 := hf_mono (show 4 - 1 ≤ 4 by decide) (pa_hf h4 b4).1
            have g7 := pa_few g4
            obtain ⟨c1, c2⟩ := List.getElem?_eq_some_iff.mp e3
            have c3 : L2.atI (.int i :: P.ds xs) (j + 1) = some x.d := by
              unfold L2.atI L2.ixN
              have ej : (j + 1).toNat = j.toNat + 1 := by omega
              rw [if_pos (by omega), if_pos (by rw [List.length_cons, P.ds_len]; omega), ej]
              show (P.ds xs)[j.toNat]? = _
              rw [P.ds_map, List.getElem?_map, e3]
              rfl
            simp only [P.d]
            rw [List.length_cons] at hn
            try simp (maxSteps := 2000000) only [startF, wSs, wS, wE, wL, wO, wB, wI, x_add, x_adds, x_addl, x_addt, x_sub, x_mul, x_mult, x_mull, x_fdv, x_mod, x_pow, x_auga, x_augs, x_augm, x_eqi, x_eqs, x_eqb, x_nei, x_nes, x_neb, x_eqtt, x_eqrr, x_eqtr, x_eqrt, x_eqst, x_eqts, x_nett, x_nerr, x_netr, x_nert, x_nest, x_nets, x_lt, x_le, x_gt, x_ge, x_ins, x_isn, x_isnt, x_ixt, x_ixl, x_ixd, x_ixs, x_slt, x_sll, x_sls, x_std, x_stl, x_isin, x_isis, x_isit, x_isii, x_isib, x_lens, x_lent, x_lenf, x_lenl, x_inti, x_intb, x_abs, x_max2, x_min2, x_maxl, x_minl, x_mxd, x_tupl, x_tupt, x_lisl, x_list, x_liss, x_all, x_any, x_sum, x_repr, x_app, x_ext, x_pop, x_popa, x_join, x_rcva, x_rcve, x_rcvp, x_rcvq, x_rcvj, x_srct, x_srcf, x_srcs, x_srcl, x_seqt, x_seql, x_enu, x_enut, x_zipl, x_zipt, x_rng1, x_rng2, x_tg1, x_tgt, x_tgl, x_var, x_put, x_ex, x_exv, x_exl, x_exl0, x_exd, x_exb, x_exi, x_dec, x_decf, x_ndec, x_ndecf, x_ty_str_str, x_ty_str_tuple, x_ty_str_int, x_ty_str_bool, x_ty_str_list, x_ty_str_dict, x_ty_str_list_tuple, x_ty_str_tuple_list, x_ty_str_str_tuple, x_ty_str_tuple_str, x_ty_str_int_bool, x_ty_str_bool_int, x_ty_str_str_int, x_ty_str_int_str, x_ty_tuple_str, x_ty_tuple_tuple, x_ty_tuple_int, x_ty_tuple_bool, x_ty_tuple_list, x_ty_tuple_dict, x_ty_tuple_list_tuple, x_ty_tuple_tuple_list, x_ty_tuple_str_tuple, x_ty_tuple_tuple_str, x_ty_tuple_int_bool, x_ty_tuple_bool_int, x_ty_tuple_str_int, x_ty_tuple_int_str, x_ty_int_str, x_ty_int_tuple, x_ty_int_int, x_ty_int_bool, x_ty_int_list, x_ty_int_dict, x_ty_int_list_tuple, x_ty_int_tuple_list, x_ty_int_str_tuple, x_ty_int_tuple_str, x_ty_int_int_bool, x_ty_int_bool_int, x_ty_int_str_int, x_ty_int_int_str, x_ty_bool_str, x_ty_bool_tuple, x_ty_bool_int, x_ty_bool_bool, x_ty_bool_list, x_ty_bool_dict, x_ty_bool_list_tuple, x_ty_bool_tuple_list, x_ty_bool_str_tuple, x_ty_bool_tuple_str, x_ty_bool_int_bool, x_ty_bool_bool_int, x_ty_bool_str_int, x_ty_bool_int_str, x_ty_list_str, x_ty_list_tuple, x_ty_list_int, x_ty_list_bool, x_ty_list_list, x_ty_list_dict, x_ty_list_list_tuple, x_ty_list_tuple_list, x_ty_list_str_tuple, x_ty_list_tuple_str, x_ty_list_int_bool, x_ty_list_bool_int, x_ty_list_str_int, x_ty_list_int_str, x_ty_dict_str, x_ty_dict_tuple, x_ty_dict_int, x_ty_dict_bool, x_ty_dict_list, x_ty_dict_dict, x_ty_dict_list_tuple, x_ty_dict_tuple_list, x_ty_dict_str_tuple, x_ty_dict_tuple_str, x_ty_dict_int_bool, x_ty_dict_bool_int, x_ty_dict_str_int, x_ty_dict_int_str, x_puto, x_puto', List.map_cons, List.map_nil, List.length_cons, List.length_nil, List.cons_append, List.nil_append, List.replicate, Nat.sub_zero, Nat.sub_self, Nat.zero_add, Nat.reduceAdd, Nat.reduceSub, List.getElem?_cons_zero, List.getElem?_cons_succ, List.set_cons_zero, List.set_cons_succ, setF, wipeF, true_and, and_true, if_true, if_false, Bool.true_eq_false, Bool.false_eq_true, ite_true, ite_false, reduceIte, not_true_eq_false, not_false_eq_true, Bool.not_true, Bool.not_false, exists_eq_left', exists_const, ne_eq, atI_0, P.ds_len]
            rw [if_pos (show isNon (D.tup (D.int i :: P.ds xs)) = false from rfl), if_pos b1, if_pos (show j < ((xs.length + 1 : Nat) : Int) - 1 by omega)]
            refine ⟨_, a3, ?_⟩
            refine inner_p (by omega) ?_
            try simp (maxSteps := 2000000) only [startF, wSs, wS, wE, wL, wO, wB, wI, x_add, x_adds, x_addl, x_addt, x_sub, x_mul, x_mult, x_mull, x_fdv, x_mod, x_pow, x_auga, x_augs, x_augm, x_eqi, x_eqs, x_eqb, x_nei, x_nes, x_neb, x_eqtt, x_eqrr, x_eqtr, x_eqrt, x_eqst, x_eqts, x_nett, x_nerr, x_netr, x_nert, x_nest, x_nets, x_lt, x_le, x_gt, x_ge, x_ins, x_isn, x_isnt, x_ixt, x_ixl, x_ixd, x_ixs, x_slt, x_sll, x_sls, x_std, x_stl, x_isin, x_isis, x_isit, x_isii, x_isib, x_lens, x_lent, x_lenf, x_lenl, x_inti, x_intb, x_abs, x_max2, x_min2, x_maxl, x_minl, x_mxd, x_tupl, x_tupt, x_lisl, x_list, x_liss, x_all, x_any, x_sum, x_repr, x_app, x_ext, x_pop, x_popa, x_join, x_rcva, x_rcve, x_rcvp, x_rcvq, x_rcvj, x_srct, x_srcf, x_srcs, x_srcl, x_seqt, x_seql, x_enu, x_enut, x_zipl, x_zipt, x_rng1, x_rng2, x_tg1, x_tgt, x_tgl, x_var, x_put, x_ex, x_exv, x_exl, x_exl0, x_exd, x_exb, x_exi, x_dec, x_decf, x_ndec, x_ndecf, x_ty_str_str, x_ty_str_tuple, x_ty_str_int, x_ty_str_bool, x_ty_str_list, x_ty_str_dict, x_ty_str_list_tuple, x_ty_str_tuple_list, x_ty_str_str_tuple, x_ty_str_tuple_str, x_ty_str_int_bool, x_ty_str_bool_int, x_ty_str_str_int, x_ty_str_int_str, x_ty_tuple_str, x_ty_tuple_tuple, x_ty_tuple_int, x_ty_tuple_bool, x_ty_tuple_list, x_ty_tuple_dict, x_ty_tuple_list_tuple, x_ty_tuple_tuple_list, x_ty_tuple_str_tuple, x_ty_tuple_tuple_str, x_ty_tuple_int_bool, x_ty_tuple_bool_int, x_ty_tuple_str_int, x_ty_tuple_int_str, x_ty_int_str, x_ty_int_tuple, x_ty_int_int, x_ty_int_bool, x_ty_int_list, x_ty_int_dict, x_ty_int_list_tuple, x_ty_int_tuple_list, x_ty_int_str_tuple, x_ty_int_tuple_str, x_ty_int_int_bool, x_ty_int_bool_int, x_ty_int_str_int, x_ty_int_int_str, x_ty_bool_str, x_ty_bool_tuple, x_ty_bool_int, x_ty_bool_bool, x_ty_bool_list, x_ty_bool_dict, x_ty_bool_list_tuple, x_ty_bool_tuple_list, x_ty_bool_str_tuple, x_ty_bool_tuple_str, x_ty_bool_int_bool, x_ty_bool_bool_int, x_ty_bool_str_int, x_ty_bool_int_str, x_ty_list_str, x_ty_list_tuple, x_ty_list_int, x_ty_list_bool, x_ty_list_list, x_ty_list_dict, x_ty_list_list_tuple, x_ty_list_tuple_list, x_ty_list_str_tuple, x_ty_list_tuple_str, x_ty_list_int_bool, x_ty_list_bool_int, x_ty_list_str_int, x_ty_list_int_str, x_ty_dict_str, x_ty_dict_tuple, x_ty_dict_int, x_ty_dict_bool, x_ty_dict_list, x_ty_dict_dict, x_ty_dict_list_tuple, x_ty_dict_tuple_list, x_ty_dict_str_tuple, x_ty_dict_tuple_str, x_ty_dict_int_bool, x_ty_dict_bool_int, x_ty_dict_str_int, x_ty_dict_int_str, x_puto, x_puto', List.map_cons, List.map_nil, List.length_cons, List.length_nil, List.cons_append, List.nil_append, List.replicate, Nat.sub_zero, Nat.sub_self, Nat.zero_add, Nat.reduceAdd, Nat.reduceSub, List.getElem?_cons_zero, List.getElem?_cons_succ, List.set_cons_zero, List.set_cons_succ, setF, wipeF, true_and, and_true, if_true, if_false, Bool.true_eq_false, Bool.false_eq_true, ite_true, ite_false, reduceIte, not_true_eq_false, not_false_eq_true, Bool.not_true, Bool.not_false, exists_eq_left', exists_const, ne_eq]
            refine ⟨_, b3, ?_⟩
            refine hand_b (by omega) (by rw [List.length_append]; omega) ?_
            try simp (maxSteps := 2000000) only [startF, wSs, wS, wE, wL, wO, wB, wI, x_add, x_adds, x_addl, x_addt, x_sub, x_mul, x_mult, x_mull, x_fdv, x_mod, x_pow, x_auga, x_augs, x_augm, x_eqi, x_eqs, x_eqb, x_nei, x_nes, x_neb, x_eqtt, x_eqrr, x_eqtr, x_eqrt, x_eqst, x_eqts, x_nett, x_nerr, x_netr, x_nert, x_nest, x_nets, x_lt, x_le, x_gt, x_ge, x_ins, x_isn, x_isnt, x_ixt, x_ixl, x_ixd, x_ixs, x_slt, x_sll, x_sls, x_std, x_stl, x_isin, x_isis, x_isit, x_isii, x_isib, x_lens, x_lent, x_lenf, x_lenl, x_inti, x_intb, x_abs, x_max2, x_min2, x_maxl, x_minl, x_mxd, x_tupl, x_tupt, x_lisl, x_list, x_liss, x_all, x_any, x_sum, x_repr, x_app, x_ext, x_pop, x_popa, x_join, x_rcva, x_rcve, x_rcvp, x_rcvq, x_rcvj, x_srct, x_srcf, x_srcs, x_srcl, x_seqt, x_seql, x_enu, x_enut, x_zipl, x_zipt, x_rng1, x_rng2, x_tg1, x_tgt, x_tgl, x_var, x_put, x_ex, x_exv, x_exl, x_exl0, x_exd, x_exb, x_exi, x_dec, x_decf, x_ndec, x_ndecf, x_ty_str_str, x_ty_str_tuple, x_ty_str_int, x_ty_str_bool, x_ty_str_list, x_ty_str_dict, x_ty_str_list_tuple, x_ty_str_tuple_list, x_ty_str_str_tuple, x_ty_str_tuple_str, x_ty_str_int_bool, x_ty_str_bool_int, x_ty_str_str_int, x_ty_str_int_str, x_ty_tuple_str, x_ty_tuple_tuple, x_ty_tuple_int, x_ty_tuple_bool, x_ty_tuple_list, x_ty_tuple_dict, x_ty_tuple_list_tuple, x_ty_tuple_tuple_list, x_ty_tuple_str_tuple, x_ty_tuple_tuple_str, x_ty_tuple_int_bool, x_ty_tuple_bool_int, x_ty_tuple_str_int, x_ty_tuple_int_str, x_ty_int_str, x_ty_int_tuple, x_ty_int_int, x_ty_int_bool, x_ty_int_list, x_ty_int_dict, x_ty_int_list_tuple, x_ty_int_tuple_list, x_ty_int_str_tuple, x_ty_int_tuple_str, x_ty_int_int_bool, x_ty_int_bool_int, x_ty_int_str_int, x_ty_int_int_str, x_ty_bool_str, x_ty_bool_tuple, x_ty_bool_int, x_ty_bool_bool, x_ty_bool_list, x_ty_bool_dict, x_ty_bool_list_tuple, x_ty_bool_tuple_list, x_ty_bool_str_tuple, x_ty_bool_tuple_str, x_ty_bool_int_bool, x_ty_bool_bool_int, x_ty_bool_str_int, x_ty_bool_int_str, x_ty_list_str, x_ty_list_tuple, x_ty_list_int, x_ty_list_bool, x_ty_list_list, x_ty_list_dict, x_ty_list_list_tuple, x_ty_list_tuple_list, x_ty_list_str_tuple, x_ty_list_tuple_str, x_ty_list_int_bool, x_ty_list_bool_int, x_ty_list_str_int, x_ty_list_int_str, x_ty_dict_str, x_ty_dict_tuple, x_ty_dict_int, x_ty_dict_bool, x_ty_dict_list, x_ty_dict_dict, x_ty_dict_list_tuple, x_ty_dict_tuple_list, x_ty_dict_str_tuple, x_ty_dict_tuple_str, x_ty_dict_int_bool, x_ty_dict_bool_int, x_ty_dict_str_int, x_ty_dict_int_str, x_puto, x_puto', List.map_cons, List.map_nil, List.length_cons, List.length_nil, List.cons_append, List.nil_append, List.replicate, Nat.sub_zero, Nat.sub_self, Nat.zero_add, Nat.reduceAdd, Nat.reduceSub, List.getElem?_cons_zero, List.getElem?_cons_succ, List.set_cons_zero, List.set_cons_succ, setF, wipeF, true_and, and_true, if_true, if_false, Bool.true_eq_false, Bool.false_eq_true, ite_true, ite_false, reduceIte, not_true_eq_false, not_false_eq_true, Bool.not_true, Bool.not_false, exists_eq_left', exists_const, ne_eq]
            refine inner_e (by omega) (hf_ne g4) ?_
            rw [en_name g4]
            simp only [T.d]
            try simp (maxSteps := 2000000) only [startF, wSs, wS, wE, wL, wO, wB, wI, x_add, x_adds, x_addl, x_addt, x_sub, x_mul, x_mult, x_mull, x_fdv, x_mod, x_pow, x_auga, x_augs, x_augm, x_eqi, x_eqs, x_eqb, x_nei, x_nes, x_neb, x_eqtt, x_eqrr, x_eqtr, x_eqrt, x_eqst, x_eqts, x_nett, x_nerr, x_netr, x_nert, x_nest, x_nets, x_lt, x_le, x_gt, x_ge, x_ins, x_isn, x_isnt, x_ixt, x_ixl, x_ixd, x_ixs, x_slt, x_sll, x_sls, x_std, x_stl, x_isin, x_isis, x_isit, x_isii, x_isib, x_lens, x_lent, x_lenf, x_lenl, x_inti, x_intb, x_abs, x_max2, x_min2, x_maxl, x_minl, x_mxd, x_tupl, x_tupt, x_lisl, x_list, x_liss, x_all, x_any, x_sum, x_repr, x_app, x_ext, x_pop, x_popa, x_join, x_rcva, x_rcve, x_rcvp, x_rcvq, x_rcvj, x_srct, x_srcf, x_srcs, x_srcl, x_seqt, x_seql, x_enu, x_enut, x_zipl, x_zipt, x_rng1, x_rng2, x_tg1, x_tgt, x_tgl, x_var, x_put, x_ex, x_exv, x_exl, x_exl0, x_exd, x_exb, x_exi, x_dec, x_decf, x_ndec, x_ndecf, x_ty_str_str, x_ty_str_tuple, x_ty_str_int, x_ty_str_bool, x_ty_str_list, x_ty_str_dict, x_ty_str_list_tuple, x_ty_str_tuple_list, x_ty_str_str_tuple, x_ty_str_tuple_str, x_ty_str_int_bool, x_ty_str_bool_int, x_ty_str_str_int, x_ty_str_int_str, x_ty_tuple_str, x_ty_tuple_tuple, x_ty_tuple_int, x_ty_tuple_bool, x_ty_tuple_list, x_ty_tuple_dict, x_ty_tuple_list_tuple, x_ty_tuple_tuple_list, x_ty_tuple_str_tuple, x_ty_tuple_tuple_str, x_ty_tuple_int_bool, x_ty_tuple_bool_int, x_ty_tuple_str_int, x_ty_tuple_int_str, x_ty_int_str, x_ty_int_tuple, x_ty_int_int, x_ty_int_bool, x_ty_int_list, x_ty_int_dict, x_ty_int_list_tuple, x_ty_int_tuple_list, x_ty_int_str_tuple, x_ty_int_tuple_str, x_ty_int_int_bool, x_ty_int_bool_int, x_ty_int_str_int, x_ty_int_int_str, x_ty_bool_str, x_ty_bool_tuple, x_ty_bool_int, x_ty_bool_bool, x_ty_bool_list, x_ty_bool_dict, x_ty_bool_list_tuple, x_ty_bool_tuple_list, x_ty_bool_str_tuple, x_ty_bool_tuple_str, x_ty_bool_int_bool, x_ty_bool_bool_int, x_ty_bool_str_int, x_ty_bool_int_str, x_ty_list_str, x_ty_list_tuple, x_ty_list_int, x_ty_list_bool, x_ty_list_list, x_ty_list_dict, x_ty_list_list_tuple, x_ty_list_tuple_list, x_ty_list_str_tuple, x_ty_list_tuple_str, x_ty_list_int_bool, x_ty_list_bool_int, x_ty_list_str_int, x_ty_list_int_str, x_ty_dict_str, x_ty_dict_tuple, x_ty_dict_int, x_ty_dict_bool, x_ty_dict_list, x_ty_dict_dict, x_ty_dict_list_tuple, x_ty_dict_tuple_list, x_ty_dict_str_tuple, x_ty_dict_tuple_str, x_ty_dict_int_bool, x_ty_dict_bool_int, x_ty_dict_str_int, x_ty_dict_int_str, x_puto, x_puto', List.map_cons, List.map_nil, List.length_cons, List.length_nil, List.cons_append, List.nil_append, List.replicate, Nat.sub_zero, Nat.sub_self, Nat.zero_add, Nat.reduceAdd, Nat.reduceSub, List.getElem?_cons_zero, List.getElem?_cons_succ, List.set_cons_zero, List.set_cons_succ, setF, wipeF, true_and, and_true, if_true, if_false, Bool.true_eq_false, Bool.false_eq_true, ite_true, ite_false, reduceIte, not_true_eq_false, not_false_eq_true, Bool.not_true, Bool.not_false, exists_eq_left', exists_const, ne_eq]
            refine ⟨_, c3, ?_⟩
            exact hN _ _ ⟨js, hs' ++ g.pa, eN g, x, _, _, rfl, rfl, rfl, hK.app (HK.pa g4), by rw [List.length_append]; omega, hf⟩
theorem d_need_path {k : Nat} {t : T} {p : P} {r : List Int} {hs : List T} {w : Str} {q : P} {S : Sto} {Q : KE} {E : XE} (hk : 6 ≤ k) (hl : r.length ≤ 1000) (ht : hf 4 t = true) (he : fnd t.pa (eN t) p r = some (hs, w, q)) (hQ : ∀ S', Ext S S' → Q (.tup [.tup (T.ds hs), .str w, q.d]) S') : wC tab k "need_path" [t.d, p.d, rwD r] S Q E := by
  refine wd (fd := f_need_path) (by omega) rfl rfl ?_
  unfold f_need_path
  try simp (maxSteps := 2000000) only [startF, wSs, wS, wE, wL, wO, wB, wI, x_add, x_adds, x_addl, x_addt, x_sub, x_mul, x_mult, x_mull, x_fdv, x_mod, x_pow, x_auga, x_augs, x_augm, x_eqi, x_eqs, x_eqb, x_nei, x_nes, x_neb, x_eqtt, x_eqrr, x_eqtr, x_eqrt, x_eqst, x_eqts, x_nett, x_nerr, x_netr, x_nert, x_nest, x_nets, x_lt, x_le, x_gt, x_ge, x_ins, x_isn, x_isnt, x_ixt, x_ixl, x_ixd, x_ixs, x_slt, x_sll, x_sls, x_std, x_stl, x_isin, x_isis, x_isit, x_isii, x_isib, x_lens, x_lent, x_lenf, x_lenl, x_inti, x_intb, x_abs, x_max2, x_min2, x_maxl, x_minl, x_mxd, x_tupl, x_tupt, x_lisl, x_list, x_liss, x_all, x_any, x_sum, x_repr, x_app, x_ext, x_pop, x_popa, x_join, x_rcva, x_rcve, x_rcvp, x_rcvq, x_rcvj, x_srct, x_srcf, x_srcs, x_srcl, x_seqt, x_seql, x_enu, x_enut, x_zipl, x_zipt, x_rng1, x_rng2, x_tg1, x_tgt, x_tgl, x_var, x_put, x_ex, x_exv, x_exl, x_exl0, x_exd, x_exb, x_exi, x_dec, x_decf, x_ndec, x_ndecf, x_ty_str_str, x_ty_str_tuple, x_ty_str_int, x_ty_str_bool, x_ty_str_list, x_ty_str_dict, x_ty_str_list_tuple, x_ty_str_tuple_list, x_ty_str_str_tuple, x_ty_str_tuple_str, x_ty_str_int_bool, x_ty_str_bool_int, x_ty_str_str_int, x_ty_str_int_str, x_ty_tuple_str, x_ty_tuple_tuple, x_ty_tuple_int, x_ty_tuple_bool, x_ty_tuple_list, x_ty_tuple_dict, x_ty_tuple_list_tuple, x_ty_tuple_tuple_list, x_ty_tuple_str_tuple, x_ty_tuple_tuple_str, x_ty_tuple_int_bool, x_ty_tuple_bool_int, x_ty_tuple_str_int, x_ty_tuple_int_str, x_ty_int_str, x_ty_int_tuple, x_ty_int_int, x_ty_int_bool, x_ty_int_list, x_ty_int_dict, x_ty_int_list_tuple, x_ty_int_tuple_list, x_ty_int_str_tuple, x_ty_int_tuple_str, x_ty_int_int_bool, x_ty_int_bool_int, x_ty_int_str_int, x_ty_int_int_str, x_ty_bool_str, x_ty_bool_tuple, x_ty_bool_int, x_ty_bool_bool, x_ty_bool_list, x_ty_bool_dict, x_ty_bool_list_tuple, x_ty_bool_tuple_list, x_ty_bool_str_tuple, x_ty_bool_tuple_str, x_ty_bool_int_bool, x_ty_bool_bool_int, x_ty_bool_str_int, x_ty_bool_int_str, x_ty_list_str, x_ty_list_tuple, x_ty_list_int, x_ty_list_bool, x_ty_list_list, x_ty_list_dict, x_ty_list_list_tuple, x_ty_list_tuple_list, x_ty_list_str_tuple, x_ty_list_tuple_str, x_ty_list_int_bool, x_ty_list_bool_int, x_ty_list_str_int, x_ty_list_int_str, x_ty_dict_str, x_ty_dict_tuple, x_ty_dict_int, x_ty_dict_bool, x_ty_dict_list, x_ty_dict_dict, x_ty_dict_list_tuple, x_ty_dict_tuple_list, x_ty_dict_str_tuple, x_ty_dict_tuple_str, x_ty_dict_int_bool, x_ty_dict_bool_int, x_ty_dict_str_int, x_ty_dict_int_str, x_puto, x_puto', List.map_cons, List.map_nil, List.length_cons, List.length_nil, List.cons_append, List.nil_append, List.replicate, Nat.sub_zero, Nat.sub_self, Nat.zero_add, Nat.reduceAdd, Nat.reduceSub, List.getElem?_cons_zero, List.getElem?_cons_succ, List.set_cons_zero, List.set_cons_succ, setF, wipeF, true_and, and_true, if_true, if_false, Bool.true_eq_false, Bool.false_eq_true, ite_true, ite_false, reduceIte, not_true_eq_false, not_false_eq_true, Bool.not_true, Bool.not_false, exists_eq_left', exists_const, ne_eq]
  refine d_is_row (by omega) hl fun S1 e1 => ?_
  try simp (maxSteps := 2000000) only [startF, wSs, wS, wE, wL, wO, wB, wI, x_add, x_adds, x_addl, x_addt, x_sub, x_mul, x_mult, x_mull, x_fdv, x_mod, x_pow, x_auga, x_augs, x_augm, x_eqi, x_eqs, x_eqb, x_nei, x_nes, x_neb, x_eqtt, x_eqrr, x_eqtr, x_eqrt, x_eqst, x_eqts, x_nett, x_nerr, x_netr, x_nert, x_nest, x_nets, x_lt, x_le, x_gt, x_ge, x_ins, x_isn, x_isnt, x_ixt, x_ixl, x_ixd, x_ixs, x_slt, x_sll, x_sls, x_std, x_stl, x_isin, x_isis, x_isit, x_isii, x_isib, x_lens, x_lent, x_lenf, x_lenl, x_inti, x_intb, x_abs, x_max2, x_min2, x_maxl, x_minl, x_mxd, x_tupl, x_tupt, x_lisl, x_list, x_liss, x_all, x_any, x_sum, x_repr, x_app, x_ext, x_pop, x_popa, x_join, x_rcva, x_rcve, x_rcvp, x_rcvq, x_rcvj, x_srct, x_srcf, x_srcs, x_srcl, x_seqt, x_seql, x_enu, x_enut, x_zipl, x_zipt, x_rng1, x_rng2, x_tg1, x_tgt, x_tgl, x_var, x_put, x_ex, x_exv, x_exl, x_exl0, x_exd, x_exb, x_exi, x_dec, x_decf, x_ndec, x_ndecf, x_ty_str_str, x_ty_str_tuple, x_ty_str_int, x_ty_str_bool, x_ty_str_list, x_ty_str_dict, x_ty_str_list_tuple, x_ty_str_tuple_list, x_ty_str_str_tuple, x_ty_str_tuple_str, x_ty_str_int_bool, x_ty_str_bool_int, x_ty_str_str_int, x_ty_str_int_str, x_ty_tuple_str, x_ty_tuple_tuple, x_ty_tuple_int, x_ty_tuple_bool, x_ty_tuple_list, x_ty_tuple_dict, x_ty_tuple_list_tuple, x_ty_tuple_tuple_list, x_ty_tuple_str_tuple, x_ty_tuple_tuple_str, x_ty_tuple_int_bool, x_ty_tuple_bool_int, x_ty_tuple_str_int, x_ty_tuple_int_str, x_ty_int_str, x_ty_int_tuple, x_ty_int_int, x_ty_int_bool, x_ty_int_list, x_ty_int_dict, x_ty_int_list_tuple, x_ty_int_tuple_list, x_ty_int_str_tuple, x_ty_int_tuple_str, x_ty_int_int_bool, x_ty_int_bool_int, x_ty_int_str_int, x_ty_int_int_str, x_ty_bool_str, x_ty_bool_tuple, x_ty_bool_int, x_ty_bool_bool, x_ty_bool_list, x_ty_bool_dict, x_ty_bool_list_tuple, x_ty_bool_tuple_list, x_ty_bool_str_tuple, x_ty_bool_tuple_str, x_ty_bool_int_bool, x_ty_bool_bool_int, x_ty_bool_str_int, x_ty_bool_int_str, x_ty_list_str, x_ty_list_tuple, x_ty_list_int, x_ty_list_bool, x_ty_list_list, x_ty_list_dict, x_ty_list_list_tuple, x_ty_list_tuple_list, x_ty_list_str_tuple, x_ty_list_tuple_str, x_ty_list_int_bool, x_ty_list_bool_int, x_ty_list_str_int, x_ty_list_int_str, x_ty_dict_str, x_ty_dict_tuple, x_ty_dict_int, x_ty_dict_bool, x_ty_dict_list, x_ty_dict_dict, x_ty_dict_list_tuple, x_ty_dict_tuple_list, x_ty_dict_str_tuple, x_ty_dict_tuple_str, x_ty_dict_int_bool, x_ty_dict_bool_int, x_ty_dict_str_int, x_ty_dict_int_str, x_puto, x_puto', List.map_cons, List.map_nil, List.length_cons, List.length_nil, List.cons_append, List.nil_append, List.replicate, Nat.sub_zero, Nat.sub_self, Nat.zero_add, Nat.reduceAdd, Nat.reduceSub, List.getElem?_cons_zero, List.getElem?_cons_succ, List.set_cons_zero, List.set_cons_succ, setF, wipeF, true_and, and_true, if_true, if_false, Bool.true_eq_false, Bool.false_eq_true, ite_true, ite_false, reduceIte, not_true_eq_false, not_false_eq_true, Bool.not_true, Bool.not_false, exists_eq_left', exists_const, ne_eq]
  refine d_found_at (by omega) hl ht he ?_
  try simp (maxSteps := 2000000) only [startF, wSs, wS, wE, wL, wO, wB, wI, x_add, x_adds, x_addl, x_addt, x_sub, x_mul, x_mult, x_mull, x_fdv, x_mod, x_pow, x_auga, x_augs, x_augm, x_eqi, x_eqs, x_eqb, x_nei, x_nes, x_neb, x_eqtt, x_eqrr, x_eqtr, x_eqrt, x_eqst, x_eqts, x_nett, x_nerr, x_netr, x_nert, x_nest, x_nets, x_lt, x_le, x_gt, x_ge, x_ins, x_isn, x_isnt, x_ixt, x_ixl, x_ixd, x_ixs, x_slt, x_sll, x_sls, x_std, x_stl, x_isin, x_isis, x_isit, x_isii, x_isib, x_lens, x_lent, x_lenf, x_lenl, x_inti, x_intb, x_abs, x_max2, x_min2, x_maxl, x_minl, x_mxd, x_tupl, x_tupt, x_lisl, x_list, x_liss, x_all, x_any, x_sum, x_repr, x_app, x_ext, x_pop, x_popa, x_join, x_rcva, x_rcve, x_rcvp, x_rcvq, x_rcvj, x_srct, x_srcf, x_srcs, x_srcl, x_seqt, x_seql, x_enu, x_enut, x_zipl, x_zipt, x_rng1, x_rng2, x_tg1, x_tgt, x_tgl, x_var, x_put, x_ex, x_exv, x_exl, x_exl0, x_exd, x_exb, x_exi, x_dec, x_decf, x_ndec, x_ndecf, x_ty_str_str, x_ty_str_tuple, x_ty_str_int, x_ty_str_bool, x_ty_str_list, x_ty_str_dict, x_ty_str_list_tuple, x_ty_str_tuple_list, x_ty_str_str_tuple, x_ty_str_tuple_str, x_ty_str_int_bool, x_ty_str_bool_int, x_ty_str_str_int, x_ty_str_int_str, x_ty_tuple_str, x_ty_tuple_tuple, x_ty_tuple_int, x_ty_tuple_bool, x_ty_tuple_list, x_ty_tuple_dict, x_ty_tuple_list_tuple, x_ty_tuple_tuple_list, x_ty_tuple_str_tuple, x_ty_tuple_tuple_str, x_ty_tuple_int_bool, x_ty_tuple_bool_int, x_ty_tuple_str_int, x_ty_tuple_int_str, x_ty_int_str, x_ty_int_tuple, x_ty_int_int, x_ty_int_bool, x_ty_int_list, x_ty_int_dict, x_ty_int_list_tuple, x_ty_int_tuple_list, x_ty_int_str_tuple, x_ty_int_tuple_str, x_ty_int_int_bool, x_ty_int_bool_int, x_ty_int_str_int, x_ty_int_int_str, x_ty_bool_str, x_ty_bool_tuple, x_ty_bool_int, x_ty_bool_bool, x_ty_bool_list, x_ty_bool_dict, x_ty_bool_list_tuple, x_ty_bool_tuple_list, x_ty_bool_str_tuple, x_ty_bool_tuple_str, x_ty_bool_int_bool, x_ty_bool_bool_int, x_ty_bool_str_int, x_ty_bool_int_str, x_ty_list_str, x_ty_list_tuple, x_ty_list_int, x_ty_list_bool, x_ty_list_list, x_ty_list_dict, x_ty_list_list_tuple, x_ty_list_tuple_list, x_ty_list_str_tuple, x_ty_list_tuple_str, x_ty_list_int_bool, x_ty_list_bool_int, x_ty_list_str_int, x_ty_list_int_str, x_ty_dict_str, x_ty_dict_tuple, x_ty_dict_int, x_ty_dict_bool, x_ty_dict_list, x_ty_dict_dict, x_ty_dict_list_tuple, x_ty_dict_tuple_list, x_ty_dict_str_tuple, x_ty_dict_tuple_str, x_ty_dict_int_bool, x_ty_dict_bool_int, x_ty_dict_str_int, x_ty_dict_int_str, x_puto, x_puto', List.map_cons, List.map_nil, List.length_cons, List.length_nil, List.cons_append, List.nil_append, List.replicate, Nat.sub_zero, Nat.sub_self, Nat.zero_add, Nat.reduceAdd, Nat.reduceSub, List.getElem?_cons_zero, List.getElem?_cons_succ, List.set_cons_zero, List.set_cons_succ, setF, wipeF, true_and, and_true, if_true, if_false, Bool.true_eq_false, Bool.false_eq_true, ite_true, ite_false, reduceIte, not_true_eq_false, not_false_eq_true, Bool.not_true, Bool.not_false, exists_eq_left', exists_const, ne_eq]
  exact hQ S1 e1
theorem d_hand_at {k : Nat} {t : T} {p : P} {r : List Int} {hs : List T} {w : Str} {q : P} {S : Sto} {Q : KE} {E : XE} (hk : p.dp + 11 ≤ k) (hz : p.dp ≤ 1000) (hl : r.length ≤ 1000) (ht : kindB t = true) (hp : prB t p = true) (he : fnd t.pa (eN t) p r = some (hs, w, q)) (hQ : ∀ S', Ext S S' → Q (.tup (T.ds hs)) S') : wC tab k "hand_at" [t.d, p.d, rwD r] S Q E := by
  refine wd (fd := f_hand_at) (by omega) rfl rfl ?_
  unfold f_hand_at
  try simp (maxSteps := 2000000) only [startF, wSs, wS, wE, wL, wO, wB, wI, x_add, x_adds, x_addl, x_addt, x_sub, x_mul, x_mult, x_mull, x_fdv, x_mod, x_pow, x_auga, x_augs, x_augm, x_eqi, x_eqs, x_eqb, x_nei, x_nes, x_neb, x_eqtt, x_eqrr, x_eqtr, x_eqrt, x_eqst, x_eqts, x_nett, x_nerr, x_netr, x_nert, x_nest, x_nets, x_lt, x_le, x_gt, x_ge, x_ins, x_isn, x_isnt, x_ixt, x_ixl, x_ixd, x_ixs, x_slt, x_sll, x_sls, x_std, x_stl, x_isin, x_isis, x_isit, x_isii, x_isib, x_lens, x_lent, x_lenf, x_lenl, x_inti, x_intb, x_abs, x_max2, x_min2, x_maxl, x_minl, x_mxd, x_tupl, x_tupt, x_lisl, x_list, x_liss, x_all, x_any, x_sum, x_repr, x_app, x_ext, x_pop, x_popa, x_join, x_rcva, x_rcve, x_rcvp, x_rcvq, x_rcvj, x_srct, x_srcf, x_srcs, x_srcl, x_seqt, x_seql, x_enu, x_enut, x_zipl, x_zipt, x_rng1, x_rng2, x_tg1, x_tgt, x_tgl, x_var, x_put, x_ex, x_exv, x_exl, x_exl0, x_exd, x_exb, x_exi, x_dec, x_decf, x_ndec, x_ndecf, x_ty_str_str, x_ty_str_tuple, x_ty_str_int, x_ty_str_bool, x_ty_str_list, x_ty_str_dict, x_ty_str_list_tuple, x_ty_str_tuple_list, x_ty_str_str_tuple, x_ty_str_tuple_str, x_ty_str_int_bool, x_ty_str_bool_int, x_ty_str_str_int, x_ty_str_int_str, x_ty_tuple_str, x_ty_tuple_tuple, x_ty_tuple_int, x_ty_tuple_bool, x_ty_tuple_list, x_ty_tuple_dict, x_ty_tuple_list_tuple, x_ty_tuple_tuple_list, x_ty_tuple_str_tuple, x_ty_tuple_tuple_str, x_ty_tuple_int_bool, x_ty_tuple_bool_int, x_ty_tuple_str_int, x_ty_tuple_int_str, x_ty_int_str, x_ty_int_tuple, x_ty_int_int, x_ty_int_bool, x_ty_int_list, x_ty_int_dict, x_ty_int_list_tuple, x_ty_int_tuple_list, x_ty_int_str_tuple, x_ty_int_tuple_str, x_ty_int_int_bool, x_ty_int_bool_int, x_ty_int_str_int, x_ty_int_int_str, x_ty_bool_str, x_ty_bool_tuple, x_ty_bool_int, x_ty_bool_bool, x_ty_bool_list, x_ty_bool_dict, x_ty_bool_list_tuple, x_ty_bool_tuple_list, x_ty_bool_str_tuple, x_ty_bool_tuple_str, x_ty_bool_int_bool, x_ty_bool_bool_int, x_ty_bool_str_int, x_ty_bool_int_str, x_ty_list_str, x_ty_list_tuple, x_ty_list_int, x_ty_list_bool, x_ty_list_list, x_ty_list_dict, x_ty_list_list_tuple, x_ty_list_tuple_list, x_ty_list_str_tuple, x_ty_list_tuple_str, x_ty_list_int_bool, x_ty_list_bool_int, x_ty_list_str_int, x_ty_list_int_str, x_ty_dict_str, x_ty_dict_tuple, x_ty_dict_int, x_ty_dict_bool, x_ty_dict_list, x_ty_dict_dict, x_ty_dict_list_tuple, x_ty_dict_tuple_list, x_ty_dict_str_tuple, x_ty_dict_tuple_str, x_ty_dict_int_bool, x_ty_dict_bool_int, x_ty_dict_str_int, x_ty_dict_int_str, x_puto, x_puto', List.map_cons, List.map_nil, List.length_cons, List.length_nil, List.cons_append, List.nil_append, List.replicate, Nat.sub_zero, Nat.sub_self, Nat.zero_add, Nat.reduceAdd, Nat.reduceSub, List.getElem?_cons_zero, List.getElem?_cons_succ, List.set_cons_zero, List.set_cons_succ, setF, wipeF, true_and, and_true, if_true, if_false, Bool.true_eq_false, Bool.false_eq_true, ite_true, ite_false, reduceIte, not_true_eq_false, not_false_eq_true, Bool.not_true, Bool.not_false, exists_eq_left', exists_const, ne_eq]
  refine d_need_program (by omega) hz ht hp fun S1 e1 => ?_
  try simp (maxSteps := 2000000) only [startF, wSs, wS, wE, wL, wO, wB, wI, x_add, x_adds, x_addl, x_addt, x_sub, x_mul, x_mult, x_mull, x_fdv, x_mod, x_pow, x_auga, x_augs, x_augm, x_eqi, x_eqs, x_eqb, x_nei, x_nes, x_neb, x_eqtt, x_eqrr, x_eqtr, x_eqrt, x_eqst, x_eqts, x_nett, x_nerr, x_netr, x_nert, x_nest, x_nets, x_lt, x_le, x_gt, x_ge, x_ins, x_isn, x_isnt, x_ixt, x_ixl, x_ixd, x_ixs, x_slt, x_sll, x_sls, x_std, x_stl, x_isin, x_isis, x_isit, x_isii, x_isib, x_lens, x_lent, x_lenf, x_lenl, x_inti, x_intb, x_abs, x_max2, x_min2, x_maxl, x_minl, x_mxd, x_tupl, x_tupt, x_lisl, x_list, x_liss, x_all, x_any, x_sum, x_repr, x_app, x_ext, x_pop, x_popa, x_join, x_rcva, x_rcve, x_rcvp, x_rcvq, x_rcvj, x_srct, x_srcf, x_srcs, x_srcl, x_seqt, x_seql, x_enu, x_enut, x_zipl, x_zipt, x_rng1, x_rng2, x_tg1, x_tgt, x_tgl, x_var, x_put, x_ex, x_exv, x_exl, x_exl0, x_exd, x_exb, x_exi, x_dec, x_decf, x_ndec, x_ndecf, x_ty_str_str, x_ty_str_tuple, x_ty_str_int, x_ty_str_bool, x_ty_str_list, x_ty_str_dict, x_ty_str_list_tuple, x_ty_str_tuple_list, x_ty_str_str_tuple, x_ty_str_tuple_str, x_ty_str_int_bool, x_ty_str_bool_int, x_ty_str_str_int, x_ty_str_int_str, x_ty_tuple_str, x_ty_tuple_tuple, x_ty_tuple_int, x_ty_tuple_bool, x_ty_tuple_list, x_ty_tuple_dict, x_ty_tuple_list_tuple, x_ty_tuple_tuple_list, x_ty_tuple_str_tuple, x_ty_tuple_tuple_str, x_ty_tuple_int_bool, x_ty_tuple_bool_int, x_ty_tuple_str_int, x_ty_tuple_int_str, x_ty_int_str, x_ty_int_tuple, x_ty_int_int, x_ty_int_bool, x_ty_int_list, x_ty_int_dict, x_ty_int_list_tuple, x_ty_int_tuple_list, x_ty_int_str_tuple, x_ty_int_tuple_str, x_ty_int_int_bool, x_ty_int_bool_int, x_ty_int_str_int, x_ty_int_int_str, x_ty_bool_str, x_ty_bool_tuple, x_ty_bool_int, x_ty_bool_bool, x_ty_bool_list, x_ty_bool_dict, x_ty_bool_list_tuple, x_ty_bool_tuple_list, x_ty_bool_str_tuple, x_ty_bool_tuple_str, x_ty_bool_int_bool, x_ty_bool_bool_int, x_ty_bool_str_int, x_ty_bool_int_str, x_ty_list_str, x_ty_list_tuple, x_ty_list_int, x_ty_list_bool, x_ty_list_list, x_ty_list_dict, x_ty_list_list_tuple, x_ty_list_tuple_list, x_ty_list_str_tuple, x_ty_list_tuple_str, x_ty_list_int_bool, x_ty_list_bool_int, x_ty_list_str_int, x_ty_list_int_str, x_ty_dict_str, x_ty_dict_tuple, x_ty_dict_int, x_ty_dict_bool, x_ty_dict_list, x_ty_dict_dict, x_ty_dict_list_tuple, x_ty_dict_tuple_list, x_ty_dict_str_tuple, x_ty_dict_tuple_str, x_ty_dict_int_bool, x_ty_dict_bool_int, x_ty_dict_str_int, x_ty_dict_int_str, x_puto, x_puto', List.map_cons, List.map_nil, List.length_cons, List.length_nil, List.cons_append, List.nil_append, List.replicate, Nat.sub_zero, Nat.sub_self, Nat.zero_add, Nat.reduceAdd, Nat.reduceSub, List.getElem?_cons_zero, List.getElem?_cons_succ, List.set_cons_zero, List.set_cons_succ, setF, wipeF, true_and, and_true, if_true, if_false, Bool.true_eq_false, Bool.false_eq_true, ite_true, ite_false, reduceIte, not_true_eq_false, not_false_eq_true, Bool.not_true, Bool.not_false, exists_eq_left', exists_const, ne_eq]
  refine d_need_path (by omega) hl (kindB_hf ht) he fun S2 e2 => ?_
  try simp (maxSteps := 2000000) only [startF, wSs, wS, wE, wL, wO, wB, wI, x_add, x_adds, x_addl, x_addt, x_sub, x_mul, x_mult, x_mull, x_fdv, x_mod, x_pow, x_auga, x_augs, x_augm, x_eqi, x_eqs, x_eqb, x_nei, x_nes, x_neb, x_eqtt, x_eqrr, x_eqtr, x_eqrt, x_eqst, x_eqts, x_nett, x_nerr, x_netr, x_nert, x_nest, x_nets, x_lt, x_le, x_gt, x_ge, x_ins, x_isn, x_isnt, x_ixt, x_ixl, x_ixd, x_ixs, x_slt, x_sll, x_sls, x_std, x_stl, x_isin, x_isis, x_isit, x_isii, x_isib, x_lens, x_lent, x_lenf, x_lenl, x_inti, x_intb, x_abs, x_max2, x_min2, x_maxl, x_minl, x_mxd, x_tupl, x_tupt, x_lisl, x_list, x_liss, x_all, x_any, x_sum, x_repr, x_app, x_ext, x_pop, x_popa, x_join, x_rcva, x_rcve, x_rcvp, x_rcvq, x_rcvj, x_srct, x_srcf, x_srcs, x_srcl, x_seqt, x_seql, x_enu, x_enut, x_zipl, x_zipt, x_rng1, x_rng2, x_tg1, x_tgt, x_tgl, x_var, x_put, x_ex, x_exv, x_exl, x_exl0, x_exd, x_exb, x_exi, x_dec, x_decf, x_ndec, x_ndecf, x_ty_str_str, x_ty_str_tuple, x_ty_str_int, x_ty_str_bool, x_ty_str_list, x_ty_str_dict, x_ty_str_list_tuple, x_ty_str_tuple_list, x_ty_str_str_tuple, x_ty_str_tuple_str, x_ty_str_int_bool, x_ty_str_bool_int, x_ty_str_str_int, x_ty_str_int_str, x_ty_tuple_str, x_ty_tuple_tuple, x_ty_tuple_int, x_ty_tuple_bool, x_ty_tuple_list, x_ty_tuple_dict, x_ty_tuple_list_tuple, x_ty_tuple_tuple_list, x_ty_tuple_str_tuple, x_ty_tuple_tuple_str, x_ty_tuple_int_bool, x_ty_tuple_bool_int, x_ty_tuple_str_int, x_ty_tuple_int_str, x_ty_int_str, x_ty_int_tuple, x_ty_int_int, x_ty_int_bool, x_ty_int_list, x_ty_int_dict, x_ty_int_list_tuple, x_ty_int_tuple_list, x_ty_int_str_tuple, x_ty_int_tuple_str, x_ty_int_int_bool, x_ty_int_bool_int, x_ty_int_str_int, x_ty_int_int_str, x_ty_bool_str, x_ty_bool_tuple, x_ty_bool_int, x_ty_bool_bool, x_ty_bool_list, x_ty_bool_dict, x_ty_bool_list_tuple, x_ty_bool_tuple_list, x_ty_bool_str_tuple, x_ty_bool_tuple_str, x_ty_bool_int_bool, x_ty_bool_bool_int, x_ty_bool_str_int, x_ty_bool_int_str, x_ty_list_str, x_ty_list_tuple, x_ty_list_int, x_ty_list_bool, x_ty_list_list, x_ty_list_dict, x_ty_list_list_tuple, x_ty_list_tuple_list, x_ty_list_str_tuple, x_ty_list_tuple_str, x_ty_list_int_bool, x_ty_list_bool_int, x_ty_list_str_int, x_ty_list_int_str, x_ty_dict_str, x_ty_dict_tuple, x_ty_dict_int, x_ty_dict_bool, x_ty_dict_list, x_ty_dict_dict, x_ty_dict_list_tuple, x_ty_dict_tuple_list, x_ty_dict_str_tuple, x_ty_dict_tuple_str, x_ty_dict_int_bool, x_ty_dict_bool_int, x_ty_dict_str_int, x_ty_dict_int_str, x_puto, x_puto', List.map_cons, List.map_nil, List.length_cons, List.length_nil, List.cons_append, List.nil_append, List.replicate, Nat.sub_zero, Nat.sub_self, Nat.zero_add, Nat.reduceAdd, Nat.reduceSub, List.getElem?_cons_zero, List.getElem?_cons_succ, List.set_cons_zero, List.set_cons_succ, setF, wipeF, true_and, and_true, if_true, if_false, Bool.true_eq_false, Bool.false_eq_true, ite_true, ite_false, reduceIte, not_true_eq_false, not_false_eq_true, Bool.not_true, Bool.not_false, exists_eq_left', exists_const, ne_eq, atI_0]
  exact hQ S2 (e1.trans e2)
  termination_by n => n
  decreasing_by omega

/-! the law k10 -/
theorem whl_ok {c : Fr → Sto → KE → Prop} {b : Pi.End → Fr → Sto → Prop} {D : Pi.End} (I : Nat → Fr → Sto → Prop)
    (h : ∀ m φ S W, I m φ S → (∀ m' φ' S', m = m' + 1 → I m' φ' S' → W φ' S') → c φ S fun d S1 => ∃ k, d = .bl k ∧ (if k = true then b { D with nx := W, ct := W, bk := D.nx } φ S1 else D.nx φ S1)) :
    ∀ (m : Nat) {φ : Fr} {S : Sto}, I m φ S → whlW c b D (m + 1) φ S
  | 0, φ, S, hI => h 0 φ S (whlW c b D 0) hI fun m' _ _ e _ => by cases e
  | m + 1, φ, S, hI => h (m + 1) φ S (whlW c b D (m + 1)) hI fun m' _ _ e hI' => by cases e; exact whl_ok I h m hI'
theorem eqv_nilS : ∀ ls : List Str, PyData.eqv (.list (ls.map PyData.str)) (.list []) = decide (ls = [])
  | [] => rfl
  | _ :: _ => rfl
theorem sS_py {S : Sto} : ∀ l : List Str, PyOfs S (l.map D.str) (l.map PyData.str)
  | [] => .nil
  | x :: l => .cons (.str x) (sS_py l)
theorem erase_map {α β : Type} (f : α → β) : ∀ (xs : List α) (i : Nat), (xs.map f).eraseIdx i = (xs.eraseIdx i).map f
  | [], _ => rfl
  | _ :: _, 0 => rfl
  | x :: xs, i + 1 => by
    show f x :: (xs.map f).eraseIdx i = f x :: (xs.eraseIdx i).map f
    rw [erase_map f xs i]
theorem shaped_strs (ls : List Str) (h : ∀ z ∈ ls, PyData.strOk z = true) : SeqAt.shaped (.list (ls.map PyData.str)) = true := by
  have e : ∀ l : List Str, (∀ z ∈ l, PyData.strOk z = true) → PyData.canLayAll0 (l.map PyData.str) = true ∧ PyData.depthAll (l.map PyData.str) = 0 := by
    intro l
    induction l with
    | nil => intro _; exact ⟨rfl, rfl⟩
    | cons x l ih =>
      intro h
      obtain ⟨a, b⟩ := ih fun z hz => h z (List.mem_cons_of_mem _ hz)
      have c := h x List.mem_cons_self
      simp [PyData.canLayAll0, PyData.canLay0, PyData.depthAll, PyData.depth, a, b, c]
  obtain ⟨a, b⟩ := e ls h
  simp [SeqAt.shaped, PyData.canLay0, PyData.depth, a, b]
theorem d_shuffled {k a l c p : Nat} {ns : List Str} {S : Sto} {Q : KE} {E : XE} (hk : 4 ≤ k) (d : Draw S a l c) (hp : S p = some (.lst (ns.map D.str))) (hn : ns.length ≤ 1000) (hok : ∀ z ∈ ns, PyData.strOk z = true)
    (hQ : ∀ q (zs : List Str) S', Draw S' a l c → Kp a l S S' → S q = none → S' q = some (.lst (zs.map D.str)) → zs.length = ns.length → (∀ z ∈ zs, z ∈ ns) → Q (.ref q) S') : wC tab k "_law_shuffled" [.ref a, .ref p] S Q E := by
  refine wd (fd := f__law_shuffled) (by omega) rfl rfl ?_
  unfold f__law_shuffled
  have sz := sizeLine_eq
  try simp (maxSteps := 2000000) only [startF, wSs, wS, wE, wL, wO, wB, wI, x_add, x_adds, x_addl, x_addt, x_sub, x_mul, x_mult, x_mull, x_fdv, x_mod, x_pow, x_auga, x_augs, x_augm, x_eqi, x_eqs, x_eqb, x_nei, x_nes, x_neb, x_eqtt, x_eqrr, x_eqtr, x_eqrt, x_eqst, x_eqts, x_nett, x_nerr, x_netr, x_nert, x_nest, x_nets, x_lt, x_le, x_gt, x_ge, x_ins, x_isn, x_isnt, x_ixt, x_ixl, x_ixd, x_ixs, x_slt, x_sll, x_sls, x_std, x_stl, x_isin, x_isis, x_isit, x_isii, x_isib, x_lens, x_lent, x_lenf, x_lenl, x_inti, x_intb, x_abs, x_max2, x_min2, x_maxl, x_minl, x_mxd, x_tupl, x_tupt, x_lisl, x_list, x_liss, x_all, x_any, x_sum, x_repr, x_app, x_ext, x_pop, x_popa, x_join, x_rcva, x_rcve, x_rcvp, x_rcvq, x_rcvj, x_srct, x_srcf, x_srcs, x_srcl, x_seqt, x_seql, x_enu, x_enut, x_zipl, x_zipt, x_rng1, x_rng2, x_tg1, x_tgt, x_tgl, x_var, x_put, x_ex, x_exv, x_exl, x_exl0, x_exd, x_exb, x_exi, x_dec, x_decf, x_ndec, x_ndecf, x_ty_str_str, x_ty_str_tuple, x_ty_str_int, x_ty_str_bool, x_ty_str_list, x_ty_str_dict, x_ty_str_list_tuple, x_ty_str_tuple_list, x_ty_str_str_tuple, x_ty_str_tuple_str, x_ty_str_int_bool, x_ty_str_bool_int, x_ty_str_str_int, x_ty_str_int_str, x_ty_tuple_str, x_ty_tuple_tuple, x_ty_tuple_int, x_ty_tuple_bool, x_ty_tuple_list, x_ty_tuple_dict, x_ty_tuple_list_tuple, x_ty_tuple_tuple_list, x_ty_tuple_str_tuple, x_ty_tuple_tuple_str, x_ty_tuple_int_bool, x_ty_tuple_bool_int, x_ty_tuple_str_int, x_ty_tuple_int_str, x_ty_int_str, x_ty_int_tuple, x_ty_int_int, x_ty_int_bool, x_ty_int_list, x_ty_int_dict, x_ty_int_list_tuple, x_ty_int_tuple_list, x_ty_int_str_tuple, x_ty_int_tuple_str, x_ty_int_int_bool, x_ty_int_bool_int, x_ty_int_str_int, x_ty_int_int_str, x_ty_bool_str, x_ty_bool_tuple, x_ty_bool_int, x_ty_bool_bool, x_ty_bool_list, x_ty_bool_dict, x_ty_bool_list_tuple, x_ty_bool_tuple_list, x_ty_bool_str_tuple, x_ty_bool_tuple_str, x_ty_bool_int_bool, x_ty_bool_bool_int, x_ty_bool_str_int, x_ty_bool_int_str, x_ty_list_str, x_ty_list_tuple, x_ty_list_int, x_ty_list_bool, x_ty_list_list, x_ty_list_dict, x_ty_list_list_tuple, x_ty_list_tuple_list, x_ty_list_str_tuple, x_ty_list_tuple_str, x_ty_list_int_bool, x_ty_list_bool_int, x_ty_list_str_int, x_ty_list_int_str, x_ty_dict_str, x_ty_dict_tuple, x_ty_dict_int, x_ty_dict_bool, x_ty_dict_list, x_ty_dict_dict, x_ty_dict_list_tuple, x_ty_dict_tuple_list, x_ty_dict_str_tuple, x_ty_dict_tuple_str, x_ty_dict_int_bool, x_ty_dict_bool_int, x_ty_dict_str_int, x_ty_dict_int_str, x_puto, x_puto', List.map_cons, List.map_nil, List.length_cons, List.length_nil, List.cons_append, List.nil_append, List.replicate, Nat.sub_zero, Nat.sub_self, Nat.zero_add, Nat.reduceAdd, Nat.reduceSub, List.getElem?_cons_zero, List.getElem?_cons_succ, List.set_cons_zero, List.set_cons_succ, setF, wipeF, true_and, and_true, if_true, if_false, Bool.true_eq_false, Bool.false_eq_true, ite_true, ite_false, reduceIte, not_true_eq_false, not_false_eq_true, Bool.not_true, Bool.not_false, exists_eq_left', exists_const, ne_eq, hp]
  intro x hx
  refine ⟨by omega, fun y hy => ⟨ns.length + 1, ?_⟩⟩
  have nx := d.ne hx
  have d1 := d.new (o := .lst (ns.map D.str)) hx
  have ny := d1.ne hy
  have xy : ¬ x = y := fun e => by rw [← e, put_same] at hy; cases hy
  have yx : ¬ y = x := fun e => xy e.symm
  have Sy : S y = none := by rw [put_ne yx] at hy; exact hy
  refine whl_ok (fun m φ S1 => ∃ pool found : List Str, φ = [some (.ref a), some (.ref p), some (.ref x), some (.ref y)] ∧ pool.length = m ∧ pool.length + found.length = ns.length ∧ Draw S1 a l c ∧ Kp a l S S1 ∧ S1 x = some (.lst (pool.map D.str)) ∧ S1 y = some (.lst (found.map D.str)) ∧ (∀ z ∈ pool, z ∈ ns) ∧ (∀ z ∈ found, z ∈ ns)) ?_ ns.length ⟨ns, [], rfl, rfl, rfl, d1.new hy, (Kp.new hx).trans (Kp.new hy), by rw [put_ne xy]; exact put_same, put_same, fun _ h => h, fun _ h => by cases h⟩
  rintro m φ S1 W ⟨pool, found, rfl, hm, hlen, d2, k2, gx, gy, p1, p2⟩ hW
  try simp (maxSteps := 2000000) only [startF, wSs, wS, wE, wL, wO, wB, wI, x_add, x_adds, x_addl, x_addt, x_sub, x_mul, x_mult, x_mull, x_fdv, x_mod, x_pow, x_auga, x_augs, x_augm, x_eqi, x_eqs, x_eqb, x_nei, x_nes, x_neb, x_eqtt, x_eqrr, x_eqtr, x_eqrt, x_eqst, x_eqts, x_nett, x_nerr, x_netr, x_nert, x_nest, x_nets, x_lt, x_le, x_gt, x_ge, x_ins, x_isn, x_isnt, x_ixt, x_ixl, x_ixd, x_ixs, x_slt, x_sll, x_sls, x_std, x_stl, x_isin, x_isis, x_isit, x_isii, x_isib, x_lens, x_lent, x_lenf, x_lenl, x_inti, x_intb, x_abs, x_max2, x_min2, x_maxl, x_minl, x_mxd, x_tupl, x_tupt, x_lisl, x_list, x_liss, x_all, x_any, x_sum, x_repr, x_app, x_ext, x_pop, x_popa, x_join, x_rcva, x_rcve, x_rcvp, x_rcvq, x_rcvj, x_srct, x_srcf, x_srcs, x_srcl, x_seqt, x_seql, x_enu, x_enut, x_zipl, x_zipt, x_rng1, x_rng2, x_tg1, x_tgt, x_tgl, x_var, x_put, x_ex, x_exv, x_exl, x_exl0, x_exd, x_exb, x_exi, x_dec, x_decf, x_ndec, x_ndecf, x_ty_str_str, x_ty_str_tuple, x_ty_str_int, x_ty_str_bool, x_ty_str_list, x_ty_str_dict, x_ty_str_list_tuple, x_ty_str_tuple_list, x_ty_str_str_tuple, x_ty_str_tuple_str, x_ty_str_int_bool, x_ty_str_bool_int, x_ty_str_str_int, x_ty_str_int_str, x_ty_tuple_str, x_ty_tuple_tuple, x_ty_tuple_int, x_ty_tuple_bool, x_ty_tuple_list, x_ty_tuple_dict, x_ty_tuple_list_tuple, x_ty_tuple_tuple_list, x_ty_tuple_str_tuple, x_ty_tuple_tuple_str, x_ty_tuple_int_bool, x_ty_tuple_bool_int, x_ty_tuple_str_int, x_ty_tuple_int_str, x_ty_int_str, x_ty_int_tuple, x_ty_int_int, x_ty_int_bool, x_ty_int_list, x_ty_int_dict, x_ty_int_list_tuple, x_ty_int_tuple_list, x_ty_int_str_tuple, x_ty_int_tuple_str, x_ty_int_int_bool, x_ty_int_bool_int, x_ty_int_str_int, x_ty_int_int_str, x_ty_bool_str, x_ty_bool_tuple, x_ty_bool_int, x_ty_bool_bool, x_ty_bool_list, x_ty_bool_dict, x_ty_bool_list_tuple, x_ty_bool_tuple_list, x_ty_bool_str_tuple, x_ty_bool_tuple_str, x_ty_bool_int_bool, x_ty_bool_bool_int, x_ty_bool_str_int, x_ty_bool_int_str, x_ty_list_str, x_ty_list_tuple, x_ty_list_int, x_ty_list_bool, x_ty_list_list, x_ty_list_dict, x_ty_list_list_tuple, x_ty_list_tuple_list, x_ty_list_str_tuple, x_ty_list_tuple_str, x_ty_list_int_bool, x_ty_list_bool_int, x_ty_list_str_int, x_ty_list_int_str, x_ty_dict_str, x_ty_dict_tuple, x_ty_dict_int, x_ty_dict_bool, x_ty_dict_list, x_ty_dict_dict, x_ty_dict_list_tuple, x_ty_dict_tuple_list, x_ty_dict_str_tuple, x_ty_dict_tuple_str, x_ty_dict_int_bool, x_ty_dict_bool_int, x_ty_dict_str_int, x_ty_dict_int_str, x_puto, x_puto', List.map_cons, List.map_nil, List.length_cons, List.length_nil, List.cons_append, List.nil_append, List.replicate, Nat.sub_zero, Nat.sub_self, Nat.zero_add, Nat.reduceAdd, Nat.reduceSub, List.getElem?_cons_zero, List.getElem?_cons_succ, List.set_cons_zero, List.set_cons_succ, setF, wipeF, true_and, and_true, if_true, if_false, Bool.true_eq_false, Bool.false_eq_true, ite_true, ite_false, reduceIte, not_true_eq_false, not_false_eq_true, Bool.not_true, Bool.not_false, exists_eq_left', exists_const, ne_eq]
  refine ⟨by omega, fun z hz => ?_⟩
  have nz := d2.ne hz
  have zx : ¬ x = z := fun e => by rw [← e, gx] at hz; cases hz
  have zy : ¬ y = z := fun e => by rw [← e, gy] at hz; cases hz
  have gx' : put S1 z (.lst []) x = some (.lst (pool.map D.str)) := by rw [put_ne zx]; exact gx
  have gy' : put S1 z (.lst []) y = some (.lst (found.map D.str)) := by rw [put_ne zy]; exact gy
  have d3 := d2.new (o := .lst []) hz
  refine ⟨.list (pool.map PyData.str), .list [], .lst gx' (sS_py pool), .lst put_same .nil, shaped_strs _ fun z hz => hok z (p1 z hz), rfl, ?_⟩
  rw [eqv_nilS]
  cases pool with
  | nil =>
    try simp (maxSteps := 2000000) only [startF, wSs, wS, wE, wL, wO, wB, wI, x_add, x_adds, x_addl, x_addt, x_sub, x_mul, x_mult, x_mull, x_fdv, x_mod, x_pow, x_auga, x_augs, x_augm, x_eqi, x_eqs, x_eqb, x_nei, x_nes, x_neb, x_eqtt, x_eqrr, x_eqtr, x_eqrt, x_eqst, x_eqts, x_nett, x_nerr, x_netr, x_nert, x_nest, x_nets, x_lt, x_le, x_gt, x_ge, x_ins, x_isn, x_isnt, x_ixt, x_ixl, x_ixd, x_ixs, x_slt, x_sll, x_sls, x_std, x_stl, x_isin, x_isis, x_isit, x_isii, x_isib, x_lens, x_lent, x_lenf, x_lenl, x_inti, x_intb, x_abs, x_max2, x_min2, x_maxl, x_minl, x_mxd, x_tupl, x_tupt, x_lisl, x_list, x_liss, x_all, x_any, x_sum, x_repr, x_app, x_ext, x_pop, x_popa, x_join, x_rcva, x_rcve, x_rcvp, x_rcvq, x_rcvj, x_srct, x_srcf, x_srcs, x_srcl, x_seqt, x_seql, x_enu, x_enut, x_zipl, x_zipt, x_rng1, x_rng2, x_tg1, x_tgt, x_tgl, x_var, x_put, x_ex, x_exv, x_exl, x_exl0, x_exd, x_exb, x_exi, x_dec, x_decf, x_ndec, x_ndecf, x_ty_str_str, x_ty_str_tuple, x_ty_str_int, x_ty_str_bool, x_ty_str_list, x_ty_str_dict, x_ty_str_list_tuple, x_ty_str_tuple_list, x_ty_str_str_tuple, x_ty_str_tuple_str, x_ty_str_int_bool, x_ty_str_bool_int, x_ty_str_str_int, x_ty_str_int_str, x_ty_tuple_str, x_ty_tuple_tuple, x_ty_tuple_int, x_ty_tuple_bool, x_ty_tuple_list, x_ty_tuple_dict, x_ty_tuple_list_tuple, x_ty_tuple_tuple_list, x_ty_tuple_str_tuple, x_ty_tuple_tuple_str, x_ty_tuple_int_bool, x_ty_tuple_bool_int, x_ty_tuple_str_int, x_ty_tuple_int_str, x_ty_int_str, x_ty_int_tuple, x_ty_int_int, x_ty_int_bool, x_ty_int_list, x_ty_int_dict, x_ty_int_list_tuple, x_ty_int_tuple_list, x_ty_int_str_tuple, x_ty_int_tuple_str, x_ty_int_int_bool, x_ty_int_bool_int, x_ty_int_str_int, x_ty_int_int_str, x_ty_bool_str, x_ty_bool_tuple, x_ty_bool_int, x_ty_bool_bool, x_ty_bool_list, x_ty_bool_dict, x_ty_bool_list_tuple, x_ty_bool_tuple_list, x_ty_bool_str_tuple, x_ty_bool_tuple_str, x_ty_bool_int_bool, x_ty_bool_bool_int, x_ty_bool_str_int, x_ty_bool_int_str, x_ty_list_str, x_ty_list_tuple, x_ty_list_int, x_ty_list_bool, x_ty_list_list, x_ty_list_dict, x_ty_list_list_tuple, x_ty_list_tuple_list, x_ty_list_str_tuple, x_ty_list_tuple_str, x_ty_list_int_bool, x_ty_list_bool_int, x_ty_list_str_int, x_ty_list_int_str, x_ty_dict_str, x_ty_dict_tuple, x_ty_dict_int, x_ty_dict_bool, x_ty_dict_list, x_ty_dict_dict, x_ty_dict_list_tuple, x_ty_dict_tuple_list, x_ty_dict_str_tuple, x_ty_dict_tuple_str, x_ty_dict_int_bool, x_ty_dict_bool_int, x_ty_dict_str_int, x_ty_dict_int_str, x_puto, x_puto', List.map_cons, List.map_nil, List.length_cons, List.length_nil, List.cons_append, List.nil_append, List.replicate, Nat.sub_zero, Nat.sub_self, Nat.zero_add, Nat.reduceAdd, Nat.reduceSub, List.getElem?_cons_zero, List.getElem?_cons_succ, List.set_cons_zero, List.set_cons_succ, setF, wipeF, true_and, and_true, if_true, if_false, Bool.true_eq_false, Bool.false_eq_true, ite_true, ite_false, reduceIte, not_true_eq_false, not_false_eq_true, Bool.not_true, Bool.not_false, exists_eq_left', exists_const, ne_eq]
    rw [List.length_nil, Nat.zero_add] at hlen
    exact hQ y found _ d3 (k2.trans (Kp.new hz)) Sy gy' hlen p2
  | cons v pool =>
    have vn : ¬ v :: pool = [] := fun e => by cases e
    rw [decide_eq_false vn]
    try simp (maxSteps := 2000000) only [startF, wSs, wS, wE, wL, wO, wB, wI, x_add, x_adds, x_addl, x_addt, x_sub, x_mul, x_mult, x_mull, x_fdv, x_mod, x_pow, x_auga, x_augs, x_augm, x_eqi, x_eqs, x_eqb, x_nei, x_nes, x_neb, x_eqtt, x_eqrr, x_eqtr, x_eqrt, x_eqst, x_eqts, x_nett, x_nerr, x_netr, x_nert, x_nest, x_nets, x_lt, x_le, x_gt, x_ge, x_ins, x_isn, x_isnt, x_ixt, x_ixl, x_ixd, x_ixs, x_slt, x_sll, x_sls, x_std, x_stl, x_isin, x_isis, x_isit, x_isii, x_isib, x_lens, x_lent, x_lenf, x_lenl, x_inti, x_intb, x_abs, x_max2, x_min2, x_maxl, x_minl, x_mxd, x_tupl, x_tupt, x_lisl, x_list, x_liss, x_all, x_any, x_sum, x_repr, x_app, x_ext, x_pop, x_popa, x_join, x_rcva, x_rcve, x_rcvp, x_rcvq, x_rcvj, x_srct, x_srcf, x_srcs, x_srcl, x_seqt, x_seql, x_enu, x_enut, x_zipl, x_zipt, x_rng1, x_rng2, x_tg1, x_tgt, x_tgl, x_var, x_put, x_ex, x_exv, x_exl, x_exl0, x_exd, x_exb, x_exi, x_dec, x_decf, x_ndec, x_ndecf, x_ty_str_str, x_ty_str_tuple, x_ty_str_int, x_ty_str_bool, x_ty_str_list, x_ty_str_dict, x_ty_str_list_tuple, x_ty_str_tuple_list, x_ty_str_str_tuple, x_ty_str_tuple_str, x_ty_str_int_bool, x_ty_str_bool_int, x_ty_str_str_int, x_ty_str_int_str, x_ty_tuple_str, x_ty_tuple_tuple, x_ty_tuple_int, x_ty_tuple_bool, x_ty_tuple_list, x_ty_tuple_dict, x_ty_tuple_list_tuple, x_ty_tuple_tuple_list, x_ty_tuple_str_tuple, x_ty_tuple_tuple_str, x_ty_tuple_int_bool, x_ty_tuple_bool_int, x_ty_tuple_str_int, x_ty_tuple_int_str, x_ty_int_str, x_ty_int_tuple, x_ty_int_int, x_ty_int_bool, x_ty_int_list, x_ty_int_dict, x_ty_int_list_tuple, x_ty_int_tuple_list, x_ty_int_str_tuple, x_ty_int_tuple_str, x_ty_int_int_bool, x_ty_int_bool_int, x_ty_int_str_int, x_ty_int_int_str, x_ty_bool_str, x_ty_bool_tuple, x_ty_bool_int, x_ty_bool_bool, x_ty_bool_list, x_ty_bool_dict, x_ty_bool_list_tuple, x_ty_bool_tuple_list, x_ty_bool_str_tuple, x_ty_bool_tuple_str, x_ty_bool_int_bool, x_ty_bool_bool_int, x_ty_bool_str_int, x_ty_bool_int_str, x_ty_list_str, x_ty_list_tuple, x_ty_list_int, x_ty_list_bool, x_ty_list_list, x_ty_list_dict, x_ty_list_list_tuple, x_ty_list_tuple_list, x_ty_list_str_tuple, x_ty_list_tuple_str, x_ty_list_int_bool, x_ty_list_bool_int, x_ty_list_str_int, x_ty_list_int_str, x_ty_dict_str, x_ty_dict_tuple, x_ty_dict_int, x_ty_dict_bool, x_ty_dict_list, x_ty_dict_dict, x_ty_dict_list_tuple, x_ty_dict_tuple_list, x_ty_dict_str_tuple, x_ty_dict_tuple_str, x_ty_dict_int_bool, x_ty_dict_bool_int, x_ty_dict_str_int, x_ty_dict_int_str, x_puto, x_puto', List.map_cons, List.map_nil, List.length_cons, List.length_nil, List.cons_append, List.nil_append, List.replicate, Nat.sub_zero, Nat.sub_self, Nat.zero_add, Nat.reduceAdd, Nat.reduceSub, List.getElem?_cons_zero, List.getElem?_cons_succ, List.set_cons_zero, List.set_cons_succ, setF, wipeF, true_and, and_true, if_true, if_false, Bool.true_eq_false, Bool.false_eq_true, ite_true, ite_false, reduceIte, not_true_eq_false, not_false_eq_true, Bool.not_true, Bool.not_false, exists_eq_left', exists_const, ne_eq, gx', gy']
    have hlen' : pool.length + 1 + found.length = ns.length := hlen
    have hm' : pool.length + 1 = m := hm
    have ml : (List.map D.str pool).length = pool.length := List.length_map _
    have ml2 : (List.map D.str (v :: pool)).length = pool.length + 1 := List.length_map _
    refine d_take (by omega) d3 (by omega) (by omega) fun i S3 i0 i1 d4 k4 => ?_
    have gx3 := k4.k _ _ gx' nx.1 nx.2.1
    have gy3 := k4.k _ _ gy' ny.1 ny.2.1
    have ik : (i.toNat : Int) = i := by omega
    have il : i.toNat < (v :: pool).length := by rw [List.length_cons]; omega
    obtain ⟨u, hu⟩ : ∃ u, (v :: pool)[i.toNat]? = some u := ⟨_, List.getElem?_eq_getElem il⟩
    have um : u ∈ v :: pool := List.mem_of_getElem? hu
    rw [x_popa]
    refine ⟨_, gx3, i.toNat, .str u, by omega, by omega, ?_, by rw [List.getElem?_map, hu]; rfl, ?_⟩
    · rw [List.length_map]
      exact seqIndex_of i0 (by rw [List.length_cons]; omega)
    · refine ⟨_, by rw [put_ne yx]; exact gy3, by rw [List.length_map]; omega, ?_⟩
      have em : ((v :: pool).map D.str).eraseIdx i.toNat = ((v :: pool).eraseIdx i.toNat).map D.str := erase_map _ _ _
      have ef : found.map D.str ++ [D.str u] = (found ++ [u]).map D.str := by rw [List.map_append]; rfl
      have le : ((v :: pool).eraseIdx i.toNat).length = pool.length := by rw [List.length_eraseIdx, if_pos il]; rfl
      rw [ef]
      refine hW pool.length _ _ (by rw [← hm]; rfl) ⟨(v :: pool).eraseIdx i.toNat, found ++ [u], rfl, le, by rw [le, List.length_append, List.length_singleton]; omega, ?_, ?_, ?_, put_same, fun w hw => p1 w (List.mem_of_mem_eraseIdx hw), ?_⟩
      · exact (d4.other (u := .lst []) nx.1 nx.2.1 nx.2.2).other (u := .lst []) ny.1 ny.2.1 ny.2.2
      · have xS : S x = none := hx
        exact (((k2.trans (Kp.new hz)).trans k4).put xS).put Sy
      · rw [put_ne xy, put_same, em]
      · intro w hw
        rcases List.mem_append.mp hw with q | q
        · exact p2 w q
        · rw [List.mem_singleton.mp q]; exact p1 u um
/-- a number of calls -/
def rep : Nat → P
  | 0 => .p 1 []
  | n + 1 => .p 0 [rep n]
theorem d_repeated {k : Nat} {n : Nat} {S : Sto} {Q : KE} {E : XE} (hk : 1 ≤ k) (hn : n ≤ 100) (hQ : Q (P.d (rep n)) S) : wC tab k "_law_repeated" [.int (n : Nat)] S Q E := by
  refine wd (fd := f__law_repeated) (by omega) rfl rfl ?_
  unfold f__law_repeated
  try simp (maxSteps := 2000000) only [startF, wSs, wS, wE, wL, wO, wB, wI, x_add, x_adds, x_addl, x_addt, x_sub, x_mul, x_mult, x_mull, x_fdv, x_mod, x_pow, x_auga, x_augs, x_augm, x_eqi, x_eqs, x_eqb, x_nei, x_nes, x_neb, x_eqtt, x_eqrr, x_eqtr, x_eqrt, x_eqst, x_eqts, x_nett, x_nerr, x_netr, x_nert, x_nest, x_nets, x_lt, x_le, x_gt, x_ge, x_ins, x_isn, x_isnt, x_ixt, x_ixl, x_ixd, x_ixs, x_slt, x_sll, x_sls, x_std, x_stl, x_isin, x_isis, x_isit, x_isii, x_isib, x_lens, x_lent, x_lenf, x_lenl, x_inti, x_intb, x_abs, x_max2, x_min2, x_maxl, x_minl, x_mxd, x_tupl, x_tupt, x_lisl, x_list, x_liss, x_all, x_any, x_sum, x_repr, x_app, x_ext, x_pop, x_popa, x_join, x_rcva, x_rcve, x_rcvp, x_rcvq, x_rcvj, x_srct, x_srcf, x_srcs, x_srcl, x_seqt, x_seql, x_enu, x_enut, x_zipl, x_zipt, x_rng1, x_rng2, x_tg1, x_tgt, x_tgl, x_var, x_put, x_ex, x_exv, x_exl, x_exl0, x_exd, x_exb, x_exi, x_dec, x_decf, x_ndec, x_ndecf, x_ty_str_str, x_ty_str_tuple, x_ty_str_int, x_ty_str_bool, x_ty_str_list, x_ty_str_dict, x_ty_str_list_tuple, x_ty_str_tuple_list, x_ty_str_str_tuple, x_ty_str_tuple_str, x_ty_str_int_bool, x_ty_str_bool_int, x_ty_str_str_int, x_ty_str_int_str, x_ty_tuple_str, x_ty_tuple_tuple, x_ty_tuple_int, x_ty_tuple_bool, x_ty_tuple_list, x_ty_tuple_dict, x_ty_tuple_list_tuple, x_ty_tuple_tuple_list, x_ty_tuple_str_tuple, x_ty_tuple_tuple_str, x_ty_tuple_int_bool, x_ty_tuple_bool_int, x_ty_tuple_str_int, x_ty_tuple_int_str, x_ty_int_str, x_ty_int_tuple, x_ty_int_int, x_ty_int_bool, x_ty_int_list, x_ty_int_dict, x_ty_int_list_tuple, x_ty_int_tuple_list, x_ty_int_str_tuple, x_ty_int_tuple_str, x_ty_int_int_bool, x_ty_int_bool_int, x_ty_int_str_int, x_ty_int_int_str, x_ty_bool_str, x_ty_bool_tuple, x_ty_bool_int, x_ty_bool_bool, x_ty_bool_list, x_ty_bool_dict, x_ty_bool_list_tuple, x_ty_bool_tuple_list, x_ty_bool_str_tuple, x_ty_bool_tuple_str, x_ty_bool_int_bool, x_ty_bool_bool_int, x_ty_bool_str_int, x_ty_bool_int_str, x_ty_list_str, x_ty_list_tuple, x_ty_list_int, x_ty_list_bool, x_ty_list_list, x_ty_list_dict, x_ty_list_list_tuple, x_ty_list_tuple_list, x_ty_list_str_tuple, x_ty_list_tuple_str, x_ty_list_int_bool, x_ty_list_bool_int, x_ty_list_str_int, x_ty_list_int_str, x_ty_dict_str, x_ty_dict_tuple, x_ty_dict_int, x_ty_dict_bool, x_ty_dict_list, x_ty_dict_dict, x_ty_dict_list_tuple, x_ty_dict_tuple_list, x_ty_dict_str_tuple, x_ty_dict_tuple_str, x_ty_dict_int_bool, x_ty_dict_bool_int, x_ty_dict_str_int, x_ty_dict_int_str, x_puto, x_puto', List.map_cons, List.map_nil, List.length_cons, List.length_nil, List.cons_append, List.nil_append, List.replicate, Nat.sub_zero, Nat.sub_self, Nat.zero_add, Nat.reduceAdd, Nat.reduceSub, List.getElem?_cons_zero, List.getElem?_cons_succ, List.set_cons_zero, List.set_cons_succ, setF, wipeF, true_and, and_true, if_true, if_false, Bool.true_eq_false, Bool.false_eq_true, ite_true, ite_false, reduceIte, not_true_eq_false, not_false_eq_true, Bool.not_true, Bool.not_false, exists_eq_left', exists_const, ne_eq]
  refine ⟨by rw [sizeLine_eq]; decide, ?_, ?_⟩
  · exact ⟨by omega, by omega⟩
  · refine loop_ok (fun zs φ S' => ∃ (m : Nat) (o2 : Option D), zs.length + m = n ∧ φ = [some (.int (n : Nat)), some (rep m).d, o2] ∧ S' = S) (fun _ _ _ _ => trivial) ?_ ?_ ⟨0, none, ?_, rfl, rfl⟩
    · rintro φ S' ⟨m, o2, hm, rfl, rfl⟩
      try simp (maxSteps := 2000000) only [startF, wSs, wS, wE, wL, wO, wB, wI, x_add, x_adds, x_addl, x_addt, x_sub, x_mul, x_mult, x_mull, x_fdv, x_mod, x_pow, x_auga, x_augs, x_augm, x_eqi, x_eqs, x_eqb, x_nei, x_nes, x_neb, x_eqtt, x_eqrr, x_eqtr, x_eqrt, x_eqst, x_eqts, x_nett, x_nerr, x_netr, x_nert, x_nest, x_nets, x_lt, x_le, x_gt, x_ge, x_ins, x_isn, x_isnt, x_ixt, x_ixl, x_ixd, x_ixs, x_slt, x_sll, x_sls, x_std, x_stl, x_isin, x_isis, x_isit, x_isii, x_isib, x_lens, x_lent, x_lenf, x_lenl, x_inti, x_intb, x_abs, x_max2, x_min2, x_maxl, x_minl, x_mxd, x_tupl, x_tupt, x_lisl, x_list, x_liss, x_all, x_any, x_sum, x_repr, x_app, x_ext, x_pop, x_popa, x_join, x_rcva, x_rcve, x_rcvp, x_rcvq, x_rcvj, x_srct, x_srcf, x_srcs, x_srcl, x_seqt, x_seql, x_enu, x_enut, x_zipl, x_zipt, x_rng1, x_rng2, x_tg1, x_tgt, x_tgl, x_var, x_put, x_ex, x_exv, x_exl, x_exl0, x_exd, x_exb, x_exi, x_dec, x_decf, x_ndec, x_ndecf, x_ty_str_str, x_ty_str_tuple, x_ty_str_int, x_ty_str_bool, x_ty_str_list, x_ty_str_dict, x_ty_str_list_tuple, x_ty_str_tuple_list, x_ty_str_str_tuple, x_ty_str_tuple_str, x_ty_str_int_bool, x_ty_str_bool_int, x_ty_str_str_int, x_ty_str_int_str, x_ty_tuple_str, x_ty_tuple_tuple, x_ty_tuple_int, x_ty_tuple_bool, x_ty_tuple_list, x_ty_tuple_dict, x_ty_tuple_list_tuple, x_ty_tuple_tuple_list, x_ty_tuple_str_tuple, x_ty_tuple_tuple_str, x_ty_tuple_int_bool, x_ty_tuple_bool_int, x_ty_tuple_str_int, x_ty_tuple_int_str, x_ty_int_str, x_ty_int_tuple, x_ty_int_int, x_ty_int_bool, x_ty_int_list, x_ty_int_dict, x_ty_int_list_tuple, x_ty_int_tuple_list, x_ty_int_str_tuple, x_ty_int_tuple_str, x_ty_int_int_bool, x_ty_int_bool_int, x_ty_int_str_int, x_ty_int_int_str, x_ty_bool_str, x_ty_bool_tuple, x_ty_bool_int, x_ty_bool_bool, x_ty_bool_list, x_ty_bool_dict, x_ty_bool_list_tuple, x_ty_bool_tuple_list, x_ty_bool_str_tuple, x_ty_bool_tuple_str, x_ty_bool_int_bool, x_ty_bool_bool_int, x_ty_bool_str_int, x_ty_bool_int_str, x_ty_list_str, x_ty_list_tuple, x_ty_list_int, x_ty_list_bool, x_ty_list_list, x_ty_list_dict, x_ty_list_list_tuple, x_ty_list_tuple_list, x_ty_list_str_tuple, x_ty_list_tuple_str, x_ty_list_int_bool, x_ty_list_bool_int, x_ty_list_str_int, x_ty_list_int_str, x_ty_dict_str, x_ty_dict_tuple, x_ty_dict_int, x_ty_dict_bool, x_ty_dict_list, x_ty_dict_dict, x_ty_dict_list_tuple, x_ty_dict_tuple_list, x_ty_dict_str_tuple, x_ty_dict_tuple_str, x_ty_dict_int_bool, x_ty_dict_bool_int, x_ty_dict_str_int, x_ty_dict_int_str, x_puto, x_puto', List.map_cons, List.map_nil, List.length_cons, List.length_nil, List.cons_append, List.nil_append, List.replicate, Nat.sub_zero, Nat.sub_self, Nat.zero_add, Nat.reduceAdd, Nat.reduceSub, List.getElem?_cons_zero, List.getElem?_cons_succ, List.set_cons_zero, List.set_cons_succ, setF, wipeF, true_and, and_true, if_true, if_false, Bool.true_eq_false, Bool.false_eq_true, ite_true, ite_false, reduceIte, not_true_eq_false, not_false_eq_true, Bool.not_true, Bool.not_false, exists_eq_left', exists_const, ne_eq]
      have : m = n := by simpa using hm
      rw [this]
      exact hQ
    · rintro z zs φ S' N ⟨m, o2, hm, rfl, rfl⟩ hN
      rw [List.length_cons] at hm
      try simp (maxSteps := 2000000) only [startF, wSs, wS, wE, wL, wO, wB, wI, x_add, x_adds, x_addl, x_addt, x_sub, x_mul, x_mult, x_mull, x_fdv, x_mod, x_pow, x_auga, x_augs, x_augm, x_eqi, x_eqs, x_eqb, x_nei, x_nes, x_neb, x_eqtt, x_eqrr, x_eqtr, x_eqrt, x_eqst, x_eqts, x_nett, x_nerr, x_netr, x_nert, x_nest, x_nets, x_lt, x_le, x_gt, x_ge, x_ins, x_isn, x_isnt, x_ixt, x_ixl, x_ixd, x_ixs, x_slt, x_sll, x_sls, x_std, x_stl, x_isin, x_isis, x_isit, x_isii, x_isib, x_lens, x_lent, x_lenf, x_lenl, x_inti, x_intb, x_abs, x_max2, x_min2, x_maxl, x_minl, x_mxd, x_tupl, x_tupt, x_lisl, x_list, x_liss, x_all, x_any, x_sum, x_repr, x_app, x_ext, x_pop, x_popa, x_join, x_rcva, x_rcve, x_rcvp, x_rcvq, x_rcvj, x_srct, x_srcf, x_srcs, x_srcl, x_seqt, x_seql, x_enu, x_enut, x_zipl, x_zipt, x_rng1, x_rng2, x_tg1, x_tgt, x_tgl, x_var, x_put, x_ex, x_exv, x_exl, x_exl0, x_exd, x_exb, x_exi, x_dec, x_decf, x_ndec, x_ndecf, x_ty_str_str, x_ty_str_tuple, x_ty_str_int, x_ty_str_bool, x_ty_str_list, x_ty_str_dict, x_ty_str_list_tuple, x_ty_str_tuple_list, x_ty_str_str_tuple, x_ty_str_tuple_str, x_ty_str_int_bool, x_ty_str_bool_int, x_ty_str_str_int, x_ty_str_int_str, x_ty_tuple_str, x_ty_tuple_tuple, x_ty_tuple_int, x_ty_tuple_bool, x_ty_tuple_list, x_ty_tuple_dict, x_ty_tuple_list_tuple, x_ty_tuple_tuple_list, x_ty_tuple_str_tuple, x_ty_tuple_tuple_str, x_ty_tuple_int_bool, x_ty_tuple_bool_int, x_ty_tuple_str_int, x_ty_tuple_int_str, x_ty_int_str, x_ty_int_tuple, x_ty_int_int, x_ty_int_bool, x_ty_int_list, x_ty_int_dict, x_ty_int_list_tuple, x_ty_int_tuple_list, x_ty_int_str_tuple, x_ty_int_tuple_str, x_ty_int_int_bool, x_ty_int_bool_int, x_ty_int_str_int, x_ty_int_int_str, x_ty_bool_str, x_ty_bool_tuple, x_ty_bool_int, x_ty_bool_bool, x_ty_bool_list, x_ty_bool_dict, x_ty_bool_list_tuple, x_ty_bool_tuple_list, x_ty_bool_str_tuple, x_ty_bool_tuple_str, x_ty_bool_int_bool, x_ty_bool_bool_int, x_ty_bool_str_int, x_ty_bool_int_str, x_ty_list_str, x_ty_list_tuple, x_ty_list_int, x_ty_list_bool, x_ty_list_list, x_ty_list_dict, x_ty_list_list_tuple, x_ty_list_tuple_list, x_ty_list_str_tuple, x_ty_list_tuple_str, x_ty_list_int_bool, x_ty_list_bool_int, x_ty_list_str_int, x_ty_list_int_str, x_ty_dict_str, x_ty_dict_tuple, x_ty_dict_int, x_ty_dict_bool, x_ty_dict_list, x_ty_dict_dict, x_ty_dict_list_tuple, x_ty_dict_tuple_list, x_ty_dict_str_tuple, x_ty_dict_tuple_str, x_ty_dict_int_bool, x_ty_dict_bool_int, x_ty_dict_str_int, x_ty_dict_int_str, x_puto, x_puto', List.map_cons, List.map_nil, List.length_cons, List.length_nil, List.cons_append, List.nil_append, List.replicate, Nat.sub_zero, Nat.sub_self, Nat.zero_add, Nat.reduceAdd, Nat.reduceSub, List.getElem?_cons_zero, List.getElem?_cons_succ, List.set_cons_zero, List.set_cons_succ, setF, wipeF, true_and, and_true, if_true, if_false, Bool.true_eq_false, Bool.false_eq_true, ite_true, ite_false, reduceIte, not_true_eq_false, not_false_eq_true, Bool.not_true, Bool.not_false, exists_eq_left', exists_const, ne_eq]
      exact ⟨by rw [sizeLine_eq]; decide, hN _ _ ⟨m + 1, _, by omega, rfl, rfl⟩⟩
    · rw [intsF_len]; omega
def shN (x : Str) : T := .t [.t [.s x, .s x], .s x, .s x]
theorem at_0 (h : T) (hs : List T) : at? (h :: hs) 0 = some h := rfl
theorem at_1 (g h : T) (hs : List T) : at? (g :: h :: hs) 1 = some h := rfl
theorem at_2 (f g h : T) (hs : List T) : at? (f :: g :: h :: hs) 2 = some h := rfl
theorem at_3 (e f g h : T) (hs : List T) : at? (e :: f :: g :: h :: hs) 3 = some h := rfl
theorem tm_p (hs : List T) (w : Str) (i : Int) (xs : List P) : tmB hs w (.p i xs) = (match at? hs i with
    | none => false
    | some h => decide (eN h = w) && decide (xs.length = h.pa.length) && tmBs hs h.pa xs) := by
  first
    | (rw [tmB]; done)
    | (rw [tmB]; cases at? hs i <;> rfl)
theorem tm_rep (x : Str) : ∀ n : Nat, tmB [.t [.s x, .s x], .s x] x (rep n) = true
  | 0 => by
    rw [rep, tm_p, at_1]
    dsimp only
    rw [tmBs_nil]
    simp [eN, T.pa]
  | n + 1 => by
    rw [rep, tm_p, at_0]
    dsimp only
    show (decide (x = x) && decide (1 = 1) && tmBs _ [.s x] [rep n]) = true
    rw [tmBs_cons, tmBs_nil]
    show (decide (x = x) && decide (1 = 1) && (tmB [.t [.s x, .s x], .s x] x (rep n) && true)) = true
    rw [tm_rep x n]
    simp
theorem fnd_rep (x : Str) : ∀ n : Nat, fnd [.t [.s x, .s x], .s x] x (rep n) (List.replicate n 0) = some ([.t [.s x, .s x], .s x], x, rep 0)
  | 0 => rfl
  | n + 1 => by
    rw [rep, List.replicate_succ]
    show fnd [.t [.s x, .s x], .s x] x (rep n) (List.replicate n 0) = _
    exact fnd_rep x n
theorem pth_rep : ∀ n : Nat, (rep n).pth = (List.range (n + 1)).map fun k => List.replicate k 0
  | 0 => rfl
  | n + 1 => by
    rw [rep, P.pth, P.pths, P.pths, List.append_nil, pth_rep n, List.range_succ_eq_map (n := n + 1), List.map_cons, List.map_map, List.map_map]
    rfl
theorem sz_rep : ∀ n : Nat, (rep n).sz = n + 1
  | 0 => rfl
  | n + 1 => by rw [rep, P.sz, P.szs, P.szs, sz_rep n]; omega
theorem dp_rep : ∀ n : Nat, (rep n).dp = n + 1
  | 0 => rfl
  | n + 1 => by rw [rep, P.dp, P.dps, P.dps, dp_rep n]; omega
theorem kb_shN {x : Str} (hx : nameB x = true) : kindB (shN x) = true := by
  unfold kindB shN
  simp [hf_t, hf_s hx, wideB, endB, T.nm, T.nms, hx]
theorem rep_0 : ∀ n : Nat, Pi.rep n [D.int 0] = (List.replicate n (0 : Int)).map D.int
  | 0 => rfl
  | n + 1 => by
    rw [List.replicate_succ, List.map_cons, ← rep_0 n]
    rfl
def rwP (r : List Int) : PyData := .tuple (r.map PyData.int)
theorem rows_py {S : Sto} : ∀ rs : List (List Int), PyOfs S (rs.map rwD) (rs.map rwP)
  | [] => .nil
  | r :: rs => .cons (.tup (iL_py r)) (rows_py rs)
theorem shaped_rows (rs : List (List Int)) : SeqAt.shaped (.list (rs.map rwP)) = true := by
  have e : ∀ l : List (List Int), PyData.canLayAll0 (l.map rwP) = true ∧ PyData.depthAll (l.map rwP) ≤ 1 := by
    intro l
    induction l with
    | nil => exact ⟨rfl, Nat.zero_le _⟩
    | cons x l ih =>
      obtain ⟨a, b⟩ := ih
      have c1 := PySem.W.ke_canLayAll0 x
      have c2 := PySem.W.ke_depthAll x
      refine ⟨?_, ?_⟩
      · simp [PyData.canLayAll0, PyData.canLay0, rwP, a, c1]
      · simp [PyData.depthAll, PyData.depth, rwP, c2]; omega
  obtain ⟨a, b⟩ := e rs
  simp [SeqAt.shaped, PyData.canLay0, PyData.depth, a]
  omega
theorem eqD_same {a b : D} {d : PyData} {S : Sto} {q : Bool → Prop} (h1 : PyOf S a d) (h2 : PyOf S b d) (hs : SeqAt.shaped d = true) (hq : q true) : eqD a b S q :=
  ⟨d, d, h1, h2, hs, hs, by rw [SeqAt.eqv_refl d (SeqAt.canLay_of_shaped hs)]; exact hq⟩
theorem shaped_hs {hs : List T} (h : HK hs) : SeqAt.shaped (.tuple (T.pys hs)) = true := by
  have e : ∀ l : List T, HK l → PyData.canLayAll0 (T.pys l) = true ∧ PyData.depthAll (T.pys l) ≤ 4 := by
    intro l
    induction l with
    | nil => intro _; exact ⟨rfl, Nat.zero_le _⟩
    | cons x l ih =>
      intro h
      obtain ⟨a, b⟩ := ih fun z hz => h z (List.mem_cons_of_mem _ hz)
      obtain ⟨_, c1, c2, _⟩ := hf_wt (h x List.mem_cons_self)
      refine ⟨?_, ?_⟩
      · simp [T.pys, PyData.canLayAll0, a, c1]
      · simp [T.pys, PyData.depthAll]; omega
  obtain ⟨a, b⟩ := e hs h
  simp [SeqAt.shaped, PyData.canLay0, PyData.depth, a]
  omega
theorem d_numbers {k a l c : Nat} {x : Str} {S : Sto} {Q : KE} {E : XE} (hk : 100 ≤ k) (d : Draw S a l c) (hx : nameB x = true) (hQ : ∀ S', Draw S' a l c → Kp a l S S' → Q (.bl true) S') : wC tab k "_law_numbers_right" [.ref a, .str x] S Q E := by
  refine wd (fd := f__law_numbers_right) (by omega) rfl rfl ?_
  unfold f__law_numbers_right
  have sz := sizeLine_eq
  try simp (maxSteps := 2000000) only [startF, wSs, wS, wE, wL, wO, wB, wI, x_add, x_adds, x_addl, x_addt, x_sub, x_mul, x_mult, x_mull, x_fdv, x_mod, x_pow, x_auga, x_augs, x_augm, x_eqi, x_eqs, x_eqb, x_nei, x_nes, x_neb, x_eqtt, x_eqrr, x_eqtr, x_eqrt, x_eqst, x_eqts, x_nett, x_nerr, x_netr, x_nert, x_nest, x_nets, x_lt, x_le, x_gt, x_ge, x_ins, x_isn, x_isnt, x_ixt, x_ixl, x_ixd, x_ixs, x_slt, x_sll, x_sls, x_std, x_stl, x_isin, x_isis, x_isit, x_isii, x_isib, x_lens, x_lent, x_lenf, x_lenl, x_inti, x_intb, x_abs, x_max2, x_min2, x_maxl, x_minl, x_mxd, x_tupl, x_tupt, x_lisl, x_list, x_liss, x_all, x_any, x_sum, x_repr, x_app, x_ext, x_pop, x_popa, x_join, x_rcva, x_rcve, x_rcvp, x_rcvq, x_rcvj, x_srct, x_srcf, x_srcs, x_srcl, x_seqt, x_seql, x_enu, x_enut, x_zipl, x_zipt, x_rng1, x_rng2, x_tg1, x_tgt, x_tgl, x_var, x_put, x_ex, x_exv, x_exl, x_exl0, x_exd, x_exb, x_exi, x_dec, x_decf, x_ndec, x_ndecf, x_ty_str_str, x_ty_str_tuple, x_ty_str_int, x_ty_str_bool, x_ty_str_list, x_ty_str_dict, x_ty_str_list_tuple, x_ty_str_tuple_list, x_ty_str_str_tuple, x_ty_str_tuple_str, x_ty_str_int_bool, x_ty_str_bool_int, x_ty_str_str_int, x_ty_str_int_str, x_ty_tuple_str, x_ty_tuple_tuple, x_ty_tuple_int, x_ty_tuple_bool, x_ty_tuple_list, x_ty_tuple_dict, x_ty_tuple_list_tuple, x_ty_tuple_tuple_list, x_ty_tuple_str_tuple, x_ty_tuple_tuple_str, x_ty_tuple_int_bool, x_ty_tuple_bool_int, x_ty_tuple_str_int, x_ty_tuple_int_str, x_ty_int_str, x_ty_int_tuple, x_ty_int_int, x_ty_int_bool, x_ty_int_list, x_ty_int_dict, x_ty_int_list_tuple, x_ty_int_tuple_list, x_ty_int_str_tuple, x_ty_int_tuple_str, x_ty_int_int_bool, x_ty_int_bool_int, x_ty_int_str_int, x_ty_int_int_str, x_ty_bool_str, x_ty_bool_tuple, x_ty_bool_int, x_ty_bool_bool, x_ty_bool_list, x_ty_bool_dict, x_ty_bool_list_tuple, x_ty_bool_tuple_list, x_ty_bool_str_tuple, x_ty_bool_tuple_str, x_ty_bool_int_bool, x_ty_bool_bool_int, x_ty_bool_str_int, x_ty_bool_int_str, x_ty_list_str, x_ty_list_tuple, x_ty_list_int, x_ty_list_bool, x_ty_list_list, x_ty_list_dict, x_ty_list_list_tuple, x_ty_list_tuple_list, x_ty_list_str_tuple, x_ty_list_tuple_str, x_ty_list_int_bool, x_ty_list_bool_int, x_ty_list_str_int, x_ty_list_int_str, x_ty_dict_str, x_ty_dict_tuple, x_ty_dict_int, x_ty_dict_bool, x_ty_dict_list, x_ty_dict_dict, x_ty_dict_list_tuple, x_ty_dict_tuple_list, x_ty_dict_str_tuple, x_ty_dict_tuple_str, x_ty_dict_int_bool, x_ty_dict_bool_int, x_ty_dict_str_int, x_ty_dict_int_str, x_puto, x_puto', List.map_cons, List.map_nil, List.length_cons, List.length_nil, List.cons_append, List.nil_append, List.replicate, Nat.sub_zero, Nat.sub_self, Nat.zero_add, Nat.reduceAdd, Nat.reduceSub, List.getElem?_cons_zero, List.getElem?_cons_succ, List.set_cons_zero, List.set_cons_succ, setF, wipeF, true_and, and_true, if_true, if_false, Bool.true_eq_false, Bool.false_eq_true, ite_true, ite_false, reduceIte, not_true_eq_false, not_false_eq_true, Bool.not_true, Bool.not_false, exists_eq_left', exists_const, ne_eq]
  refine ⟨by omega, by omega, ?_⟩
  refine d_take (by omega) d (by decide) (by decide) fun n S1 n0 n1 d1 k1 => ?_
  obtain ⟨m, rfl⟩ : ∃ m : Nat, n = (m : Int) := ⟨n.toNat, by omega⟩
  try simp (maxSteps := 2000000) only [startF, wSs, wS, wE, wL, wO, wB, wI, x_add, x_adds, x_addl, x_addt, x_sub, x_mul, x_mult, x_mull, x_fdv, x_mod, x_pow, x_auga, x_augs, x_augm, x_eqi, x_eqs, x_eqb, x_nei, x_nes, x_neb, x_eqtt, x_eqrr, x_eqtr, x_eqrt, x_eqst, x_eqts, x_nett, x_nerr, x_netr, x_nert, x_nest, x_nets, x_lt, x_le, x_gt, x_ge, x_ins, x_isn, x_isnt, x_ixt, x_ixl, x_ixd, x_ixs, x_slt, x_sll, x_sls, x_std, x_stl, x_isin, x_isis, x_isit, x_isii, x_isib, x_lens, x_lent, x_lenf, x_lenl, x_inti, x_intb, x_abs, x_max2, x_min2, x_maxl, x_minl, x_mxd, x_tupl, x_tupt, x_lisl, x_list, x_liss, x_all, x_any, x_sum, x_repr, x_app, x_ext, x_pop, x_popa, x_join, x_rcva, x_rcve, x_rcvp, x_rcvq, x_rcvj, x_srct, x_srcf, x_srcs, x_srcl, x_seqt, x_seql, x_enu, x_enut, x_zipl, x_zipt, x_rng1, x_rng2, x_tg1, x_tgt, x_tgl, x_var, x_put, x_ex, x_exv, x_exl, x_exl0, x_exd, x_exb, x_exi, x_dec, x_decf, x_ndec, x_ndecf, x_ty_str_str, x_ty_str_tuple, x_ty_str_int, x_ty_str_bool, x_ty_str_list, x_ty_str_dict, x_ty_str_list_tuple, x_ty_str_tuple_list, x_ty_str_str_tuple, x_ty_str_tuple_str, x_ty_str_int_bool, x_ty_str_bool_int, x_ty_str_str_int, x_ty_str_int_str, x_ty_tuple_str, x_ty_tuple_tuple, x_ty_tuple_int, x_ty_tuple_bool, x_ty_tuple_list, x_ty_tuple_dict, x_ty_tuple_list_tuple, x_ty_tuple_tuple_list, x_ty_tuple_str_tuple, x_ty_tuple_tuple_str, x_ty_tuple_int_bool, x_ty_tuple_bool_int, x_ty_tuple_str_int, x_ty_tuple_int_str, x_ty_int_str, x_ty_int_tuple, x_ty_int_int, x_ty_int_bool, x_ty_int_list, x_ty_int_dict, x_ty_int_list_tuple, x_ty_int_tuple_list, x_ty_int_str_tuple, x_ty_int_tuple_str, x_ty_int_int_bool, x_ty_int_bool_int, x_ty_int_str_int, x_ty_int_int_str, x_ty_bool_str, x_ty_bool_tuple, x_ty_bool_int, x_ty_bool_bool, x_ty_bool_list, x_ty_bool_dict, x_ty_bool_list_tuple, x_ty_bool_tuple_list, x_ty_bool_str_tuple, x_ty_bool_tuple_str, x_ty_bool_int_bool, x_ty_bool_bool_int, x_ty_bool_str_int, x_ty_bool_int_str, x_ty_list_str, x_ty_list_tuple, x_ty_list_int, x_ty_list_bool, x_ty_list_list, x_ty_list_dict, x_ty_list_list_tuple, x_ty_list_tuple_list, x_ty_list_str_tuple, x_ty_list_tuple_str, x_ty_list_int_bool, x_ty_list_bool_int, x_ty_list_str_int, x_ty_list_int_str, x_ty_dict_str, x_ty_dict_tuple, x_ty_dict_int, x_ty_dict_bool, x_ty_dict_list, x_ty_dict_dict, x_ty_dict_list_tuple, x_ty_dict_tuple_list, x_ty_dict_str_tuple, x_ty_dict_tuple_str, x_ty_dict_int_bool, x_ty_dict_bool_int, x_ty_dict_str_int, x_ty_dict_int_str, x_puto, x_puto', List.map_cons, List.map_nil, List.length_cons, List.length_nil, List.cons_append, List.nil_append, List.replicate, Nat.sub_zero, Nat.sub_self, Nat.zero_add, Nat.reduceAdd, Nat.reduceSub, List.getElem?_cons_zero, List.getElem?_cons_succ, List.set_cons_zero, List.set_cons_succ, setF, wipeF, true_and, and_true, if_true, if_false, Bool.true_eq_false, Bool.false_eq_true, ite_true, ite_false, reduceIte, not_true_eq_false, not_false_eq_true, Bool.not_true, Bool.not_false, exists_eq_left', exists_const, ne_eq]
  refine d_repeated (by omega) (by omega) ?_
  try simp (maxSteps := 2000000) only [startF, wSs, wS, wE, wL, wO, wB, wI, x_add, x_adds, x_addl, x_addt, x_sub, x_mul, x_mult, x_mull, x_fdv, x_mod, x_pow, x_auga, x_augs, x_augm, x_eqi, x_eqs, x_eqb, x_nei, x_nes, x_neb, x_eqtt, x_eqrr, x_eqtr, x_eqrt, x_eqst, x_eqts, x_nett, x_nerr, x_netr, x_nert, x_nest, x_nets, x_lt, x_le, x_gt, x_ge, x_ins, x_isn, x_isnt, x_ixt, x_ixl, x_ixd, x_ixs, x_slt, x_sll, x_sls, x_std, x_stl, x_isin, x_isis, x_isit, x_isii, x_isib, x_lens, x_lent, x_lenf, x_lenl, x_inti, x_intb, x_abs, x_max2, x_min2, x_maxl, x_minl, x_mxd, x_tupl, x_tupt, x_lisl, x_list, x_liss, x_all, x_any, x_sum, x_repr, x_app, x_ext, x_pop, x_popa, x_join, x_rcva, x_rcve, x_rcvp, x_rcvq, x_rcvj, x_srct, x_srcf, x_srcs, x_srcl, x_seqt, x_seql, x_enu, x_enut, x_zipl, x_zipt, x_rng1, x_rng2, x_tg1, x_tgt, x_tgl, x_var, x_put, x_ex, x_exv, x_exl, x_exl0, x_exd, x_exb, x_exi, x_dec, x_decf, x_ndec, x_ndecf, x_ty_str_str, x_ty_str_tuple, x_ty_str_int, x_ty_str_bool, x_ty_str_list, x_ty_str_dict, x_ty_str_list_tuple, x_ty_str_tuple_list, x_ty_str_str_tuple, x_ty_str_tuple_str, x_ty_str_int_bool, x_ty_str_bool_int, x_ty_str_str_int, x_ty_str_int_str, x_ty_tuple_str, x_ty_tuple_tuple, x_ty_tuple_int, x_ty_tuple_bool, x_ty_tuple_list, x_ty_tuple_dict, x_ty_tuple_list_tuple, x_ty_tuple_tuple_list, x_ty_tuple_str_tuple, x_ty_tuple_tuple_str, x_ty_tuple_int_bool, x_ty_tuple_bool_int, x_ty_tuple_str_int, x_ty_tuple_int_str, x_ty_int_str, x_ty_int_tuple, x_ty_int_int, x_ty_int_bool, x_ty_int_list, x_ty_int_dict, x_ty_int_list_tuple, x_ty_int_tuple_list, x_ty_int_str_tuple, x_ty_int_tuple_str, x_ty_int_int_bool, x_ty_int_bool_int, x_ty_int_str_int, x_ty_int_int_str, x_ty_bool_str, x_ty_bool_tuple, x_ty_bool_int, x_ty_bool_bool, x_ty_bool_list, x_ty_bool_dict, x_ty_bool_list_tuple, x_ty_bool_tuple_list, x_ty_bool_str_tuple, x_ty_bool_tuple_str, x_ty_bool_int_bool, x_ty_bool_bool_int, x_ty_bool_str_int, x_ty_bool_int_str, x_ty_list_str, x_ty_list_tuple, x_ty_list_int, x_ty_list_bool, x_ty_list_list, x_ty_list_dict, x_ty_list_list_tuple, x_ty_list_tuple_list, x_ty_list_str_tuple, x_ty_list_tuple_str, x_ty_list_int_bool, x_ty_list_bool_int, x_ty_list_str_int, x_ty_list_int_str, x_ty_dict_str, x_ty_dict_tuple, x_ty_dict_int, x_ty_dict_bool, x_ty_dict_list, x_ty_dict_dict, x_ty_dict_list_tuple, x_ty_dict_tuple_list, x_ty_dict_str_tuple, x_ty_dict_tuple_str, x_ty_dict_int_bool, x_ty_dict_bool_int, x_ty_dict_str_int, x_ty_dict_int_str, x_puto, x_puto', List.map_cons, List.map_nil, List.length_cons, List.length_nil, List.cons_append, List.nil_append, List.replicate, Nat.sub_zero, Nat.sub_self, Nat.zero_add, Nat.reduceAdd, Nat.reduceSub, List.getElem?_cons_zero, List.getElem?_cons_succ, List.set_cons_zero, List.set_cons_succ, setF, wipeF, true_and, and_true, if_true, if_false, Bool.true_eq_false, Bool.false_eq_true, ite_true, ite_false, reduceIte, not_true_eq_false, not_false_eq_true, Bool.not_true, Bool.not_false, exists_eq_left', exists_const, ne_eq]
  have kb := kb_shN hx
  have dpm := dp_rep m
  have szm := sz_rep m
  have pm : prB (shN x) (rep m) = true := tm_rep x m
  refine d_is_program (t := shN x) (by omega) (by omega) kb fun S2 e2 => ?_
  rw [pm]
  try simp (maxSteps := 2000000) only [startF, wSs, wS, wE, wL, wO, wB, wI, x_add, x_adds, x_addl, x_addt, x_sub, x_mul, x_mult, x_mull, x_fdv, x_mod, x_pow, x_auga, x_augs, x_augm, x_eqi, x_eqs, x_eqb, x_nei, x_nes, x_neb, x_eqtt, x_eqrr, x_eqtr, x_eqrt, x_eqst, x_eqts, x_nett, x_nerr, x_netr, x_nert, x_nest, x_nets, x_lt, x_le, x_gt, x_ge, x_ins, x_isn, x_isnt, x_ixt, x_ixl, x_ixd, x_ixs, x_slt, x_sll, x_sls, x_std, x_stl, x_isin, x_isis, x_isit, x_isii, x_isib, x_lens, x_lent, x_lenf, x_lenl, x_inti, x_intb, x_abs, x_max2, x_min2, x_maxl, x_minl, x_mxd, x_tupl, x_tupt, x_lisl, x_list, x_liss, x_all, x_any, x_sum, x_repr, x_app, x_ext, x_pop, x_popa, x_join, x_rcva, x_rcve, x_rcvp, x_rcvq, x_rcvj, x_srct, x_srcf, x_srcs, x_srcl, x_seqt, x_seql, x_enu, x_enut, x_zipl, x_zipt, x_rng1, x_rng2, x_tg1, x_tgt, x_tgl, x_var, x_put, x_ex, x_exv, x_exl, x_exl0, x_exd, x_exb, x_exi, x_dec, x_decf, x_ndec, x_ndecf, x_ty_str_str, x_ty_str_tuple, x_ty_str_int, x_ty_str_bool, x_ty_str_list, x_ty_str_dict, x_ty_str_list_tuple, x_ty_str_tuple_list, x_ty_str_str_tuple, x_ty_str_tuple_str, x_ty_str_int_bool, x_ty_str_bool_int, x_ty_str_str_int, x_ty_str_int_str, x_ty_tuple_str, x_ty_tuple_tuple, x_ty_tuple_int, x_ty_tuple_bool, x_ty_tuple_list, x_ty_tuple_dict, x_ty_tuple_list_tuple, x_ty_tuple_tuple_list, x_ty_tuple_str_tuple, x_ty_tuple_tuple_str, x_ty_tuple_int_bool, x_ty_tuple_bool_int, x_ty_tuple_str_int, x_ty_tuple_int_str, x_ty_int_str, x_ty_int_tuple, x_ty_int_int, x_ty_int_bool, x_ty_int_list, x_ty_int_dict, x_ty_int_list_tuple, x_ty_int_tuple_list, x_ty_int_str_tuple, x_ty_int_tuple_str, x_ty_int_int_bool, x_ty_int_bool_int, x_ty_int_str_int, x_ty_int_int_str, x_ty_bool_str, x_ty_bool_tuple, x_ty_bool_int, x_ty_bool_bool, x_ty_bool_list, x_ty_bool_dict, x_ty_bool_list_tuple, x_ty_bool_tuple_list, x_ty_bool_str_tuple, x_ty_bool_tuple_str, x_ty_bool_int_bool, x_ty_bool_bool_int, x_ty_bool_str_int, x_ty_bool_int_str, x_ty_list_str, x_ty_list_tuple, x_ty_list_int, x_ty_list_bool, x_ty_list_list, x_ty_list_dict, x_ty_list_list_tuple, x_ty_list_tuple_list, x_ty_list_str_tuple, x_ty_list_tuple_str, x_ty_list_int_bool, x_ty_list_bool_int, x_ty_list_str_int, x_ty_list_int_str, x_ty_dict_str, x_ty_dict_tuple, x_ty_dict_int, x_ty_dict_bool, x_ty_dict_list, x_ty_dict_dict, x_ty_dict_list_tuple, x_ty_dict_tuple_list, x_ty_dict_str_tuple, x_ty_dict_tuple_str, x_ty_dict_int_bool, x_ty_dict_bool_int, x_ty_dict_str_int, x_ty_dict_int_str, x_puto, x_puto', List.map_cons, List.map_nil, List.length_cons, List.length_nil, List.cons_append, List.nil_append, List.replicate, Nat.sub_zero, Nat.sub_self, Nat.zero_add, Nat.reduceAdd, Nat.reduceSub, List.getElem?_cons_zero, List.getElem?_cons_succ, List.set_cons_zero, List.set_cons_succ, setF, wipeF, true_and, and_true, if_true, if_false, Bool.true_eq_false, Bool.false_eq_true, ite_true, ite_false, reduceIte, not_true_eq_false, not_false_eq_true, Bool.not_true, Bool.not_false, exists_eq_left', exists_const, ne_eq]
  refine d_size_of (t := shN x) (by omega) (by omega) kb pm fun S3 e3 => ?_
  try simp (maxSteps := 2000000) only [startF, wSs, wS, wE, wL, wO, wB, wI, x_add, x_adds, x_addl, x_addt, x_sub, x_mul, x_mult, x_mull, x_fdv, x_mod, x_pow, x_auga, x_augs, x_augm, x_eqi, x_eqs, x_eqb, x_nei, x_nes, x_neb, x_eqtt, x_eqrr, x_eqtr, x_eqrt, x_eqst, x_eqts, x_nett, x_nerr, x_netr, x_nert, x_nest, x_nets, x_lt, x_le, x_gt, x_ge, x_ins, x_isn, x_isnt, x_ixt, x_ixl, x_ixd, x_ixs, x_slt, x_sll, x_sls, x_std, x_stl, x_isin, x_isis, x_isit, x_isii, x_isib, x_lens, x_lent, x_lenf, x_lenl, x_inti, x_intb, x_abs, x_max2, x_min2, x_maxl, x_minl, x_mxd, x_tupl, x_tupt, x_lisl, x_list, x_liss, x_all, x_any, x_sum, x_repr, x_app, x_ext, x_pop, x_popa, x_join, x_rcva, x_rcve, x_rcvp, x_rcvq, x_rcvj, x_srct, x_srcf, x_srcs, x_srcl, x_seqt, x_seql, x_enu, x_enut, x_zipl, x_zipt, x_rng1, x_rng2, x_tg1, x_tgt, x_tgl, x_var, x_put, x_ex, x_exv, x_exl, x_exl0, x_exd, x_exb, x_exi, x_dec, x_decf, x_ndec, x_ndecf, x_ty_str_str, x_ty_str_tuple, x_ty_str_int, x_ty_str_bool, x_ty_str_list, x_ty_str_dict, x_ty_str_list_tuple, x_ty_str_tuple_list, x_ty_str_str_tuple, x_ty_str_tuple_str, x_ty_str_int_bool, x_ty_str_bool_int, x_ty_str_str_int, x_ty_str_int_str, x_ty_tuple_str, x_ty_tuple_tuple, x_ty_tuple_int, x_ty_tuple_bool, x_ty_tuple_list, x_ty_tuple_dict, x_ty_tuple_list_tuple, x_ty_tuple_tuple_list, x_ty_tuple_str_tuple, x_ty_tuple_tuple_str, x_ty_tuple_int_bool, x_ty_tuple_bool_int, x_ty_tuple_str_int, x_ty_tuple_int_str, x_ty_int_str, x_ty_int_tuple, x_ty_int_int, x_ty_int_bool, x_ty_int_list, x_ty_int_dict, x_ty_int_list_tuple, x_ty_int_tuple_list, x_ty_int_str_tuple, x_ty_int_tuple_str, x_ty_int_int_bool, x_ty_int_bool_int, x_ty_int_str_int, x_ty_int_int_str, x_ty_bool_str, x_ty_bool_tuple, x_ty_bool_int, x_ty_bool_bool, x_ty_bool_list, x_ty_bool_dict, x_ty_bool_list_tuple, x_ty_bool_tuple_list, x_ty_bool_str_tuple, x_ty_bool_tuple_str, x_ty_bool_int_bool, x_ty_bool_bool_int, x_ty_bool_str_int, x_ty_bool_int_str, x_ty_list_str, x_ty_list_tuple, x_ty_list_int, x_ty_list_bool, x_ty_list_list, x_ty_list_dict, x_ty_list_list_tuple, x_ty_list_tuple_list, x_ty_list_str_tuple, x_ty_list_tuple_str, x_ty_list_int_bool, x_ty_list_bool_int, x_ty_list_str_int, x_ty_list_int_str, x_ty_dict_str, x_ty_dict_tuple, x_ty_dict_int, x_ty_dict_bool, x_ty_dict_list, x_ty_dict_dict, x_ty_dict_list_tuple, x_ty_dict_tuple_list, x_ty_dict_str_tuple, x_ty_dict_tuple_str, x_ty_dict_int_bool, x_ty_dict_bool_int, x_ty_dict_str_int, x_ty_dict_int_str, x_puto, x_puto', List.map_cons, List.map_nil, List.length_cons, List.length_nil, List.cons_append, List.nil_append, List.replicate, Nat.sub_zero, Nat.sub_self, Nat.zero_add, Nat.reduceAdd, Nat.reduceSub, List.getElem?_cons_zero, List.getElem?_cons_succ, List.set_cons_zero, List.set_cons_succ, setF, wipeF, true_and, and_true, if_true, if_false, Bool.true_eq_false, Bool.false_eq_true, ite_true, ite_false, reduceIte, not_true_eq_false, not_false_eq_true, Bool.not_true, Bool.not_false, exists_eq_left', exists_const, ne_eq]
  refine d_depth_of (t := shN x) (by omega) (by omega) kb pm fun S4 e4 => ?_
  refine ⟨by omega, fun p hp => ⟨by omega, fun q hq => ?_⟩⟩
  have pq : ¬ p = q := fun e => by rw [← e, put_same] at hq; cases hq
  rw [szm, dpm]
  refine eqD_same (d := .list [.int ((m + 1 : Nat) : Int), .int ((m + 1 : Nat) : Int)]) ?_ ?_ ?_ ?_
  · exact .lst ((put_ne pq).trans put_same) (.cons (.int _) (.cons (.int _) .nil))
  · exact .lst put_same (.cons (.int _) (.cons (.int _) .nil))
  · exact PySem.W.ke_shaped_ints [((m + 1 : Nat) : Int), ((m + 1 : Nat) : Int)]
  try simp (maxSteps := 2000000) only [startF, wSs, wS, wE, wL, wO, wB, wI, x_add, x_adds, x_addl, x_addt, x_sub, x_mul, x_mult, x_mull, x_fdv, x_mod, x_pow, x_auga, x_augs, x_augm, x_eqi, x_eqs, x_eqb, x_nei, x_nes, x_neb, x_eqtt, x_eqrr, x_eqtr, x_eqrt, x_eqst, x_eqts, x_nett, x_nerr, x_netr, x_nert, x_nest, x_nets, x_lt, x_le, x_gt, x_ge, x_ins, x_isn, x_isnt, x_ixt, x_ixl, x_ixd, x_ixs, x_slt, x_sll, x_sls, x_std, x_stl, x_isin, x_isis, x_isit, x_isii, x_isib, x_lens, x_lent, x_lenf, x_lenl, x_inti, x_intb, x_abs, x_max2, x_min2, x_maxl, x_minl, x_mxd, x_tupl, x_tupt, x_lisl, x_list, x_liss, x_all, x_any, x_sum, x_repr, x_app, x_ext, x_pop, x_popa, x_join, x_rcva, x_rcve, x_rcvp, x_rcvq, x_rcvj, x_srct, x_srcf, x_srcs, x_srcl, x_seqt, x_seql, x_enu, x_enut, x_zipl, x_zipt, x_rng1, x_rng2, x_tg1, x_tgt, x_tgl, x_var, x_put, x_ex, x_exv, x_exl, x_exl0, x_exd, x_exb, x_exi, x_dec, x_decf, x_ndec, x_ndecf, x_ty_str_str, x_ty_str_tuple, x_ty_str_int, x_ty_str_bool, x_ty_str_list, x_ty_str_dict, x_ty_str_list_tuple, x_ty_str_tuple_list, x_ty_str_str_tuple, x_ty_str_tuple_str, x_ty_str_int_bool, x_ty_str_bool_int, x_ty_str_str_int, x_ty_str_int_str, x_ty_tuple_str, x_ty_tuple_tuple, x_ty_tuple_int, x_ty_tuple_bool, x_ty_tuple_list, x_ty_tuple_dict, x_ty_tuple_list_tuple, x_ty_tuple_tuple_list, x_ty_tuple_str_tuple, x_ty_tuple_tuple_str, x_ty_tuple_int_bool, x_ty_tuple_bool_int, x_ty_tuple_str_int, x_ty_tuple_int_str, x_ty_int_str, x_ty_int_tuple, x_ty_int_int, x_ty_int_bool, x_ty_int_list, x_ty_int_dict, x_ty_int_list_tuple, x_ty_int_tuple_list, x_ty_int_str_tuple, x_ty_int_tuple_str, x_ty_int_int_bool, x_ty_int_bool_int, x_ty_int_str_int, x_ty_int_int_str, x_ty_bool_str, x_ty_bool_tuple, x_ty_bool_int, x_ty_bool_bool, x_ty_bool_list, x_ty_bool_dict, x_ty_bool_list_tuple, x_ty_bool_tuple_list, x_ty_bool_str_tuple, x_ty_bool_tuple_str, x_ty_bool_int_bool, x_ty_bool_bool_int, x_ty_bool_str_int, x_ty_bool_int_str, x_ty_list_str, x_ty_list_tuple, x_ty_list_int, x_ty_list_bool, x_ty_list_list, x_ty_list_dict, x_ty_list_list_tuple, x_ty_list_tuple_list, x_ty_list_str_tuple, x_ty_list_tuple_str, x_ty_list_int_bool, x_ty_list_bool_int, x_ty_list_str_int, x_ty_list_int_str, x_ty_dict_str, x_ty_dict_tuple, x_ty_dict_int, x_ty_dict_bool, x_ty_dict_list, x_ty_dict_dict, x_ty_dict_list_tuple, x_ty_dict_tuple_list, x_ty_dict_str_tuple, x_ty_dict_tuple_str, x_ty_dict_int_bool, x_ty_dict_bool_int, x_ty_dict_str_int, x_ty_dict_int_str, x_puto, x_puto', List.map_cons, List.map_nil, List.length_cons, List.length_nil, List.cons_append, List.nil_append, List.replicate, Nat.sub_zero, Nat.sub_self, Nat.zero_add, Nat.reduceAdd, Nat.reduceSub, List.getElem?_cons_zero, List.getElem?_cons_succ, List.set_cons_zero, List.set_cons_succ, setF, wipeF, true_and, and_true, if_true, if_false, Bool.true_eq_false, Bool.false_eq_true, ite_true, ite_false, reduceIte, not_true_eq_false, not_false_eq_true, Bool.not_true, Bool.not_false, exists_eq_left', exists_const, ne_eq]
  refine d_paths (t := shN x) (by omega) (by omega) kb pm fun u S5 e5 nu gu => ?_
  try simp (maxSteps := 2000000) only [startF, wSs, wS, wE, wL, wO, wB, wI, x_add, x_adds, x_addl, x_addt, x_sub, x_mul, x_mult, x_mull, x_fdv, x_mod, x_pow, x_auga, x_augs, x_augm, x_eqi, x_eqs, x_eqb, x_nei, x_nes, x_neb, x_eqtt, x_eqrr, x_eqtr, x_eqrt, x_eqst, x_eqts, x_nett, x_nerr, x_netr, x_nert, x_nest, x_nets, x_lt, x_le, x_gt, x_ge, x_ins, x_isn, x_isnt, x_ixt, x_ixl, x_ixd, x_ixs, x_slt, x_sll, x_sls, x_std, x_stl, x_isin, x_isis, x_isit, x_isii, x_isib, x_lens, x_lent, x_lenf, x_lenl, x_inti, x_intb, x_abs, x_max2, x_min2, x_maxl, x_minl, x_mxd, x_tupl, x_tupt, x_lisl, x_list, x_liss, x_all, x_any, x_sum, x_repr, x_app, x_ext, x_pop, x_popa, x_join, x_rcva, x_rcve, x_rcvp, x_rcvq, x_rcvj, x_srct, x_srcf, x_srcs, x_srcl, x_seqt, x_seql, x_enu, x_enut, x_zipl, x_zipt, x_rng1, x_rng2, x_tg1, x_tgt, x_tgl, x_var, x_put, x_ex, x_exv, x_exl, x_exl0, x_exd, x_exb, x_exi, x_dec, x_decf, x_ndec, x_ndecf, x_ty_str_str, x_ty_str_tuple, x_ty_str_int, x_ty_str_bool, x_ty_str_list, x_ty_str_dict, x_ty_str_list_tuple, x_ty_str_tuple_list, x_ty_str_str_tuple, x_ty_str_tuple_str, x_ty_str_int_bool, x_ty_str_bool_int, x_ty_str_str_int, x_ty_str_int_str, x_ty_tuple_str, x_ty_tuple_tuple, x_ty_tuple_int, x_ty_tuple_bool, x_ty_tuple_list, x_ty_tuple_dict, x_ty_tuple_list_tuple, x_ty_tuple_tuple_list, x_ty_tuple_str_tuple, x_ty_tuple_tuple_str, x_ty_tuple_int_bool, x_ty_tuple_bool_int, x_ty_tuple_str_int, x_ty_tuple_int_str, x_ty_int_str, x_ty_int_tuple, x_ty_int_int, x_ty_int_bool, x_ty_int_list, x_ty_int_dict, x_ty_int_list_tuple, x_ty_int_tuple_list, x_ty_int_str_tuple, x_ty_int_tuple_str, x_ty_int_int_bool, x_ty_int_bool_int, x_ty_int_str_int, x_ty_int_int_str, x_ty_bool_str, x_ty_bool_tuple, x_ty_bool_int, x_ty_bool_bool, x_ty_bool_list, x_ty_bool_dict, x_ty_bool_list_tuple, x_ty_bool_tuple_list, x_ty_bool_str_tuple, x_ty_bool_tuple_str, x_ty_bool_int_bool, x_ty_bool_bool_int, x_ty_bool_str_int, x_ty_bool_int_str, x_ty_list_str, x_ty_list_tuple, x_ty_list_int, x_ty_list_bool, x_ty_list_list, x_ty_list_dict, x_ty_list_list_tuple, x_ty_list_tuple_list, x_ty_list_str_tuple, x_ty_list_tuple_str, x_ty_list_int_bool, x_ty_list_bool_int, x_ty_list_str_int, x_ty_list_int_str, x_ty_dict_str, x_ty_dict_tuple, x_ty_dict_int, x_ty_dict_bool, x_ty_dict_list, x_ty_dict_dict, x_ty_dict_list_tuple, x_ty_dict_tuple_list, x_ty_dict_str_tuple, x_ty_dict_tuple_str, x_ty_dict_int_bool, x_ty_dict_bool_int, x_ty_dict_str_int, x_ty_dict_int_str, x_puto, x_puto', List.map_cons, List.map_nil, List.length_cons, List.length_nil, List.cons_append, List.nil_append, List.replicate, Nat.sub_zero, Nat.sub_self, Nat.zero_add, Nat.reduceAdd, Nat.reduceSub, List.getElem?_cons_zero, List.getElem?_cons_succ, List.set_cons_zero, List.set_cons_succ, setF, wipeF, true_and, and_true, if_true, if_false, Bool.true_eq_false, Bool.false_eq_true, ite_true, ite_false, reduceIte, not_true_eq_false, not_false_eq_true, Bool.not_true, Bool.not_false, exists_eq_left', exists_const, ne_eq]
  refine ⟨⟨by omega, by omega⟩, ?_⟩
  have en : ((m : Int) + 1).toNat = m + 1 := by omega
  rw [en]
  show loopW _ _ _ ((List.range (m + 1)).map fun i : Nat => D.int (0 + ((i : Nat) : Int))) _ _
  refine loop_map _ (fun i : Nat => rwD (List.replicate i 0)) (fun _ _ => trivial) (List.range (m + 1)) (by rw [List.length_range]; omega) (fun i hi acc S6 N e6 hl hN => ?_) fun S6 e6 v hv => ?_
  · have hi := List.mem_range.mp hi
    try simp (maxSteps := 2000000) only [startF, wSs, wS, wE, wL, wO, wB, wI, x_add, x_adds, x_addl, x_addt, x_sub, x_mul, x_mult, x_mull, x_fdv, x_mod, x_pow, x_auga, x_augs, x_augm, x_eqi, x_eqs, x_eqb, x_nei, x_nes, x_neb, x_eqtt, x_eqrr, x_eqtr, x_eqrt, x_eqst, x_eqts, x_nett, x_nerr, x_netr, x_nert, x_nest, x_nets, x_lt, x_le, x_gt, x_ge, x_ins, x_isn, x_isnt, x_ixt, x_ixl, x_ixd, x_ixs, x_slt, x_sll, x_sls, x_std, x_stl, x_isin, x_isis, x_isit, x_isii, x_isib, x_lens, x_lent, x_lenf, x_lenl, x_inti, x_intb, x_abs, x_max2, x_min2, x_maxl, x_minl, x_mxd, x_tupl, x_tupt, x_lisl, x_list, x_liss, x_all, x_any, x_sum, x_repr, x_app, x_ext, x_pop, x_popa, x_join, x_rcva, x_rcve, x_rcvp, x_rcvq, x_rcvj, x_srct, x_srcf, x_srcs, x_srcl, x_seqt, x_seql, x_enu, x_enut, x_zipl, x_zipt, x_rng1, x_rng2, x_tg1, x_tgt, x_tgl, x_var, x_put, x_ex, x_exv, x_exl, x_exl0, x_exd, x_exb, x_exi, x_dec, x_decf, x_ndec, x_ndecf, x_ty_str_str, x_ty_str_tuple, x_ty_str_int, x_ty_str_bool, x_ty_str_list, x_ty_str_dict, x_ty_str_list_tuple, x_ty_str_tuple_list, x_ty_str_str_tuple, x_ty_str_tuple_str, x_ty_str_int_bool, x_ty_str_bool_int, x_ty_str_str_int, x_ty_str_int_str, x_ty_tuple_str, x_ty_tuple_tuple, x_ty_tuple_int, x_ty_tuple_bool, x_ty_tuple_list, x_ty_tuple_dict, x_ty_tuple_list_tuple, x_ty_tuple_tuple_list, x_ty_tuple_str_tuple, x_ty_tuple_tuple_str, x_ty_tuple_int_bool, x_ty_tuple_bool_int, x_ty_tuple_str_int, x_ty_tuple_int_str, x_ty_int_str, x_ty_int_tuple, x_ty_int_int, x_ty_int_bool, x_ty_int_list, x_ty_int_dict, x_ty_int_list_tuple, x_ty_int_tuple_list, x_ty_int_str_tuple, x_ty_int_tuple_str, x_ty_int_int_bool, x_ty_int_bool_int, x_ty_int_str_int, x_ty_int_int_str, x_ty_bool_str, x_ty_bool_tuple, x_ty_bool_int, x_ty_bool_bool, x_ty_bool_list, x_ty_bool_dict, x_ty_bool_list_tuple, x_ty_bool_tuple_list, x_ty_bool_str_tuple, x_ty_bool_tuple_str, x_ty_bool_int_bool, x_ty_bool_bool_int, x_ty_bool_str_int, x_ty_bool_int_str, x_ty_list_str, x_ty_list_tuple, x_ty_list_int, x_ty_list_bool, x_ty_list_list, x_ty_list_dict, x_ty_list_list_tuple, x_ty_list_tuple_list, x_ty_list_str_tuple, x_ty_list_tuple_str, x_ty_list_int_bool, x_ty_list_bool_int, x_ty_list_str_int, x_ty_list_int_str, x_ty_dict_str, x_ty_dict_tuple, x_ty_dict_int, x_ty_dict_bool, x_ty_dict_list, x_ty_dict_dict, x_ty_dict_list_tuple, x_ty_dict_tuple_list, x_ty_dict_str_tuple, x_ty_dict_tuple_str, x_ty_dict_int_bool, x_ty_dict_bool_int, x_ty_dict_str_int, x_ty_dict_int_str, x_puto, x_puto', List.map_cons, List.map_nil, List.length_cons, List.length_nil, List.cons_append, List.nil_append, List.replicate, Nat.sub_zero, Nat.sub_self, Nat.zero_add, Nat.reduceAdd, Nat.reduceSub, List.getElem?_cons_zero, List.getElem?_cons_succ, List.set_cons_zero, List.set_cons_succ, setF, wipeF, true_and, and_true, if_true, if_false, Bool.true_eq_false, Bool.false_eq_true, ite_true, ite_false, reduceIte, not_true_eq_false, not_false_eq_true, Bool.not_true, Bool.not_false, exists_eq_left', exists_const, ne_eq]
    refine ⟨by omega, by omega, by omega, by decide, hl, ?_⟩
    have := hN S6 .refl
    rw [Int.zero_add, Int.toNat_natCast, rep_0]
    exact this
  refine eqD_same (d := .list ((rep m).pth.map rwP)) ?_ ?_ ?_ ?_
  · have gu6 := e6.k _ _ gu
    exact .lst ((Ext.new hv).k _ _ gu6) (rows_py _)
  · refine .lst (xs := (rep m).pth.map rwD) ?_ (rows_py _)
    rw [pth_rep, List.map_map]
    exact put_same
  · exact shaped_rows _
  try simp (maxSteps := 2000000) only [startF, wSs, wS, wE, wL, wO, wB, wI, x_add, x_adds, x_addl, x_addt, x_sub, x_mul, x_mult, x_mull, x_fdv, x_mod, x_pow, x_auga, x_augs, x_augm, x_eqi, x_eqs, x_eqb, x_nei, x_nes, x_neb, x_eqtt, x_eqrr, x_eqtr, x_eqrt, x_eqst, x_eqts, x_nett, x_nerr, x_netr, x_nert, x_nest, x_nets, x_lt, x_le, x_gt, x_ge, x_ins, x_isn, x_isnt, x_ixt, x_ixl, x_ixd, x_ixs, x_slt, x_sll, x_sls, x_std, x_stl, x_isin, x_isis, x_isit, x_isii, x_isib, x_lens, x_lent, x_lenf, x_lenl, x_inti, x_intb, x_abs, x_max2, x_min2, x_maxl, x_minl, x_mxd, x_tupl, x_tupt, x_lisl, x_list, x_liss, x_all, x_any, x_sum, x_repr, x_app, x_ext, x_pop, x_popa, x_join, x_rcva, x_rcve, x_rcvp, x_rcvq, x_rcvj, x_srct, x_srcf, x_srcs, x_srcl, x_seqt, x_seql, x_enu, x_enut, x_zipl, x_zipt, x_rng1, x_rng2, x_tg1, x_tgt, x_tgl, x_var, x_put, x_ex, x_exv, x_exl, x_exl0, x_exd, x_exb, x_exi, x_dec, x_decf, x_ndec, x_ndecf, x_ty_str_str, x_ty_str_tuple, x_ty_str_int, x_ty_str_bool, x_ty_str_list, x_ty_str_dict, x_ty_str_list_tuple, x_ty_str_tuple_list, x_ty_str_str_tuple, x_ty_str_tuple_str, x_ty_str_int_bool, x_ty_str_bool_int, x_ty_str_str_int, x_ty_str_int_str, x_ty_tuple_str, x_ty_tuple_tuple, x_ty_tuple_int, x_ty_tuple_bool, x_ty_tuple_list, x_ty_tuple_dict, x_ty_tuple_list_tuple, x_ty_tuple_tuple_list, x_ty_tuple_str_tuple, x_ty_tuple_tuple_str, x_ty_tuple_int_bool, x_ty_tuple_bool_int, x_ty_tuple_str_int, x_ty_tuple_int_str, x_ty_int_str, x_ty_int_tuple, x_ty_int_int, x_ty_int_bool, x_ty_int_list, x_ty_int_dict, x_ty_int_list_tuple, x_ty_int_tuple_list, x_ty_int_str_tuple, x_ty_int_tuple_str, x_ty_int_int_bool, x_ty_int_bool_int, x_ty_int_str_int, x_ty_int_int_str, x_ty_bool_str, x_ty_bool_tuple, x_ty_bool_int, x_ty_bool_bool, x_ty_bool_list, x_ty_bool_dict, x_ty_bool_list_tuple, x_ty_bool_tuple_list, x_ty_bool_str_tuple, x_ty_bool_tuple_str, x_ty_bool_int_bool, x_ty_bool_bool_int, x_ty_bool_str_int, x_ty_bool_int_str, x_ty_list_str, x_ty_list_tuple, x_ty_list_int, x_ty_list_bool, x_ty_list_list, x_ty_list_dict, x_ty_list_list_tuple, x_ty_list_tuple_list, x_ty_list_str_tuple, x_ty_list_tuple_str, x_ty_list_int_bool, x_ty_list_bool_int, x_ty_list_str_int, x_ty_list_int_str, x_ty_dict_str, x_ty_dict_tuple, x_ty_dict_int, x_ty_dict_bool, x_ty_dict_list, x_ty_dict_dict, x_ty_dict_list_tuple, x_ty_dict_tuple_list, x_ty_dict_str_tuple, x_ty_dict_tuple_str, x_ty_dict_int_bool, x_ty_dict_bool_int, x_ty_dict_str_int, x_ty_dict_int_str, x_puto, x_puto', List.map_cons, List.map_nil, List.length_cons, List.length_nil, List.cons_append, List.nil_append, List.replicate, Nat.sub_zero, Nat.sub_self, Nat.zero_add, Nat.reduceAdd, Nat.reduceSub, List.getElem?_cons_zero, List.getElem?_cons_succ, List.set_cons_zero, List.set_cons_succ, setF, wipeF, true_and, and_true, if_true, if_false, Bool.true_eq_false, Bool.false_eq_true, ite_true, ite_false, reduceIte, not_true_eq_false, not_false_eq_true, Bool.not_true, Bool.not_false, exists_eq_left', exists_const, ne_eq]
  refine ⟨by omega, by omega, by omega, by decide, ?_⟩
  rw [Int.toNat_natCast, rep_0]
  refine d_hand_at (t := shN x) (r := List.replicate m 0) (by omega) (by omega) (by rw [List.length_replicate]; omega) kb pm (fnd_rep x m) fun S7 e7 => ?_
  refine ⟨by omega, by omega, ?_⟩
  have hK2 : HK [.t [.s x, .s x], .s x] := HK.pa (t := shN x) (kindB_hf kb)
  have hd2 : D.tup [D.tup [D.str x, D.str x], D.str x] = .tup (T.ds [.t [.s x, .s x], .s x]) := rfl
  rw [hd2]
  try simp (maxSteps := 2000000) only [startF, wSs, wS, wE, wL, wO, wB, wI, x_add, x_adds, x_addl, x_addt, x_sub, x_mul, x_mult, x_mull, x_fdv, x_mod, x_pow, x_auga, x_augs, x_augm, x_eqi, x_eqs, x_eqb, x_nei, x_nes, x_neb, x_eqtt, x_eqrr, x_eqtr, x_eqrt, x_eqst, x_eqts, x_nett, x_nerr, x_netr, x_nert, x_nest, x_nets, x_lt, x_le, x_gt, x_ge, x_ins, x_isn, x_isnt, x_ixt, x_ixl, x_ixd, x_ixs, x_slt, x_sll, x_sls, x_std, x_stl, x_isin, x_isis, x_isit, x_isii, x_isib, x_lens, x_lent, x_lenf, x_lenl, x_inti, x_intb, x_abs, x_max2, x_min2, x_maxl, x_minl, x_mxd, x_tupl, x_tupt, x_lisl, x_list, x_liss, x_all, x_any, x_sum, x_repr, x_app, x_ext, x_pop, x_popa, x_join, x_rcva, x_rcve, x_rcvp, x_rcvq, x_rcvj, x_srct, x_srcf, x_srcs, x_srcl, x_seqt, x_seql, x_enu, x_enut, x_zipl, x_zipt, x_rng1, x_rng2, x_tg1, x_tgt, x_tgl, x_var, x_put, x_ex, x_exv, x_exl, x_exl0, x_exd, x_exb, x_exi, x_dec, x_decf, x_ndec, x_ndecf, x_ty_str_str, x_ty_str_tuple, x_ty_str_int, x_ty_str_bool, x_ty_str_list, x_ty_str_dict, x_ty_str_list_tuple, x_ty_str_tuple_list, x_ty_str_str_tuple, x_ty_str_tuple_str, x_ty_str_int_bool, x_ty_str_bool_int, x_ty_str_str_int, x_ty_str_int_str, x_ty_tuple_str, x_ty_tuple_tuple, x_ty_tuple_int, x_ty_tuple_bool, x_ty_tuple_list, x_ty_tuple_dict, x_ty_tuple_list_tuple, x_ty_tuple_tuple_list, x_ty_tuple_str_tuple, x_ty_tuple_tuple_str, x_ty_tuple_int_bool, x_ty_tuple_bool_int, x_ty_tuple_str_int, x_ty_tuple_int_str, x_ty_int_str, x_ty_int_tuple, x_ty_int_int, x_ty_int_bool, x_ty_int_list, x_ty_int_dict, x_ty_int_list_tuple, x_ty_int_tuple_list, x_ty_int_str_tuple, x_ty_int_tuple_str, x_ty_int_int_bool, x_ty_int_bool_int, x_ty_int_str_int, x_ty_int_int_str, x_ty_bool_str, x_ty_bool_tuple, x_ty_bool_int, x_ty_bool_bool, x_ty_bool_list, x_ty_bool_dict, x_ty_bool_list_tuple, x_ty_bool_tuple_list, x_ty_bool_str_tuple, x_ty_bool_tuple_str, x_ty_bool_int_bool, x_ty_bool_bool_int, x_ty_bool_str_int, x_ty_bool_int_str, x_ty_list_str, x_ty_list_tuple, x_ty_list_int, x_ty_list_bool, x_ty_list_list, x_ty_list_dict, x_ty_list_list_tuple, x_ty_list_tuple_list, x_ty_list_str_tuple, x_ty_list_tuple_str, x_ty_list_int_bool, x_ty_list_bool_int, x_ty_list_str_int, x_ty_list_int_str, x_ty_dict_str, x_ty_dict_tuple, x_ty_dict_int, x_ty_dict_bool, x_ty_dict_list, x_ty_dict_dict, x_ty_dict_list_tuple, x_ty_dict_tuple_list, x_ty_dict_str_tuple, x_ty_dict_tuple_str, x_ty_dict_int_bool, x_ty_dict_bool_int, x_ty_dict_str_int, x_ty_dict_int_str, x_puto, x_puto', List.map_cons, List.map_nil, List.length_cons, List.length_nil, List.cons_append, List.nil_append, List.replicate, Nat.sub_zero, Nat.sub_self, Nat.zero_add, Nat.reduceAdd, Nat.reduceSub, List.getElem?_cons_zero, List.getElem?_cons_succ, List.set_cons_zero, List.set_cons_succ, setF, wipeF, true_and, and_true, if_true, if_false, Bool.true_eq_false, Bool.false_eq_true, ite_true, ite_false, reduceIte, not_true_eq_false, not_false_eq_true, Bool.not_true, Bool.not_false, exists_eq_left', exists_const, ne_eq]
  refine eqD_same (.tup (T.pys_of _)) (.tup (T.pys_of _)) (shaped_hs hK2) ?_
  try simp (maxSteps := 2000000) only [startF, wSs, wS, wE, wL, wO, wB, wI, x_add, x_adds, x_addl, x_addt, x_sub, x_mul, x_mult, x_mull, x_fdv, x_mod, x_pow, x_auga, x_augs, x_augm, x_eqi, x_eqs, x_eqb, x_nei, x_nes, x_neb, x_eqtt, x_eqrr, x_eqtr, x_eqrt, x_eqst, x_eqts, x_nett, x_nerr, x_netr, x_nert, x_nest, x_nets, x_lt, x_le, x_gt, x_ge, x_ins, x_isn, x_isnt, x_ixt, x_ixl, x_ixd, x_ixs, x_slt, x_sll, x_sls, x_std, x_stl, x_isin, x_isis, x_isit, x_isii, x_isib, x_lens, x_lent, x_lenf, x_lenl, x_inti, x_intb, x_abs, x_max2, x_min2, x_maxl, x_minl, x_mxd, x_tupl, x_tupt, x_lisl, x_list, x_liss, x_all, x_any, x_sum, x_repr, x_app, x_ext, x_pop, x_popa, x_join, x_rcva, x_rcve, x_rcvp, x_rcvq, x_rcvj, x_srct, x_srcf, x_srcs, x_srcl, x_seqt, x_seql, x_enu, x_enut, x_zipl, x_zipt, x_rng1, x_rng2, x_tg1, x_tgt, x_tgl, x_var, x_put, x_ex, x_exv, x_exl, x_exl0, x_exd, x_exb, x_exi, x_dec, x_decf, x_ndec, x_ndecf, x_ty_str_str, x_ty_str_tuple, x_ty_str_int, x_ty_str_bool, x_ty_str_list, x_ty_str_dict, x_ty_str_list_tuple, x_ty_str_tuple_list, x_ty_str_str_tuple, x_ty_str_tuple_str, x_ty_str_int_bool, x_ty_str_bool_int, x_ty_str_str_int, x_ty_str_int_str, x_ty_tuple_str, x_ty_tuple_tuple, x_ty_tuple_int, x_ty_tuple_bool, x_ty_tuple_list, x_ty_tuple_dict, x_ty_tuple_list_tuple, x_ty_tuple_tuple_list, x_ty_tuple_str_tuple, x_ty_tuple_tuple_str, x_ty_tuple_int_bool, x_ty_tuple_bool_int, x_ty_tuple_str_int, x_ty_tuple_int_str, x_ty_int_str, x_ty_int_tuple, x_ty_int_int, x_ty_int_bool, x_ty_int_list, x_ty_int_dict, x_ty_int_list_tuple, x_ty_int_tuple_list, x_ty_int_str_tuple, x_ty_int_tuple_str, x_ty_int_int_bool, x_ty_int_bool_int, x_ty_int_str_int, x_ty_int_int_str, x_ty_bool_str, x_ty_bool_tuple, x_ty_bool_int, x_ty_bool_bool, x_ty_bool_list, x_ty_bool_dict, x_ty_bool_list_tuple, x_ty_bool_tuple_list, x_ty_bool_str_tuple, x_ty_bool_tuple_str, x_ty_bool_int_bool, x_ty_bool_bool_int, x_ty_bool_str_int, x_ty_bool_int_str, x_ty_list_str, x_ty_list_tuple, x_ty_list_int, x_ty_list_bool, x_ty_list_list, x_ty_list_dict, x_ty_list_list_tuple, x_ty_list_tuple_list, x_ty_list_str_tuple, x_ty_list_tuple_str, x_ty_list_int_bool, x_ty_list_bool_int, x_ty_list_str_int, x_ty_list_int_str, x_ty_dict_str, x_ty_dict_tuple, x_ty_dict_int, x_ty_dict_bool, x_ty_dict_list, x_ty_dict_dict, x_ty_dict_list_tuple, x_ty_dict_tuple_list, x_ty_dict_str_tuple, x_ty_dict_tuple_str, x_ty_dict_int_bool, x_ty_dict_bool_int, x_ty_dict_str_int, x_ty_dict_int_str, x_puto, x_puto', List.map_cons, List.map_nil, List.length_cons, List.length_nil, List.cons_append, List.nil_append, List.replicate, Nat.sub_zero, Nat.sub_self, Nat.zero_add, Nat.reduceAdd, Nat.reduceSub, List.getElem?_cons_zero, List.getElem?_cons_succ, List.set_cons_zero, List.set_cons_succ, setF, wipeF, true_and, and_true, if_true, if_false, Bool.true_eq_false, Bool.false_eq_true, ite_true, ite_false, reduceIte, not_true_eq_false, not_false_eq_true, Bool.not_true, Bool.not_false, exists_eq_left', exists_const, ne_eq]
  refine ⟨by omega, ?_⟩
  have p1 : prB (shN x) (.p 0 [rep m, rep m]) = false := by
    show tmB [.t [.s x, .s x], .s x] x _ = false
    simp [tm_p, at_0, T.pa]
  have q1 : (P.p 0 [rep m, rep m]).dp = m + 2 := by rw [P.dp, P.dps, P.dps, P.dps, dpm]; omega
  refine d_is_program (t := shN x) (p := .p 0 [rep m, rep m]) (by omega) (by omega) kb fun S8 e8 => ?_
  rw [p1]
  try simp (maxSteps := 2000000) only [startF, wSs, wS, wE, wL, wO, wB, wI, x_add, x_adds, x_addl, x_addt, x_sub, x_mul, x_mult, x_mull, x_fdv, x_mod, x_pow, x_auga, x_augs, x_augm, x_eqi, x_eqs, x_eqb, x_nei, x_nes, x_neb, x_eqtt, x_eqrr, x_eqtr, x_eqrt, x_eqst, x_eqts, x_nett, x_nerr, x_netr, x_nert, x_nest, x_nets, x_lt, x_le, x_gt, x_ge, x_ins, x_isn, x_isnt, x_ixt, x_ixl, x_ixd, x_ixs, x_slt, x_sll, x_sls, x_std, x_stl, x_isin, x_isis, x_isit, x_isii, x_isib, x_lens, x_lent, x_lenf, x_lenl, x_inti, x_intb, x_abs, x_max2, x_min2, x_maxl, x_minl, x_mxd, x_tupl, x_tupt, x_lisl, x_list, x_liss, x_all, x_any, x_sum, x_repr, x_app, x_ext, x_pop, x_popa, x_join, x_rcva, x_rcve, x_rcvp, x_rcvq, x_rcvj, x_srct, x_srcf, x_srcs, x_srcl, x_seqt, x_seql, x_enu, x_enut, x_zipl, x_zipt, x_rng1, x_rng2, x_tg1, x_tgt, x_tgl, x_var, x_put, x_ex, x_exv, x_exl, x_exl0, x_exd, x_exb, x_exi, x_dec, x_decf, x_ndec, x_ndecf, x_ty_str_str, x_ty_str_tuple, x_ty_str_int, x_ty_str_bool, x_ty_str_list, x_ty_str_dict, x_ty_str_list_tuple, x_ty_str_tuple_list, x_ty_str_str_tuple, x_ty_str_tuple_str, x_ty_str_int_bool, x_ty_str_bool_int, x_ty_str_str_int, x_ty_str_int_str, x_ty_tuple_str, x_ty_tuple_tuple, x_ty_tuple_int, x_ty_tuple_bool, x_ty_tuple_list, x_ty_tuple_dict, x_ty_tuple_list_tuple, x_ty_tuple_tuple_list, x_ty_tuple_str_tuple, x_ty_tuple_tuple_str, x_ty_tuple_int_bool, x_ty_tuple_bool_int, x_ty_tuple_str_int, x_ty_tuple_int_str, x_ty_int_str, x_ty_int_tuple, x_ty_int_int, x_ty_int_bool, x_ty_int_list, x_ty_int_dict, x_ty_int_list_tuple, x_ty_int_tuple_list, x_ty_int_str_tuple, x_ty_int_tuple_str, x_ty_int_int_bool, x_ty_int_bool_int, x_ty_int_str_int, x_ty_int_int_str, x_ty_bool_str, x_ty_bool_tuple, x_ty_bool_int, x_ty_bool_bool, x_ty_bool_list, x_ty_bool_dict, x_ty_bool_list_tuple, x_ty_bool_tuple_list, x_ty_bool_str_tuple, x_ty_bool_tuple_str, x_ty_bool_int_bool, x_ty_bool_bool_int, x_ty_bool_str_int, x_ty_bool_int_str, x_ty_list_str, x_ty_list_tuple, x_ty_list_int, x_ty_list_bool, x_ty_list_list, x_ty_list_dict, x_ty_list_list_tuple, x_ty_list_tuple_list, x_ty_list_str_tuple, x_ty_list_tuple_str, x_ty_list_int_bool, x_ty_list_bool_int, x_ty_list_str_int, x_ty_list_int_str, x_ty_dict_str, x_ty_dict_tuple, x_ty_dict_int, x_ty_dict_bool, x_ty_dict_list, x_ty_dict_dict, x_ty_dict_list_tuple, x_ty_dict_tuple_list, x_ty_dict_str_tuple, x_ty_dict_tuple_str, x_ty_dict_int_bool, x_ty_dict_bool_int, x_ty_dict_str_int, x_ty_dict_int_str, x_puto, x_puto', List.map_cons, List.map_nil, List.length_cons, List.length_nil, List.cons_append, List.nil_append, List.replicate, Nat.sub_zero, Nat.sub_self, Nat.zero_add, Nat.reduceAdd, Nat.reduceSub, List.getElem?_cons_zero, List.getElem?_cons_succ, List.set_cons_zero, List.set_cons_succ, setF, wipeF, true_and, and_true, if_true, if_false, Bool.true_eq_false, Bool.false_eq_true, ite_true, ite_false, reduceIte, not_true_eq_false, not_false_eq_true, Bool.not_true, Bool.not_false, exists_eq_left', exists_const, ne_eq]
  refine ⟨by omega, ?_⟩
  have p2 : prB (shN x) (.p 2 []) = false := by
    show tmB [.t [.s x, .s x], .s x] x _ = false
    rw [tm_p]
    rfl
  refine d_is_program (t := shN x) (p := .p 2 []) (show 1 + 10 ≤ _ by omega) (by decide) kb fun S9 e9 => ?_
  rw [p2]
  try simp (maxSteps := 2000000) only [startF, wSs, wS, wE, wL, wO, wB, wI, x_add, x_adds, x_addl, x_addt, x_sub, x_mul, x_mult, x_mull, x_fdv, x_mod, x_pow, x_auga, x_augs, x_augm, x_eqi, x_eqs, x_eqb, x_nei, x_nes, x_neb, x_eqtt, x_eqrr, x_eqtr, x_eqrt, x_eqst, x_eqts, x_nett, x_nerr, x_netr, x_nert, x_nest, x_nets, x_lt, x_le, x_gt, x_ge, x_ins, x_isn, x_isnt, x_ixt, x_ixl, x_ixd, x_ixs, x_slt, x_sll, x_sls, x_std, x_stl, x_isin, x_isis, x_isit, x_isii, x_isib, x_lens, x_lent, x_lenf, x_lenl, x_inti, x_intb, x_abs, x_max2, x_min2, x_maxl, x_minl, x_mxd, x_tupl, x_tupt, x_lisl, x_list, x_liss, x_all, x_any, x_sum, x_repr, x_app, x_ext, x_pop, x_popa, x_join, x_rcva, x_rcve, x_rcvp, x_rcvq, x_rcvj, x_srct, x_srcf, x_srcs, x_srcl, x_seqt, x_seql, x_enu, x_enut, x_zipl, x_zipt, x_rng1, x_rng2, x_tg1, x_tgt, x_tgl, x_var, x_put, x_ex, x_exv, x_exl, x_exl0, x_exd, x_exb, x_exi, x_dec, x_decf, x_ndec, x_ndecf, x_ty_str_str, x_ty_str_tuple, x_ty_str_int, x_ty_str_bool, x_ty_str_list, x_ty_str_dict, x_ty_str_list_tuple, x_ty_str_tuple_list, x_ty_str_str_tuple, x_ty_str_tuple_str, x_ty_str_int_bool, x_ty_str_bool_int, x_ty_str_str_int, x_ty_str_int_str, x_ty_tuple_str, x_ty_tuple_tuple, x_ty_tuple_int, x_ty_tuple_bool, x_ty_tuple_list, x_ty_tuple_dict, x_ty_tuple_list_tuple, x_ty_tuple_tuple_list, x_ty_tuple_str_tuple, x_ty_tuple_tuple_str, x_ty_tuple_int_bool, x_ty_tuple_bool_int, x_ty_tuple_str_int, x_ty_tuple_int_str, x_ty_int_str, x_ty_int_tuple, x_ty_int_int, x_ty_int_bool, x_ty_int_list, x_ty_int_dict, x_ty_int_list_tuple, x_ty_int_tuple_list, x_ty_int_str_tuple, x_ty_int_tuple_str, x_ty_int_int_bool, x_ty_int_bool_int, x_ty_int_str_int, x_ty_int_int_str, x_ty_bool_str, x_ty_bool_tuple, x_ty_bool_int, x_ty_bool_bool, x_ty_bool_list, x_ty_bool_dict, x_ty_bool_list_tuple, x_ty_bool_tuple_list, x_ty_bool_str_tuple, x_ty_bool_tuple_str, x_ty_bool_int_bool, x_ty_bool_bool_int, x_ty_bool_str_int, x_ty_bool_int_str, x_ty_list_str, x_ty_list_tuple, x_ty_list_int, x_ty_list_bool, x_ty_list_list, x_ty_list_dict, x_ty_list_list_tuple, x_ty_list_tuple_list, x_ty_list_str_tuple, x_ty_list_tuple_str, x_ty_list_int_bool, x_ty_list_bool_int, x_ty_list_str_int, x_ty_list_int_str, x_ty_dict_str, x_ty_dict_tuple, x_ty_dict_int, x_ty_dict_bool, x_ty_dict_list, x_ty_dict_dict, x_ty_dict_list_tuple, x_ty_dict_tuple_list, x_ty_dict_str_tuple, x_ty_dict_tuple_str, x_ty_dict_int_bool, x_ty_dict_bool_int, x_ty_dict_str_int, x_ty_dict_int_str, x_puto, x_puto', List.map_cons, List.map_nil, List.length_cons, List.length_nil, List.cons_append, List.nil_append, List.replicate, Nat.sub_zero, Nat.sub_self, Nat.zero_add, Nat.reduceAdd, Nat.reduceSub, List.getElem?_cons_zero, List.getElem?_cons_succ, List.set_cons_zero, List.set_cons_succ, setF, wipeF, true_and, and_true, if_true, if_false, Bool.true_eq_false, Bool.false_eq_true, ite_true, ite_false, reduceIte, not_true_eq_false, not_false_eq_true, Bool.not_true, Bool.not_false, exists_eq_left', exists_const, ne_eq]
  refine ⟨by omega, ?_⟩
  have p3 : prB (shN x) (.p 0 []) = false := by
    show tmB [.t [.s x, .s x], .s x] x _ = false
    simp [tm_p, at_0, T.pa]
  refine d_is_program (t := shN x) (p := .p 0 []) (show 1 + 10 ≤ _ by omega) (by decide) kb fun S10 e10 => ?_
  rw [p3]
  try simp (maxSteps := 2000000) only [startF, wSs, wS, wE, wL, wO, wB, wI, x_add, x_adds, x_addl, x_addt, x_sub, x_mul, x_mult, x_mull, x_fdv, x_mod, x_pow, x_auga, x_augs, x_augm, x_eqi, x_eqs, x_eqb, x_nei, x_nes, x_neb, x_eqtt, x_eqrr, x_eqtr, x_eqrt, x_eqst, x_eqts, x_nett, x_nerr, x_netr, x_nert, x_nest, x_nets, x_lt, x_le, x_gt, x_ge, x_ins, x_isn, x_isnt, x_ixt, x_ixl, x_ixd, x_ixs, x_slt, x_sll, x_sls, x_std, x_stl, x_isin, x_isis, x_isit, x_isii, x_isib, x_lens, x_lent, x_lenf, x_lenl, x_inti, x_intb, x_abs, x_max2, x_min2, x_maxl, x_minl, x_mxd, x_tupl, x_tupt, x_lisl, x_list, x_liss, x_all, x_any, x_sum, x_repr, x_app, x_ext, x_pop, x_popa, x_join, x_rcva, x_rcve, x_rcvp, x_rcvq, x_rcvj, x_srct, x_srcf, x_srcs, x_srcl, x_seqt, x_seql, x_enu, x_enut, x_zipl, x_zipt, x_rng1, x_rng2, x_tg1, x_tgt, x_tgl, x_var, x_put, x_ex, x_exv, x_exl, x_exl0, x_exd, x_exb, x_exi, x_dec, x_decf, x_ndec, x_ndecf, x_ty_str_str, x_ty_str_tuple, x_ty_str_int, x_ty_str_bool, x_ty_str_list, x_ty_str_dict, x_ty_str_list_tuple, x_ty_str_tuple_list, x_ty_str_str_tuple, x_ty_str_tuple_str, x_ty_str_int_bool, x_ty_str_bool_int, x_ty_str_str_int, x_ty_str_int_str, x_ty_tuple_str, x_ty_tuple_tuple, x_ty_tuple_int, x_ty_tuple_bool, x_ty_tuple_list, x_ty_tuple_dict, x_ty_tuple_list_tuple, x_ty_tuple_tuple_list, x_ty_tuple_str_tuple, x_ty_tuple_tuple_str, x_ty_tuple_int_bool, x_ty_tuple_bool_int, x_ty_tuple_str_int, x_ty_tuple_int_str, x_ty_int_str, x_ty_int_tuple, x_ty_int_int, x_ty_int_bool, x_ty_int_list, x_ty_int_dict, x_ty_int_list_tuple, x_ty_int_tuple_list, x_ty_int_str_tuple, x_ty_int_tuple_str, x_ty_int_int_bool, x_ty_int_bool_int, x_ty_int_str_int, x_ty_int_int_str, x_ty_bool_str, x_ty_bool_tuple, x_ty_bool_int, x_ty_bool_bool, x_ty_bool_list, x_ty_bool_dict, x_ty_bool_list_tuple, x_ty_bool_tuple_list, x_ty_bool_str_tuple, x_ty_bool_tuple_str, x_ty_bool_int_bool, x_ty_bool_bool_int, x_ty_bool_str_int, x_ty_bool_int_str, x_ty_list_str, x_ty_list_tuple, x_ty_list_int, x_ty_list_bool, x_ty_list_list, x_ty_list_dict, x_ty_list_list_tuple, x_ty_list_tuple_list, x_ty_list_str_tuple, x_ty_list_tuple_str, x_ty_list_int_bool, x_ty_list_bool_int, x_ty_list_str_int, x_ty_list_int_str, x_ty_dict_str, x_ty_dict_tuple, x_ty_dict_int, x_ty_dict_bool, x_ty_dict_list, x_ty_dict_dict, x_ty_dict_list_tuple, x_ty_dict_tuple_list, x_ty_dict_str_tuple, x_ty_dict_tuple_str, x_ty_dict_int_bool, x_ty_dict_bool_int, x_ty_dict_str_int, x_ty_dict_int_str, x_puto, x_puto', List.map_cons, List.map_nil, List.length_cons, List.length_nil, List.cons_append, List.nil_append, List.replicate, Nat.sub_zero, Nat.sub_self, Nat.zero_add, Nat.reduceAdd, Nat.reduceSub, List.getElem?_cons_zero, List.getElem?_cons_succ, List.set_cons_zero, List.set_cons_succ, setF, wipeF, true_and, and_true, if_true, if_false, Bool.true_eq_false, Bool.false_eq_true, ite_true, ite_false, reduceIte, not_true_eq_false, not_false_eq_true, Bool.not_true, Bool.not_false, exists_eq_left', exists_const, ne_eq]
  have sp : S1 p = none := ((e2.trans e3).trans e4).none hp
  have E5 := ((((e2.trans e3).trans e4).put sp).put (((e2.trans e3).trans e4).none (by rw [put_ne (fun e => pq e.symm)] at hq; exact hq))).trans e5
  have E6 := ((E5.trans e6).trans (Ext.new hv)).trans e7
  have E10 := ((E6.trans e8).trans e9).trans e10
  exact hQ S10 (E10.draw d1) (k1.trans E10.kp)
def shH (x y z : Str) : T := .t [.t [.t [.s x, .s y], .s z], .s y, .s z]
def shH2 (x y : Str) : T := .t [.t [.t [.t [.s x, .s y], .s y], .s y], .s x, .s y]
theorem d_handed {k : Nat} {x y z : Str} {S : Sto} {Q : KE} {E : XE} (hk : 100 ≤ k) (hx : nameB x = true) (hy : nameB y = true) (hz : nameB z = true) (hQ : ∀ S', Ext S S' → Q (.bl true) S') : wC tab k "_law_handed_right" [.str x, .str y, .str z] S Q E := by
  refine wd (fd := f__law_handed_right) (by omega) rfl rfl ?_
  unfold f__law_handed_right
  have sz := sizeLine_eq
  have sl : 10 ≤ sizeLine := by omega
  have kb : kindB (shH x y z) = true := by
    unfold kindB shH
    simp [hf_t, hf_s hx, hf_s hy, hf_s hz, wideB, endB, T.nm, T.nms, hx, hy, hz]
  have p1 : prB (shH x y z) (.p 0 [.p 1 []]) = true := by
    show tmB [.t [.t [.s x, .s y], .s z], .s y] z _ = true
    simp [tm_p, at?, T.pa, eN, tmBs_cons, tmBs_nil]
  have p2 : prB (shH x y z) (.p 0 [.p 2 []]) = decide (x = y) := by
    show tmB [.t [.t [.s x, .s y], .s z], .s y] z _ = _
    simp [tm_p, at?, T.pa, eN, tmBs_cons, tmBs_nil]
    exact decide_eq_decide.mpr Iff.rfl
  have p3 : prB (shH x y z) (.p 1 []) = decide (y = z) := by
    show tmB [.t [.t [.s x, .s y], .s z], .s y] z _ = _
    simp [tm_p, at?, T.pa, eN, tmBs_cons, tmBs_nil]
    exact decide_eq_decide.mpr Iff.rfl
  try simp (maxSteps := 2000000) only [startF, wSs, wS, wE, wL, wO, wB, wI, x_add, x_adds, x_addl, x_addt, x_sub, x_mul, x_mult, x_mull, x_fdv, x_mod, x_pow, x_auga, x_augs, x_augm, x_eqi, x_eqs, x_eqb, x_nei, x_nes, x_neb, x_eqtt, x_eqrr, x_eqtr, x_eqrt, x_eqst, x_eqts, x_nett, x_nerr, x_netr, x_nert, x_nest, x_nets, x_lt, x_le, x_gt, x_ge, x_ins, x_isn, x_isnt, x_ixt, x_ixl, x_ixd, x_ixs, x_slt, x_sll, x_sls, x_std, x_stl, x_isin, x_isis, x_isit, x_isii, x_isib, x_lens, x_lent, x_lenf, x_lenl, x_inti, x_intb, x_abs, x_max2, x_min2, x_maxl, x_minl, x_mxd, x_tupl, x_tupt, x_lisl, x_list, x_liss, x_all, x_any, x_sum, x_repr, x_app, x_ext, x_pop, x_popa, x_join, x_rcva, x_rcve, x_rcvp, x_rcvq, x_rcvj, x_srct, x_srcf, x_srcs, x_srcl, x_seqt, x_seql, x_enu, x_enut, x_zipl, x_zipt, x_rng1, x_rng2, x_tg1, x_tgt, x_tgl, x_var, x_put, x_ex, x_exv, x_exl, x_exl0, x_exd, x_exb, x_exi, x_dec, x_decf, x_ndec, x_ndecf, x_ty_str_str, x_ty_str_tuple, x_ty_str_int, x_ty_str_bool, x_ty_str_list, x_ty_str_dict, x_ty_str_list_tuple, x_ty_str_tuple_list, x_ty_str_str_tuple, x_ty_str_tuple_str, x_ty_str_int_bool, x_ty_str_bool_int, x_ty_str_str_int, x_ty_str_int_str, x_ty_tuple_str, x_ty_tuple_tuple, x_ty_tuple_int, x_ty_tuple_bool, x_ty_tuple_list, x_ty_tuple_dict, x_ty_tuple_list_tuple, x_ty_tuple_tuple_list, x_ty_tuple_str_tuple, x_ty_tuple_tuple_str, x_ty_tuple_int_bool, x_ty_tuple_bool_int, x_ty_tuple_str_int, x_ty_tuple_int_str, x_ty_int_str, x_ty_int_tuple, x_ty_int_int, x_ty_int_bool, x_ty_int_list, x_ty_int_dict, x_ty_int_list_tuple, x_ty_int_tuple_list, x_ty_int_str_tuple, x_ty_int_tuple_str, x_ty_int_int_bool, x_ty_int_bool_int, x_ty_int_str_int, x_ty_int_int_str, x_ty_bool_str, x_ty_bool_tuple, x_ty_bool_int, x_ty_bool_bool, x_ty_bool_list, x_ty_bool_dict, x_ty_bool_list_tuple, x_ty_bool_tuple_list, x_ty_bool_str_tuple, x_ty_bool_tuple_str, x_ty_bool_int_bool, x_ty_bool_bool_int, x_ty_bool_str_int, x_ty_bool_int_str, x_ty_list_str, x_ty_list_tuple, x_ty_list_int, x_ty_list_bool, x_ty_list_list, x_ty_list_dict, x_ty_list_list_tuple, x_ty_list_tuple_list, x_ty_list_str_tuple, x_ty_list_tuple_str, x_ty_list_int_bool, x_ty_list_bool_int, x_ty_list_str_int, x_ty_list_int_str, x_ty_dict_str, x_ty_dict_tuple, x_ty_dict_int, x_ty_dict_bool, x_ty_dict_list, x_ty_dict_dict, x_ty_dict_list_tuple, x_ty_dict_tuple_list, x_ty_dict_str_tuple, x_ty_dict_tuple_str, x_ty_dict_int_bool, x_ty_dict_bool_int, x_ty_dict_str_int, x_ty_dict_int_str, x_puto, x_puto', List.map_cons, List.map_nil, List.length_cons, List.length_nil, List.cons_append, List.nil_append, List.replicate, Nat.sub_zero, Nat.sub_self, Nat.zero_add, Nat.reduceAdd, Nat.reduceSub, List.getElem?_cons_zero, List.getElem?_cons_succ, List.set_cons_zero, List.set_cons_succ, setF, wipeF, true_and, and_true, if_true, if_false, Bool.true_eq_false, Bool.false_eq_true, ite_true, ite_false, reduceIte, not_true_eq_false, not_false_eq_true, Bool.not_true, Bool.not_false, exists_eq_left', exists_const, ne_eq]
  refine ⟨by omega, by omega, by omega, by omega, by omega, ?_⟩
  refine d_is_program (t := shH x y z) (p := .p 0 [.p 1 []]) (show 2 + 10 ≤ _ by omega) (by decide) kb fun S1 e1 => ?_
  rw [p1]
  try simp (maxSteps := 2000000) only [startF, wSs, wS, wE, wL, wO, wB, wI, x_add, x_adds, x_addl, x_addt, x_sub, x_mul, x_mult, x_mull, x_fdv, x_mod, x_pow, x_auga, x_augs, x_augm, x_eqi, x_eqs, x_eqb, x_nei, x_nes, x_neb, x_eqtt, x_eqrr, x_eqtr, x_eqrt, x_eqst, x_eqts, x_nett, x_nerr, x_netr, x_nert, x_nest, x_nets, x_lt, x_le, x_gt, x_ge, x_ins, x_isn, x_isnt, x_ixt, x_ixl, x_ixd, x_ixs, x_slt, x_sll, x_sls, x_std, x_stl, x_isin, x_isis, x_isit, x_isii, x_isib, x_lens, x_lent, x_lenf, x_lenl, x_inti, x_intb, x_abs, x_max2, x_min2, x_maxl, x_minl, x_mxd, x_tupl, x_tupt, x_lisl, x_list, x_liss, x_all, x_any, x_sum, x_repr, x_app, x_ext, x_pop, x_popa, x_join, x_rcva, x_rcve, x_rcvp, x_rcvq, x_rcvj, x_srct, x_srcf, x_srcs, x_srcl, x_seqt, x_seql, x_enu, x_enut, x_zipl, x_zipt, x_rng1, x_rng2, x_tg1, x_tgt, x_tgl, x_var, x_put, x_ex, x_exv, x_exl, x_exl0, x_exd, x_exb, x_exi, x_dec, x_decf, x_ndec, x_ndecf, x_ty_str_str, x_ty_str_tuple, x_ty_str_int, x_ty_str_bool, x_ty_str_list, x_ty_str_dict, x_ty_str_list_tuple, x_ty_str_tuple_list, x_ty_str_str_tuple, x_ty_str_tuple_str, x_ty_str_int_bool, x_ty_str_bool_int, x_ty_str_str_int, x_ty_str_int_str, x_ty_tuple_str, x_ty_tuple_tuple, x_ty_tuple_int, x_ty_tuple_bool, x_ty_tuple_list, x_ty_tuple_dict, x_ty_tuple_list_tuple, x_ty_tuple_tuple_list, x_ty_tuple_str_tuple, x_ty_tuple_tuple_str, x_ty_tuple_int_bool, x_ty_tuple_bool_int, x_ty_tuple_str_int, x_ty_tuple_int_str, x_ty_int_str, x_ty_int_tuple, x_ty_int_int, x_ty_int_bool, x_ty_int_list, x_ty_int_dict, x_ty_int_list_tuple, x_ty_int_tuple_list, x_ty_int_str_tuple, x_ty_int_tuple_str, x_ty_int_int_bool, x_ty_int_bool_int, x_ty_int_str_int, x_ty_int_int_str, x_ty_bool_str, x_ty_bool_tuple, x_ty_bool_int, x_ty_bool_bool, x_ty_bool_list, x_ty_bool_dict, x_ty_bool_list_tuple, x_ty_bool_tuple_list, x_ty_bool_str_tuple, x_ty_bool_tuple_str, x_ty_bool_int_bool, x_ty_bool_bool_int, x_ty_bool_str_int, x_ty_bool_int_str, x_ty_list_str, x_ty_list_tuple, x_ty_list_int, x_ty_list_bool, x_ty_list_list, x_ty_list_dict, x_ty_list_list_tuple, x_ty_list_tuple_list, x_ty_list_str_tuple, x_ty_list_tuple_str, x_ty_list_int_bool, x_ty_list_bool_int, x_ty_list_str_int, x_ty_list_int_str, x_ty_dict_str, x_ty_dict_tuple, x_ty_dict_int, x_ty_dict_bool, x_ty_dict_list, x_ty_dict_dict, x_ty_dict_list_tuple, x_ty_dict_tuple_list, x_ty_dict_str_tuple, x_ty_dict_tuple_str, x_ty_dict_int_bool, x_ty_dict_bool_int, x_ty_dict_str_int, x_ty_dict_int_str, x_puto, x_puto', List.map_cons, List.map_nil, List.length_cons, List.length_nil, List.cons_append, List.nil_append, List.replicate, Nat.sub_zero, Nat.sub_self, Nat.zero_add, Nat.reduceAdd, Nat.reduceSub, List.getElem?_cons_zero, List.getElem?_cons_succ, List.set_cons_zero, List.set_cons_succ, setF, wipeF, true_and, and_true, if_true, if_false, Bool.true_eq_false, Bool.false_eq_true, ite_true, ite_false, reduceIte, not_true_eq_false, not_false_eq_true, Bool.not_true, Bool.not_false, exists_eq_left', exists_const, ne_eq]
  refine ⟨by omega, by omega, by omega, ?_⟩
  refine d_hand_at (t := shH x y z) (p := .p 0 [.p 1 []]) (r := [0]) (hs := [.t [.t [.s x, .s y], .s z], .s y, .s x]) (w := y) (q := .p 1 []) (show 2 + 11 ≤ _ by omega) (by decide) (by decide) kb p1 rfl fun S2 e2 => ?_
  refine ⟨by omega, by omega, by omega, ?_⟩
  have kb4 := kindB_hf kb
  have hK : HK [.t [.t [.s x, .s y], .s z], .s y, .s x] := by
    intro h hh
    simp only [List.mem_cons, List.not_mem_nil, or_false] at hh
    rcases hh with rfl | rfl | rfl
    · simp [hf_t, hf_s hx, hf_s hy, hf_s hz, wideB, endB, hx, hy, hz]
    · exact hf_s hy
    · exact hf_s hx
  have hd : D.tup [D.tup [D.tup [D.str x, D.str y], D.str z], D.str y, D.str x] = .tup (T.ds [.t [.t [.s x, .s y], .s z], .s y, .s x]) := rfl
  rw [hd]
  try simp (maxSteps := 2000000) only [startF, wSs, wS, wE, wL, wO, wB, wI, x_add, x_adds, x_addl, x_addt, x_sub, x_mul, x_mult, x_mull, x_fdv, x_mod, x_pow, x_auga, x_augs, x_augm, x_eqi, x_eqs, x_eqb, x_nei, x_nes, x_neb, x_eqtt, x_eqrr, x_eqtr, x_eqrt, x_eqst, x_eqts, x_nett, x_nerr, x_netr, x_nert, x_nest, x_nets, x_lt, x_le, x_gt, x_ge, x_ins, x_isn, x_isnt, x_ixt, x_ixl, x_ixd, x_ixs, x_slt, x_sll, x_sls, x_std, x_stl, x_isin, x_isis, x_isit, x_isii, x_isib, x_lens, x_lent, x_lenf, x_lenl, x_inti, x_intb, x_abs, x_max2, x_min2, x_maxl, x_minl, x_mxd, x_tupl, x_tupt, x_lisl, x_list, x_liss, x_all, x_any, x_sum, x_repr, x_app, x_ext, x_pop, x_popa, x_join, x_rcva, x_rcve, x_rcvp, x_rcvq, x_rcvj, x_srct, x_srcf, x_srcs, x_srcl, x_seqt, x_seql, x_enu, x_enut, x_zipl, x_zipt, x_rng1, x_rng2, x_tg1, x_tgt, x_tgl, x_var, x_put, x_ex, x_exv, x_exl, x_exl0, x_exd, x_exb, x_exi, x_dec, x_decf, x_ndec, x_ndecf, x_ty_str_str, x_ty_str_tuple, x_ty_str_int, x_ty_str_bool, x_ty_str_list, x_ty_str_dict, x_ty_str_list_tuple, x_ty_str_tuple_list, x_ty_str_str_tuple, x_ty_str_tuple_str, x_ty_str_int_bool, x_ty_str_bool_int, x_ty_str_str_int, x_ty_str_int_str, x_ty_tuple_str, x_ty_tuple_tuple, x_ty_tuple_int, x_ty_tuple_bool, x_ty_tuple_list, x_ty_tuple_dict, x_ty_tuple_list_tuple, x_ty_tuple_tuple_list, x_ty_tuple_str_tuple, x_ty_tuple_tuple_str, x_ty_tuple_int_bool, x_ty_tuple_bool_int, x_ty_tuple_str_int, x_ty_tuple_int_str, x_ty_int_str, x_ty_int_tuple, x_ty_int_int, x_ty_int_bool, x_ty_int_list, x_ty_int_dict, x_ty_int_list_tuple, x_ty_int_tuple_list, x_ty_int_str_tuple, x_ty_int_tuple_str, x_ty_int_int_bool, x_ty_int_bool_int, x_ty_int_str_int, x_ty_int_int_str, x_ty_bool_str, x_ty_bool_tuple, x_ty_bool_int, x_ty_bool_bool, x_ty_bool_list, x_ty_bool_dict, x_ty_bool_list_tuple, x_ty_bool_tuple_list, x_ty_bool_str_tuple, x_ty_bool_tuple_str, x_ty_bool_int_bool, x_ty_bool_bool_int, x_ty_bool_str_int, x_ty_bool_int_str, x_ty_list_str, x_ty_list_tuple, x_ty_list_int, x_ty_list_bool, x_ty_list_list, x_ty_list_dict, x_ty_list_list_tuple, x_ty_list_tuple_list, x_ty_list_str_tuple, x_ty_list_tuple_str, x_ty_list_int_bool, x_ty_list_bool_int, x_ty_list_str_int, x_ty_list_int_str, x_ty_dict_str, x_ty_dict_tuple, x_ty_dict_int, x_ty_dict_bool, x_ty_dict_list, x_ty_dict_dict, x_ty_dict_list_tuple, x_ty_dict_tuple_list, x_ty_dict_str_tuple, x_ty_dict_tuple_str, x_ty_dict_int_bool, x_ty_dict_bool_int, x_ty_dict_str_int, x_ty_dict_int_str, x_puto, x_puto', List.map_cons, List.map_nil, List.length_cons, List.length_nil, List.cons_append, List.nil_append, List.replicate, Nat.sub_zero, Nat.sub_self, Nat.zero_add, Nat.reduceAdd, Nat.reduceSub, List.getElem?_cons_zero, List.getElem?_cons_succ, List.set_cons_zero, List.set_cons_succ, setF, wipeF, true_and, and_true, if_true, if_false, Bool.true_eq_false, Bool.false_eq_true, ite_true, ite_false, reduceIte, not_true_eq_false, not_false_eq_true, Bool.not_true, Bool.not_false, exists_eq_left', exists_const, ne_eq]
  refine eqD_same (.tup (T.pys_of _)) (.tup (T.pys_of _)) (shaped_hs hK) ?_
  try simp (maxSteps := 2000000) only [startF, wSs, wS, wE, wL, wO, wB, wI, x_add, x_adds, x_addl, x_addt, x_sub, x_mul, x_mult, x_mull, x_fdv, x_mod, x_pow, x_auga, x_augs, x_augm, x_eqi, x_eqs, x_eqb, x_nei, x_nes, x_neb, x_eqtt, x_eqrr, x_eqtr, x_eqrt, x_eqst, x_eqts, x_nett, x_nerr, x_netr, x_nert, x_nest, x_nets, x_lt, x_le, x_gt, x_ge, x_ins, x_isn, x_isnt, x_ixt, x_ixl, x_ixd, x_ixs, x_slt, x_sll, x_sls, x_std, x_stl, x_isin, x_isis, x_isit, x_isii, x_isib, x_lens, x_lent, x_lenf, x_lenl, x_inti, x_intb, x_abs, x_max2, x_min2, x_maxl, x_minl, x_mxd, x_tupl, x_tupt, x_lisl, x_list, x_liss, x_all, x_any, x_sum, x_repr, x_app, x_ext, x_pop, x_popa, x_join, x_rcva, x_rcve, x_rcvp, x_rcvq, x_rcvj, x_srct, x_srcf, x_srcs, x_srcl, x_seqt, x_seql, x_enu, x_enut, x_zipl, x_zipt, x_rng1, x_rng2, x_tg1, x_tgt, x_tgl, x_var, x_put, x_ex, x_exv, x_exl, x_exl0, x_exd, x_exb, x_exi, x_dec, x_decf, x_ndec, x_ndecf, x_ty_str_str, x_ty_str_tuple, x_ty_str_int, x_ty_str_bool, x_ty_str_list, x_ty_str_dict, x_ty_str_list_tuple, x_ty_str_tuple_list, x_ty_str_str_tuple, x_ty_str_tuple_str, x_ty_str_int_bool, x_ty_str_bool_int, x_ty_str_str_int, x_ty_str_int_str, x_ty_tuple_str, x_ty_tuple_tuple, x_ty_tuple_int, x_ty_tuple_bool, x_ty_tuple_list, x_ty_tuple_dict, x_ty_tuple_list_tuple, x_ty_tuple_tuple_list, x_ty_tuple_str_tuple, x_ty_tuple_tuple_str, x_ty_tuple_int_bool, x_ty_tuple_bool_int, x_ty_tuple_str_int, x_ty_tuple_int_str, x_ty_int_str, x_ty_int_tuple, x_ty_int_int, x_ty_int_bool, x_ty_int_list, x_ty_int_dict, x_ty_int_list_tuple, x_ty_int_tuple_list, x_ty_int_str_tuple, x_ty_int_tuple_str, x_ty_int_int_bool, x_ty_int_bool_int, x_ty_int_str_int, x_ty_int_int_str, x_ty_bool_str, x_ty_bool_tuple, x_ty_bool_int, x_ty_bool_bool, x_ty_bool_list, x_ty_bool_dict, x_ty_bool_list_tuple, x_ty_bool_tuple_list, x_ty_bool_str_tuple, x_ty_bool_tuple_str, x_ty_bool_int_bool, x_ty_bool_bool_int, x_ty_bool_str_int, x_ty_bool_int_str, x_ty_list_str, x_ty_list_tuple, x_ty_list_int, x_ty_list_bool, x_ty_list_list, x_ty_list_dict, x_ty_list_list_tuple, x_ty_list_tuple_list, x_ty_list_str_tuple, x_ty_list_tuple_str, x_ty_list_int_bool, x_ty_list_bool_int, x_ty_list_str_int, x_ty_list_int_str, x_ty_dict_str, x_ty_dict_tuple, x_ty_dict_int, x_ty_dict_bool, x_ty_dict_list, x_ty_dict_dict, x_ty_dict_list_tuple, x_ty_dict_tuple_list, x_ty_dict_str_tuple, x_ty_dict_tuple_str, x_ty_dict_int_bool, x_ty_dict_bool_int, x_ty_dict_str_int, x_ty_dict_int_str, x_puto, x_puto', List.map_cons, List.map_nil, List.length_cons, List.length_nil, List.cons_append, List.nil_append, List.replicate, Nat.sub_zero, Nat.sub_self, Nat.zero_add, Nat.reduceAdd, Nat.reduceSub, List.getElem?_cons_zero, List.getElem?_cons_succ, List.set_cons_zero, List.set_cons_succ, setF, wipeF, true_and, and_true, if_true, if_false, Bool.true_eq_false, Bool.false_eq_true, ite_true, ite_false, reduceIte, not_true_eq_false, not_false_eq_true, Bool.not_true, Bool.not_false, exists_eq_left', exists_const, ne_eq]
  refine ⟨by omega, by omega, ?_⟩
  refine d_is_program (t := shH x y z) (p := .p 0 [.p 2 []]) (show 2 + 10 ≤ _ by omega) (by decide) kb fun S3 e3 => ?_
  rw [p2]
  try simp (maxSteps := 2000000) only [startF, wSs, wS, wE, wL, wO, wB, wI, x_add, x_adds, x_addl, x_addt, x_sub, x_mul, x_mult, x_mull, x_fdv, x_mod, x_pow, x_auga, x_augs, x_augm, x_eqi, x_eqs, x_eqb, x_nei, x_nes, x_neb, x_eqtt, x_eqrr, x_eqtr, x_eqrt, x_eqst, x_eqts, x_nett, x_nerr, x_netr, x_nert, x_nest, x_nets, x_lt, x_le, x_gt, x_ge, x_ins, x_isn, x_isnt, x_ixt, x_ixl, x_ixd, x_ixs, x_slt, x_sll, x_sls, x_std, x_stl, x_isin, x_isis, x_isit, x_isii, x_isib, x_lens, x_lent, x_lenf, x_lenl, x_inti, x_intb, x_abs, x_max2, x_min2, x_maxl, x_minl, x_mxd, x_tupl, x_tupt, x_lisl, x_list, x_liss, x_all, x_any, x_sum, x_repr, x_app, x_ext, x_pop, x_popa, x_join, x_rcva, x_rcve, x_rcvp, x_rcvq, x_rcvj, x_srct, x_srcf, x_srcs, x_srcl, x_seqt, x_seql, x_enu, x_enut, x_zipl, x_zipt, x_rng1, x_rng2, x_tg1, x_tgt, x_tgl, x_var, x_put, x_ex, x_exv, x_exl, x_exl0, x_exd, x_exb, x_exi, x_dec, x_decf, x_ndec, x_ndecf, x_ty_str_str, x_ty_str_tuple, x_ty_str_int, x_ty_str_bool, x_ty_str_list, x_ty_str_dict, x_ty_str_list_tuple, x_ty_str_tuple_list, x_ty_str_str_tuple, x_ty_str_tuple_str, x_ty_str_int_bool, x_ty_str_bool_int, x_ty_str_str_int, x_ty_str_int_str, x_ty_tuple_str, x_ty_tuple_tuple, x_ty_tuple_int, x_ty_tuple_bool, x_ty_tuple_list, x_ty_tuple_dict, x_ty_tuple_list_tuple, x_ty_tuple_tuple_list, x_ty_tuple_str_tuple, x_ty_tuple_tuple_str, x_ty_tuple_int_bool, x_ty_tuple_bool_int, x_ty_tuple_str_int, x_ty_tuple_int_str, x_ty_int_str, x_ty_int_tuple, x_ty_int_int, x_ty_int_bool, x_ty_int_list, x_ty_int_dict, x_ty_int_list_tuple, x_ty_int_tuple_list, x_ty_int_str_tuple, x_ty_int_tuple_str, x_ty_int_int_bool, x_ty_int_bool_int, x_ty_int_str_int, x_ty_int_int_str, x_ty_bool_str, x_ty_bool_tuple, x_ty_bool_int, x_ty_bool_bool, x_ty_bool_list, x_ty_bool_dict, x_ty_bool_list_tuple, x_ty_bool_tuple_list, x_ty_bool_str_tuple, x_ty_bool_tuple_str, x_ty_bool_int_bool, x_ty_bool_bool_int, x_ty_bool_str_int, x_ty_bool_int_str, x_ty_list_str, x_ty_list_tuple, x_ty_list_int, x_ty_list_bool, x_ty_list_list, x_ty_list_dict, x_ty_list_list_tuple, x_ty_list_tuple_list, x_ty_list_str_tuple, x_ty_list_tuple_str, x_ty_list_int_bool, x_ty_list_bool_int, x_ty_list_str_int, x_ty_list_int_str, x_ty_dict_str, x_ty_dict_tuple, x_ty_dict_int, x_ty_dict_bool, x_ty_dict_list, x_ty_dict_dict, x_ty_dict_list_tuple, x_ty_dict_tuple_list, x_ty_dict_str_tuple, x_ty_dict_tuple_str, x_ty_dict_int_bool, x_ty_dict_bool_int, x_ty_dict_str_int, x_ty_dict_int_str, x_puto, x_puto', List.map_cons, List.map_nil, List.length_cons, List.length_nil, List.cons_append, List.nil_append, List.replicate, Nat.sub_zero, Nat.sub_self, Nat.zero_add, Nat.reduceAdd, Nat.reduceSub, List.getElem?_cons_zero, List.getElem?_cons_succ, List.set_cons_zero, List.set_cons_succ, setF, wipeF, true_and, and_true, if_true, if_false, Bool.true_eq_false, Bool.false_eq_true, ite_true, ite_false, reduceIte, not_true_eq_false, not_false_eq_true, Bool.not_true, Bool.not_false, exists_eq_left', exists_const, ne_eq]
  refine ⟨by omega, ?_⟩
  refine d_is_program (t := shH x y z) (p := .p 1 []) (show 1 + 10 ≤ _ by omega) (by decide) kb fun S4 e4 => ?_
  rw [p3]
  try simp (maxSteps := 2000000) only [startF, wSs, wS, wE, wL, wO, wB, wI, x_add, x_adds, x_addl, x_addt, x_sub, x_mul, x_mult, x_mull, x_fdv, x_mod, x_pow, x_auga, x_augs, x_augm, x_eqi, x_eqs, x_eqb, x_nei, x_nes, x_neb, x_eqtt, x_eqrr, x_eqtr, x_eqrt, x_eqst, x_eqts, x_nett, x_nerr, x_netr, x_nert, x_nest, x_nets, x_lt, x_le, x_gt, x_ge, x_ins, x_isn, x_isnt, x_ixt, x_ixl, x_ixd, x_ixs, x_slt, x_sll, x_sls, x_std, x_stl, x_isin, x_isis, x_isit, x_isii, x_isib, x_lens, x_lent, x_lenf, x_lenl, x_inti, x_intb, x_abs, x_max2, x_min2, x_maxl, x_minl, x_mxd, x_tupl, x_tupt, x_lisl, x_list, x_liss, x_all, x_any, x_sum, x_repr, x_app, x_ext, x_pop, x_popa, x_join, x_rcva, x_rcve, x_rcvp, x_rcvq, x_rcvj, x_srct, x_srcf, x_srcs, x_srcl, x_seqt, x_seql, x_enu, x_enut, x_zipl, x_zipt, x_rng1, x_rng2, x_tg1, x_tgt, x_tgl, x_var, x_put, x_ex, x_exv, x_exl, x_exl0, x_exd, x_exb, x_exi, x_dec, x_decf, x_ndec, x_ndecf, x_ty_str_str, x_ty_str_tuple, x_ty_str_int, x_ty_str_bool, x_ty_str_list, x_ty_str_dict, x_ty_str_list_tuple, x_ty_str_tuple_list, x_ty_str_str_tuple, x_ty_str_tuple_str, x_ty_str_int_bool, x_ty_str_bool_int, x_ty_str_str_int, x_ty_str_int_str, x_ty_tuple_str, x_ty_tuple_tuple, x_ty_tuple_int, x_ty_tuple_bool, x_ty_tuple_list, x_ty_tuple_dict, x_ty_tuple_list_tuple, x_ty_tuple_tuple_list, x_ty_tuple_str_tuple, x_ty_tuple_tuple_str, x_ty_tuple_int_bool, x_ty_tuple_bool_int, x_ty_tuple_str_int, x_ty_tuple_int_str, x_ty_int_str, x_ty_int_tuple, x_ty_int_int, x_ty_int_bool, x_ty_int_list, x_ty_int_dict, x_ty_int_list_tuple, x_ty_int_tuple_list, x_ty_int_str_tuple, x_ty_int_tuple_str, x_ty_int_int_bool, x_ty_int_bool_int, x_ty_int_str_int, x_ty_int_int_str, x_ty_bool_str, x_ty_bool_tuple, x_ty_bool_int, x_ty_bool_bool, x_ty_bool_list, x_ty_bool_dict, x_ty_bool_list_tuple, x_ty_bool_tuple_list, x_ty_bool_str_tuple, x_ty_bool_tuple_str, x_ty_bool_int_bool, x_ty_bool_bool_int, x_ty_bool_str_int, x_ty_bool_int_str, x_ty_list_str, x_ty_list_tuple, x_ty_list_int, x_ty_list_bool, x_ty_list_list, x_ty_list_dict, x_ty_list_list_tuple, x_ty_list_tuple_list, x_ty_list_str_tuple, x_ty_list_tuple_str, x_ty_list_int_bool, x_ty_list_bool_int, x_ty_list_str_int, x_ty_list_int_str, x_ty_dict_str, x_ty_dict_tuple, x_ty_dict_int, x_ty_dict_bool, x_ty_dict_list, x_ty_dict_dict, x_ty_dict_list_tuple, x_ty_dict_tuple_list, x_ty_dict_str_tuple, x_ty_dict_tuple_str, x_ty_dict_int_bool, x_ty_dict_bool_int, x_ty_dict_str_int, x_ty_dict_int_str, x_puto, x_puto', List.map_cons, List.map_nil, List.length_cons, List.length_nil, List.cons_append, List.nil_append, List.replicate, Nat.sub_zero, Nat.sub_self, Nat.zero_add, Nat.reduceAdd, Nat.reduceSub, List.getElem?_cons_zero, List.getElem?_cons_succ, List.set_cons_zero, List.set_cons_succ, setF, wipeF, true_and, and_true, if_true, if_false, Bool.true_eq_false, Bool.false_eq_true, ite_true, ite_false, reduceIte, not_true_eq_false, not_false_eq_true, Bool.not_true, Bool.not_false, exists_eq_left', exists_const, ne_eq]
  refine ⟨by omega, by omega, by omega, by omega, by omega, by omega, by omega, ?_⟩
  have kc : kindB (shH2 x y) = true := by
    unfold kindB shH2
    simp [hf_t, hf_s hx, hf_s hy, wideB, endB, T.nm, T.nms, hx, hy]
  have p4 : prB (shH2 x y) (.p 0 [.p 2 [.p 1 []]]) = true := by
    show tmB [.t [.t [.t [.s x, .s y], .s y], .s y], .s x] y _ = true
    simp [tm_p, at?, T.pa, eN, tmBs_cons, tmBs_nil]
  refine d_is_program (t := shH2 x y) (p := .p 0 [.p 2 [.p 1 []]]) (show 3 + 10 ≤ _ by omega) (by decide) kc fun S5 e5 => ?_
  rw [p4]
  try simp (maxSteps := 2000000) only [startF, wSs, wS, wE, wL, wO, wB, wI, x_add, x_adds, x_addl, x_addt, x_sub, x_mul, x_mult, x_mull, x_fdv, x_mod, x_pow, x_auga, x_augs, x_augm, x_eqi, x_eqs, x_eqb, x_nei, x_nes, x_neb, x_eqtt, x_eqrr, x_eqtr, x_eqrt, x_eqst, x_eqts, x_nett, x_nerr, x_netr, x_nert, x_nest, x_nets, x_lt, x_le, x_gt, x_ge, x_ins, x_isn, x_isnt, x_ixt, x_ixl, x_ixd, x_ixs, x_slt, x_sll, x_sls, x_std, x_stl, x_isin, x_isis, x_isit, x_isii, x_isib, x_lens, x_lent, x_lenf, x_lenl, x_inti, x_intb, x_abs, x_max2, x_min2, x_maxl, x_minl, x_mxd, x_tupl, x_tupt, x_lisl, x_list, x_liss, x_all, x_any, x_sum, x_repr, x_app, x_ext, x_pop, x_popa, x_join, x_rcva, x_rcve, x_rcvp, x_rcvq, x_rcvj, x_srct, x_srcf, x_srcs, x_srcl, x_seqt, x_seql, x_enu, x_enut, x_zipl, x_zipt, x_rng1, x_rng2, x_tg1, x_tgt, x_tgl, x_var, x_put, x_ex, x_exv, x_exl, x_exl0, x_exd, x_exb, x_exi, x_dec, x_decf, x_ndec, x_ndecf, x_ty_str_str, x_ty_str_tuple, x_ty_str_int, x_ty_str_bool, x_ty_str_list, x_ty_str_dict, x_ty_str_list_tuple, x_ty_str_tuple_list, x_ty_str_str_tuple, x_ty_str_tuple_str, x_ty_str_int_bool, x_ty_str_bool_int, x_ty_str_str_int, x_ty_str_int_str, x_ty_tuple_str, x_ty_tuple_tuple, x_ty_tuple_int, x_ty_tuple_bool, x_ty_tuple_list, x_ty_tuple_dict, x_ty_tuple_list_tuple, x_ty_tuple_tuple_list, x_ty_tuple_str_tuple, x_ty_tuple_tuple_str, x_ty_tuple_int_bool, x_ty_tuple_bool_int, x_ty_tuple_str_int, x_ty_tuple_int_str, x_ty_int_str, x_ty_int_tuple, x_ty_int_int, x_ty_int_bool, x_ty_int_list, x_ty_int_dict, x_ty_int_list_tuple, x_ty_int_tuple_list, x_ty_int_str_tuple, x_ty_int_tuple_str, x_ty_int_int_bool, x_ty_int_bool_int, x_ty_int_str_int, x_ty_int_int_str, x_ty_bool_str, x_ty_bool_tuple, x_ty_bool_int, x_ty_bool_bool, x_ty_bool_list, x_ty_bool_dict, x_ty_bool_list_tuple, x_ty_bool_tuple_list, x_ty_bool_str_tuple, x_ty_bool_tuple_str, x_ty_bool_int_bool, x_ty_bool_bool_int, x_ty_bool_str_int, x_ty_bool_int_str, x_ty_list_str, x_ty_list_tuple, x_ty_list_int, x_ty_list_bool, x_ty_list_list, x_ty_list_dict, x_ty_list_list_tuple, x_ty_list_tuple_list, x_ty_list_str_tuple, x_ty_list_tuple_str, x_ty_list_int_bool, x_ty_list_bool_int, x_ty_list_str_int, x_ty_list_int_str, x_ty_dict_str, x_ty_dict_tuple, x_ty_dict_int, x_ty_dict_bool, x_ty_dict_list, x_ty_dict_dict, x_ty_dict_list_tuple, x_ty_dict_tuple_list, x_ty_dict_str_tuple, x_ty_dict_tuple_str, x_ty_dict_int_bool, x_ty_dict_bool_int, x_ty_dict_str_int, x_ty_dict_int_str, x_puto, x_puto', List.map_cons, List.map_nil, List.length_cons, List.length_nil, List.cons_append, List.nil_append, List.replicate, Nat.sub_zero, Nat.sub_self, Nat.zero_add, Nat.reduceAdd, Nat.reduceSub, List.getElem?_cons_zero, List.getElem?_cons_succ, List.set_cons_zero, List.set_cons_succ, setF, wipeF, true_and, and_true, if_true, if_false, Bool.true_eq_false, Bool.false_eq_true, ite_true, ite_false, reduceIte, not_true_eq_false, not_false_eq_true, Bool.not_true, Bool.not_false, exists_eq_left', exists_const, ne_eq]
  refine d_paths (t := shH2 x y) (p := .p 0 [.p 2 [.p 1 []]]) (show 3 + 11 ≤ _ by omega) (by decide) kc p4 fun u S6 e6 nu gu => ?_
  try simp (maxSteps := 2000000) only [startF, wSs, wS, wE, wL, wO, wB, wI, x_add, x_adds, x_addl, x_addt, x_sub, x_mul, x_mult, x_mull, x_fdv, x_mod, x_pow, x_auga, x_augs, x_augm, x_eqi, x_eqs, x_eqb, x_nei, x_nes, x_neb, x_eqtt, x_eqrr, x_eqtr, x_eqrt, x_eqst, x_eqts, x_nett, x_nerr, x_netr, x_nert, x_nest, x_nets, x_lt, x_le, x_gt, x_ge, x_ins, x_isn, x_isnt, x_ixt, x_ixl, x_ixd, x_ixs, x_slt, x_sll, x_sls, x_std, x_stl, x_isin, x_isis, x_isit, x_isii, x_isib, x_lens, x_lent, x_lenf, x_lenl, x_inti, x_intb, x_abs, x_max2, x_min2, x_maxl, x_minl, x_mxd, x_tupl, x_tupt, x_lisl, x_list, x_liss, x_all, x_any, x_sum, x_repr, x_app, x_ext, x_pop, x_popa, x_join, x_rcva, x_rcve, x_rcvp, x_rcvq, x_rcvj, x_srct, x_srcf, x_srcs, x_srcl, x_seqt, x_seql, x_enu, x_enut, x_zipl, x_zipt, x_rng1, x_rng2, x_tg1, x_tgt, x_tgl, x_var, x_put, x_ex, x_exv, x_exl, x_exl0, x_exd, x_exb, x_exi, x_dec, x_decf, x_ndec, x_ndecf, x_ty_str_str, x_ty_str_tuple, x_ty_str_int, x_ty_str_bool, x_ty_str_list, x_ty_str_dict, x_ty_str_list_tuple, x_ty_str_tuple_list, x_ty_str_str_tuple, x_ty_str_tuple_str, x_ty_str_int_bool, x_ty_str_bool_int, x_ty_str_str_int, x_ty_str_int_str, x_ty_tuple_str, x_ty_tuple_tuple, x_ty_tuple_int, x_ty_tuple_bool, x_ty_tuple_list, x_ty_tuple_dict, x_ty_tuple_list_tuple, x_ty_tuple_tuple_list, x_ty_tuple_str_tuple, x_ty_tuple_tuple_str, x_ty_tuple_int_bool, x_ty_tuple_bool_int, x_ty_tuple_str_int, x_ty_tuple_int_str, x_ty_int_str, x_ty_int_tuple, x_ty_int_int, x_ty_int_bool, x_ty_int_list, x_ty_int_dict, x_ty_int_list_tuple, x_ty_int_tuple_list, x_ty_int_str_tuple, x_ty_int_tuple_str, x_ty_int_int_bool, x_ty_int_bool_int, x_ty_int_str_int, x_ty_int_int_str, x_ty_bool_str, x_ty_bool_tuple, x_ty_bool_int, x_ty_bool_bool, x_ty_bool_list, x_ty_bool_dict, x_ty_bool_list_tuple, x_ty_bool_tuple_list, x_ty_bool_str_tuple, x_ty_bool_tuple_str, x_ty_bool_int_bool, x_ty_bool_bool_int, x_ty_bool_str_int, x_ty_bool_int_str, x_ty_list_str, x_ty_list_tuple, x_ty_list_int, x_ty_list_bool, x_ty_list_list, x_ty_list_dict, x_ty_list_list_tuple, x_ty_list_tuple_list, x_ty_list_str_tuple, x_ty_list_tuple_str, x_ty_list_int_bool, x_ty_list_bool_int, x_ty_list_str_int, x_ty_list_int_str, x_ty_dict_str, x_ty_dict_tuple, x_ty_dict_int, x_ty_dict_bool, x_ty_dict_list, x_ty_dict_dict, x_ty_dict_list_tuple, x_ty_dict_tuple_list, x_ty_dict_str_tuple, x_ty_dict_tuple_str, x_ty_dict_int_bool, x_ty_dict_bool_int, x_ty_dict_str_int, x_ty_dict_int_str, x_puto, x_puto', List.map_cons, List.map_nil, List.length_cons, List.length_nil, List.cons_append, List.nil_append, List.replicate, Nat.sub_zero, Nat.sub_self, Nat.zero_add, Nat.reduceAdd, Nat.reduceSub, List.getElem?_cons_zero, List.getElem?_cons_succ, List.set_cons_zero, List.set_cons_succ, setF, wipeF, true_and, and_true, if_true, if_false, Bool.true_eq_false, Bool.false_eq_true, ite_true, ite_false, reduceIte, not_true_eq_false, not_false_eq_true, Bool.not_true, Bool.not_false, exists_eq_left', exists_const, ne_eq]
  refine ⟨by omega, by omega, by omega, by omega, fun v hv => ?_⟩
  have f6 := ((((e1.trans e2).trans e3).trans e4).trans e5).trans e6
  refine eqD_same (d := .list ((P.pth (.p 0 [.p 2 [.p 1 []]])).map rwP)) (.lst ((Ext.new hv).k _ _ gu) (rows_py _)) (.lst (xs := (P.pth (.p 0 [.p 2 [.p 1 []]])).map rwD) put_same (rows_py _)) (shaped_rows _) ?_
  try simp (maxSteps := 2000000) only [startF, wSs, wS, wE, wL, wO, wB, wI, x_add, x_adds, x_addl, x_addt, x_sub, x_mul, x_mult, x_mull, x_fdv, x_mod, x_pow, x_auga, x_augs, x_augm, x_eqi, x_eqs, x_eqb, x_nei, x_nes, x_neb, x_eqtt, x_eqrr, x_eqtr, x_eqrt, x_eqst, x_eqts, x_nett, x_nerr, x_netr, x_nert, x_nest, x_nets, x_lt, x_le, x_gt, x_ge, x_ins, x_isn, x_isnt, x_ixt, x_ixl, x_ixd, x_ixs, x_slt, x_sll, x_sls, x_std, x_stl, x_isin, x_isis, x_isit, x_isii, x_isib, x_lens, x_lent, x_lenf, x_lenl, x_inti, x_intb, x_abs, x_max2, x_min2, x_maxl, x_minl, x_mxd, x_tupl, x_tupt, x_lisl, x_list, x_liss, x_all, x_any, x_sum, x_repr, x_app, x_ext, x_pop, x_popa, x_join, x_rcva, x_rcve, x_rcvp, x_rcvq, x_rcvj, x_srct, x_srcf, x_srcs, x_srcl, x_seqt, x_seql, x_enu, x_enut, x_zipl, x_zipt, x_rng1, x_rng2, x_tg1, x_tgt, x_tgl, x_var, x_put, x_ex, x_exv, x_exl, x_exl0, x_exd, x_exb, x_exi, x_dec, x_decf, x_ndec, x_ndecf, x_ty_str_str, x_ty_str_tuple, x_ty_str_int, x_ty_str_bool, x_ty_str_list, x_ty_str_dict, x_ty_str_list_tuple, x_ty_str_tuple_list, x_ty_str_str_tuple, x_ty_str_tuple_str, x_ty_str_int_bool, x_ty_str_bool_int, x_ty_str_str_int, x_ty_str_int_str, x_ty_tuple_str, x_ty_tuple_tuple, x_ty_tuple_int, x_ty_tuple_bool, x_ty_tuple_list, x_ty_tuple_dict, x_ty_tuple_list_tuple, x_ty_tuple_tuple_list, x_ty_tuple_str_tuple, x_ty_tuple_tuple_str, x_ty_tuple_int_bool, x_ty_tuple_bool_int, x_ty_tuple_str_int, x_ty_tuple_int_str, x_ty_int_str, x_ty_int_tuple, x_ty_int_int, x_ty_int_bool, x_ty_int_list, x_ty_int_dict, x_ty_int_list_tuple, x_ty_int_tuple_list, x_ty_int_str_tuple, x_ty_int_tuple_str, x_ty_int_int_bool, x_ty_int_bool_int, x_ty_int_str_int, x_ty_int_int_str, x_ty_bool_str, x_ty_bool_tuple, x_ty_bool_int, x_ty_bool_bool, x_ty_bool_list, x_ty_bool_dict, x_ty_bool_list_tuple, x_ty_bool_tuple_list, x_ty_bool_str_tuple, x_ty_bool_tuple_str, x_ty_bool_int_bool, x_ty_bool_bool_int, x_ty_bool_str_int, x_ty_bool_int_str, x_ty_list_str, x_ty_list_tuple, x_ty_list_int, x_ty_list_bool, x_ty_list_list, x_ty_list_dict, x_ty_list_list_tuple, x_ty_list_tuple_list, x_ty_list_str_tuple, x_ty_list_tuple_str, x_ty_list_int_bool, x_ty_list_bool_int, x_ty_list_str_int, x_ty_list_int_str, x_ty_dict_str, x_ty_dict_tuple, x_ty_dict_int, x_ty_dict_bool, x_ty_dict_list, x_ty_dict_dict, x_ty_dict_list_tuple, x_ty_dict_tuple_list, x_ty_dict_str_tuple, x_ty_dict_tuple_str, x_ty_dict_int_bool, x_ty_dict_bool_int, x_ty_dict_str_int, x_ty_dict_int_str, x_puto, x_puto', List.map_cons, List.map_nil, List.length_cons, List.length_nil, List.cons_append, List.nil_append, List.replicate, Nat.sub_zero, Nat.sub_self, Nat.zero_add, Nat.reduceAdd, Nat.reduceSub, List.getElem?_cons_zero, List.getElem?_cons_succ, List.set_cons_zero, List.set_cons_succ, setF, wipeF, true_and, and_true, if_true, if_false, Bool.true_eq_false, Bool.false_eq_true, ite_true, ite_false, reduceIte, not_true_eq_false, not_false_eq_true, Bool.not_true, Bool.not_false, exists_eq_left', exists_const, ne_eq]
  refine d_depth_of (t := shH2 x y) (p := .p 0 [.p 2 [.p 1 []]]) (show 3 + 11 ≤ _ by omega) (by decide) kc p4 fun S7 e7 => ?_
  try simp (maxSteps := 2000000) only [startF, wSs, wS, wE, wL, wO, wB, wI, x_add, x_adds, x_addl, x_addt, x_sub, x_mul, x_mult, x_mull, x_fdv, x_mod, x_pow, x_auga, x_augs, x_augm, x_eqi, x_eqs, x_eqb, x_nei, x_nes, x_neb, x_eqtt, x_eqrr, x_eqtr, x_eqrt, x_eqst, x_eqts, x_nett, x_nerr, x_netr, x_nert, x_nest, x_nets, x_lt, x_le, x_gt, x_ge, x_ins, x_isn, x_isnt, x_ixt, x_ixl, x_ixd, x_ixs, x_slt, x_sll, x_sls, x_std, x_stl, x_isin, x_isis, x_isit, x_isii, x_isib, x_lens, x_lent, x_lenf, x_lenl, x_inti, x_intb, x_abs, x_max2, x_min2, x_maxl, x_minl, x_mxd, x_tupl, x_tupt, x_lisl, x_list, x_liss, x_all, x_any, x_sum, x_repr, x_app, x_ext, x_pop, x_popa, x_join, x_rcva, x_rcve, x_rcvp, x_rcvq, x_rcvj, x_srct, x_srcf, x_srcs, x_srcl, x_seqt, x_seql, x_enu, x_enut, x_zipl, x_zipt, x_rng1, x_rng2, x_tg1, x_tgt, x_tgl, x_var, x_put, x_ex, x_exv, x_exl, x_exl0, x_exd, x_exb, x_exi, x_dec, x_decf, x_ndec, x_ndecf, x_ty_str_str, x_ty_str_tuple, x_ty_str_int, x_ty_str_bool, x_ty_str_list, x_ty_str_dict, x_ty_str_list_tuple, x_ty_str_tuple_list, x_ty_str_str_tuple, x_ty_str_tuple_str, x_ty_str_int_bool, x_ty_str_bool_int, x_ty_str_str_int, x_ty_str_int_str, x_ty_tuple_str, x_ty_tuple_tuple, x_ty_tuple_int, x_ty_tuple_bool, x_ty_tuple_list, x_ty_tuple_dict, x_ty_tuple_list_tuple, x_ty_tuple_tuple_list, x_ty_tuple_str_tuple, x_ty_tuple_tuple_str, x_ty_tuple_int_bool, x_ty_tuple_bool_int, x_ty_tuple_str_int, x_ty_tuple_int_str, x_ty_int_str, x_ty_int_tuple, x_ty_int_int, x_ty_int_bool, x_ty_int_list, x_ty_int_dict, x_ty_int_list_tuple, x_ty_int_tuple_list, x_ty_int_str_tuple, x_ty_int_tuple_str, x_ty_int_int_bool, x_ty_int_bool_int, x_ty_int_str_int, x_ty_int_int_str, x_ty_bool_str, x_ty_bool_tuple, x_ty_bool_int, x_ty_bool_bool, x_ty_bool_list, x_ty_bool_dict, x_ty_bool_list_tuple, x_ty_bool_tuple_list, x_ty_bool_str_tuple, x_ty_bool_tuple_str, x_ty_bool_int_bool, x_ty_bool_bool_int, x_ty_bool_str_int, x_ty_bool_int_str, x_ty_list_str, x_ty_list_tuple, x_ty_list_int, x_ty_list_bool, x_ty_list_list, x_ty_list_dict, x_ty_list_list_tuple, x_ty_list_tuple_list, x_ty_list_str_tuple, x_ty_list_tuple_str, x_ty_list_int_bool, x_ty_list_bool_int, x_ty_list_str_int, x_ty_list_int_str, x_ty_dict_str, x_ty_dict_tuple, x_ty_dict_int, x_ty_dict_bool, x_ty_dict_list, x_ty_dict_dict, x_ty_dict_list_tuple, x_ty_dict_tuple_list, x_ty_dict_str_tuple, x_ty_dict_tuple_str, x_ty_dict_int_bool, x_ty_dict_bool_int, x_ty_dict_str_int, x_ty_dict_int_str, x_puto, x_puto', List.map_cons, List.map_nil, List.length_cons, List.length_nil, List.cons_append, List.nil_append, List.replicate, Nat.sub_zero, Nat.sub_self, Nat.zero_add, Nat.reduceAdd, Nat.reduceSub, List.getElem?_cons_zero, List.getElem?_cons_succ, List.set_cons_zero, List.set_cons_succ, setF, wipeF, true_and, and_true, if_true, if_false, Bool.true_eq_false, Bool.false_eq_true, ite_true, ite_false, reduceIte, not_true_eq_false, not_false_eq_true, Bool.not_true, Bool.not_false, exists_eq_left', exists_const, ne_eq]
  exact hQ S7 ((f6.put (f6.none hv)).trans e7)
def shC (x y : Str) : T := .t [.s x, .s y, .s x]
def shC2 (x y : Str) : T := .t [.t [.s x, .s y], .t [.s y, .s x, .s y], .s x, .s y]
def pC : P := .p 1 [.p 1 [.p 0 [.p 2 []], .p 2 []], .p 2 []]
theorem d_choices {k : Nat} {x y : Str} {S : Sto} {Q : KE} {E : XE} (hk : 100 ≤ k) (hx : nameB x = true) (hy : nameB y = true) (hQ : ∀ S', Ext S S' → Q (.bl true) S') : wC tab k "_law_choices_right" [.str x, .str y] S Q E := by
  refine wd (fd := f__law_choices_right) (by omega) rfl rfl ?_
  unfold f__law_choices_right
  have sz := sizeLine_eq
  have kb : kindB (shC x y) = true := by
    unfold kindB shC
    simp [hf_t, hf_s hx, hf_s hy, wideB, endB, T.nm, T.nms, hx, hy]
  have kc : kindB (shC2 x y) = true := by
    unfold kindB shC2
    simp [hf_t, hf_s hx, hf_s hy, wideB, endB, T.nm, T.nms, hx, hy]
  have kx : kindB (.s x) = true := by
    unfold kindB
    simp [hf_s hx, T.nm]
  have p1 : prB (shC x y) (.p 0 []) = true := by
    show tmB [.s x, .s y] x _ = true
    simp [tm_p, at?, T.pa, eN, tmBs_nil]
  have p2 : prB (shC x y) (.p 1 []) = decide (x = y) := by
    show tmB [.s x, .s y] x _ = _
    simp [tm_p, at?, T.pa, eN, tmBs_nil]
    exact decide_eq_decide.mpr ⟨Eq.symm, Eq.symm⟩
  have p3 : prB (shC x y) (.p 2 []) = false := by
    show tmB [.s x, .s y] x _ = _
    simp [tm_p, at?]
  have p4 : prB (shC2 x y) (.p 0 [.p 2 []]) = true := by
    show tmB [.t [.s x, .s y], .t [.s y, .s x, .s y], .s x] y _ = true
    simp [tm_p, at?, T.pa, eN, tmBs_cons, tmBs_nil]
  have p5 : prB (shC2 x y) (.p 1 [.p 0 [.p 2 []], .p 2 []]) = true := by
    show tmB [.t [.s x, .s y], .t [.s y, .s x, .s y], .s x] y _ = true
    simp [tm_p, at?, T.pa, eN, tmBs_cons, tmBs_nil]
  have p6 : prB (shC2 x y) pC = true := by
    unfold pC
    show tmB [.t [.s x, .s y], .t [.s y, .s x, .s y], .s x] y _ = true
    simp [tm_p, at?, T.pa, eN, tmBs_cons, tmBs_nil]
  have p7 : prB (.s x) (.p 0 []) = false := by
    show tmB [] x _ = _
    simp [tm_p, at?]
  try simp (maxSteps := 2000000) only [startF, wSs, wS, wE, wL, wO, wB, wI, x_add, x_adds, x_addl, x_addt, x_sub, x_mul, x_mult, x_mull, x_fdv, x_mod, x_pow, x_auga, x_augs, x_augm, x_eqi, x_eqs, x_eqb, x_nei, x_nes, x_neb, x_eqtt, x_eqrr, x_eqtr, x_eqrt, x_eqst, x_eqts, x_nett, x_nerr, x_netr, x_nert, x_nest, x_nets, x_lt, x_le, x_gt, x_ge, x_ins, x_isn, x_isnt, x_ixt, x_ixl, x_ixd, x_ixs, x_slt, x_sll, x_sls, x_std, x_stl, x_isin, x_isis, x_isit, x_isii, x_isib, x_lens, x_lent, x_lenf, x_lenl, x_inti, x_intb, x_abs, x_max2, x_min2, x_maxl, x_minl, x_mxd, x_tupl, x_tupt, x_lisl, x_list, x_liss, x_all, x_any, x_sum, x_repr, x_app, x_ext, x_pop, x_popa, x_join, x_rcva, x_rcve, x_rcvp, x_rcvq, x_rcvj, x_srct, x_srcf, x_srcs, x_srcl, x_seqt, x_seql, x_enu, x_enut, x_zipl, x_zipt, x_rng1, x_rng2, x_tg1, x_tgt, x_tgl, x_var, x_put, x_ex, x_exv, x_exl, x_exl0, x_exd, x_exb, x_exi, x_dec, x_decf, x_ndec, x_ndecf, x_ty_str_str, x_ty_str_tuple, x_ty_str_int, x_ty_str_bool, x_ty_str_list, x_ty_str_dict, x_ty_str_list_tuple, x_ty_str_tuple_list, x_ty_str_str_tuple, x_ty_str_tuple_str, x_ty_str_int_bool, x_ty_str_bool_int, x_ty_str_str_int, x_ty_str_int_str, x_ty_tuple_str, x_ty_tuple_tuple, x_ty_tuple_int, x_ty_tuple_bool, x_ty_tuple_list, x_ty_tuple_dict, x_ty_tuple_list_tuple, x_ty_tuple_tuple_list, x_ty_tuple_str_tuple, x_ty_tuple_tuple_str, x_ty_tuple_int_bool, x_ty_tuple_bool_int, x_ty_tuple_str_int, x_ty_tuple_int_str, x_ty_int_str, x_ty_int_tuple, x_ty_int_int, x_ty_int_bool, x_ty_int_list, x_ty_int_dict, x_ty_int_list_tuple, x_ty_int_tuple_list, x_ty_int_str_tuple, x_ty_int_tuple_str, x_ty_int_int_bool, x_ty_int_bool_int, x_ty_int_str_int, x_ty_int_int_str, x_ty_bool_str, x_ty_bool_tuple, x_ty_bool_int, x_ty_bool_bool, x_ty_bool_list, x_ty_bool_dict, x_ty_bool_list_tuple, x_ty_bool_tuple_list, x_ty_bool_str_tuple, x_ty_bool_tuple_str, x_ty_bool_int_bool, x_ty_bool_bool_int, x_ty_bool_str_int, x_ty_bool_int_str, x_ty_list_str, x_ty_list_tuple, x_ty_list_int, x_ty_list_bool, x_ty_list_list, x_ty_list_dict, x_ty_list_list_tuple, x_ty_list_tuple_list, x_ty_list_str_tuple, x_ty_list_tuple_str, x_ty_list_int_bool, x_ty_list_bool_int, x_ty_list_str_int, x_ty_list_int_str, x_ty_dict_str, x_ty_dict_tuple, x_ty_dict_int, x_ty_dict_bool, x_ty_dict_list, x_ty_dict_dict, x_ty_dict_list_tuple, x_ty_dict_tuple_list, x_ty_dict_str_tuple, x_ty_dict_tuple_str, x_ty_dict_int_bool, x_ty_dict_bool_int, x_ty_dict_str_int, x_ty_dict_int_str, x_puto, x_puto', List.map_cons, List.map_nil, List.length_cons, List.length_nil, List.cons_append, List.nil_append, List.replicate, Nat.sub_zero, Nat.sub_self, Nat.zero_add, Nat.reduceAdd, Nat.reduceSub, List.getElem?_cons_zero, List.getElem?_cons_succ, List.set_cons_zero, List.set_cons_succ, setF, wipeF, true_and, and_true, if_true, if_false, Bool.true_eq_false, Bool.false_eq_true, ite_true, ite_false, reduceIte, not_true_eq_false, not_false_eq_true, Bool.not_true, Bool.not_false, exists_eq_left', exists_const, ne_eq]
  refine ⟨by omega, by omega, ?_⟩
  refine d_is_program (t := shC x y) (p := .p 0 []) (show 1 + 10 ≤ _ by omega) (by decide) kb fun S1 e1 => ?_
  rw [p1]
  try simp (maxSteps := 2000000) only [startF, wSs, wS, wE, wL, wO, wB, wI, x_add, x_adds, x_addl, x_addt, x_sub, x_mul, x_mult, x_mull, x_fdv, x_mod, x_pow, x_auga, x_augs, x_augm, x_eqi, x_eqs, x_eqb, x_nei, x_nes, x_neb, x_eqtt, x_eqrr, x_eqtr, x_eqrt, x_eqst, x_eqts, x_nett, x_nerr, x_netr, x_nert, x_nest, x_nets, x_lt, x_le, x_gt, x_ge, x_ins, x_isn, x_isnt, x_ixt, x_ixl, x_ixd, x_ixs, x_slt, x_sll, x_sls, x_std, x_stl, x_isin, x_isis, x_isit, x_isii, x_isib, x_lens, x_lent, x_lenf, x_lenl, x_inti, x_intb, x_abs, x_max2, x_min2, x_maxl, x_minl, x_mxd, x_tupl, x_tupt, x_lisl, x_list, x_liss, x_all, x_any, x_sum, x_repr, x_app, x_ext, x_pop, x_popa, x_join, x_rcva, x_rcve, x_rcvp, x_rcvq, x_rcvj, x_srct, x_srcf, x_srcs, x_srcl, x_seqt, x_seql, x_enu, x_enut, x_zipl, x_zipt, x_rng1, x_rng2, x_tg1, x_tgt, x_tgl, x_var, x_put, x_ex, x_exv, x_exl, x_exl0, x_exd, x_exb, x_exi, x_dec, x_decf, x_ndec, x_ndecf, x_ty_str_str, x_ty_str_tuple, x_ty_str_int, x_ty_str_bool, x_ty_str_list, x_ty_str_dict, x_ty_str_list_tuple, x_ty_str_tuple_list, x_ty_str_str_tuple, x_ty_str_tuple_str, x_ty_str_int_bool, x_ty_str_bool_int, x_ty_str_str_int, x_ty_str_int_str, x_ty_tuple_str, x_ty_tuple_tuple, x_ty_tuple_int, x_ty_tuple_bool, x_ty_tuple_list, x_ty_tuple_dict, x_ty_tuple_list_tuple, x_ty_tuple_tuple_list, x_ty_tuple_str_tuple, x_ty_tuple_tuple_str, x_ty_tuple_int_bool, x_ty_tuple_bool_int, x_ty_tuple_str_int, x_ty_tuple_int_str, x_ty_int_str, x_ty_int_tuple, x_ty_int_int, x_ty_int_bool, x_ty_int_list, x_ty_int_dict, x_ty_int_list_tuple, x_ty_int_tuple_list, x_ty_int_str_tuple, x_ty_int_tuple_str, x_ty_int_int_bool, x_ty_int_bool_int, x_ty_int_str_int, x_ty_int_int_str, x_ty_bool_str, x_ty_bool_tuple, x_ty_bool_int, x_ty_bool_bool, x_ty_bool_list, x_ty_bool_dict, x_ty_bool_list_tuple, x_ty_bool_tuple_list, x_ty_bool_str_tuple, x_ty_bool_tuple_str, x_ty_bool_int_bool, x_ty_bool_bool_int, x_ty_bool_str_int, x_ty_bool_int_str, x_ty_list_str, x_ty_list_tuple, x_ty_list_int, x_ty_list_bool, x_ty_list_list, x_ty_list_dict, x_ty_list_list_tuple, x_ty_list_tuple_list, x_ty_list_str_tuple, x_ty_list_tuple_str, x_ty_list_int_bool, x_ty_list_bool_int, x_ty_list_str_int, x_ty_list_int_str, x_ty_dict_str, x_ty_dict_tuple, x_ty_dict_int, x_ty_dict_bool, x_ty_dict_list, x_ty_dict_dict, x_ty_dict_list_tuple, x_ty_dict_tuple_list, x_ty_dict_str_tuple, x_ty_dict_tuple_str, x_ty_dict_int_bool, x_ty_dict_bool_int, x_ty_dict_str_int, x_ty_dict_int_str, x_puto, x_puto', List.map_cons, List.map_nil, List.length_cons, List.length_nil, List.cons_append, List.nil_append, List.replicate, Nat.sub_zero, Nat.sub_self, Nat.zero_add, Nat.reduceAdd, Nat.reduceSub, List.getElem?_cons_zero, List.getElem?_cons_succ, List.set_cons_zero, List.set_cons_succ, setF, wipeF, true_and, and_true, if_true, if_false, Bool.true_eq_false, Bool.false_eq_true, ite_true, ite_false, reduceIte, not_true_eq_false, not_false_eq_true, Bool.not_true, Bool.not_false, exists_eq_left', exists_const, ne_eq]
  refine ⟨by omega, by omega, ?_⟩
  refine d_is_program (t := shC x y) (p := .p 1 []) (show 1 + 10 ≤ _ by omega) (by decide) kb fun S2 e2 => ?_
  rw [p2]
  try simp (maxSteps := 2000000) only [startF, wSs, wS, wE, wL, wO, wB, wI, x_add, x_adds, x_addl, x_addt, x_sub, x_mul, x_mult, x_mull, x_fdv, x_mod, x_pow, x_auga, x_augs, x_augm, x_eqi, x_eqs, x_eqb, x_nei, x_nes, x_neb, x_eqtt, x_eqrr, x_eqtr, x_eqrt, x_eqst, x_eqts, x_nett, x_nerr, x_netr, x_nert, x_nest, x_nets, x_lt, x_le, x_gt, x_ge, x_ins, x_isn, x_isnt, x_ixt, x_ixl, x_ixd, x_ixs, x_slt, x_sll, x_sls, x_std, x_stl, x_isin, x_isis, x_isit, x_isii, x_isib, x_lens, x_lent, x_lenf, x_lenl, x_inti, x_intb, x_abs, x_max2, x_min2, x_maxl, x_minl, x_mxd, x_tupl, x_tupt, x_lisl, x_list, x_liss, x_all, x_any, x_sum, x_repr, x_app, x_ext, x_pop, x_popa, x_join, x_rcva, x_rcve, x_rcvp, x_rcvq, x_rcvj, x_srct, x_srcf, x_srcs, x_srcl, x_seqt, x_seql, x_enu, x_enut, x_zipl, x_zipt, x_rng1, x_rng2, x_tg1, x_tgt, x_tgl, x_var, x_put, x_ex, x_exv, x_exl, x_exl0, x_exd, x_exb, x_exi, x_dec, x_decf, x_ndec, x_ndecf, x_ty_str_str, x_ty_str_tuple, x_ty_str_int, x_ty_str_bool, x_ty_str_list, x_ty_str_dict, x_ty_str_list_tuple, x_ty_str_tuple_list, x_ty_str_str_tuple, x_ty_str_tuple_str, x_ty_str_int_bool, x_ty_str_bool_int, x_ty_str_str_int, x_ty_str_int_str, x_ty_tuple_str, x_ty_tuple_tuple, x_ty_tuple_int, x_ty_tuple_bool, x_ty_tuple_list, x_ty_tuple_dict, x_ty_tuple_list_tuple, x_ty_tuple_tuple_list, x_ty_tuple_str_tuple, x_ty_tuple_tuple_str, x_ty_tuple_int_bool, x_ty_tuple_bool_int, x_ty_tuple_str_int, x_ty_tuple_int_str, x_ty_int_str, x_ty_int_tuple, x_ty_int_int, x_ty_int_bool, x_ty_int_list, x_ty_int_dict, x_ty_int_list_tuple, x_ty_int_tuple_list, x_ty_int_str_tuple, x_ty_int_tuple_str, x_ty_int_int_bool, x_ty_int_bool_int, x_ty_int_str_int, x_ty_int_int_str, x_ty_bool_str, x_ty_bool_tuple, x_ty_bool_int, x_ty_bool_bool, x_ty_bool_list, x_ty_bool_dict, x_ty_bool_list_tuple, x_ty_bool_tuple_list, x_ty_bool_str_tuple, x_ty_bool_tuple_str, x_ty_bool_int_bool, x_ty_bool_bool_int, x_ty_bool_str_int, x_ty_bool_int_str, x_ty_list_str, x_ty_list_tuple, x_ty_list_int, x_ty_list_bool, x_ty_list_list, x_ty_list_dict, x_ty_list_list_tuple, x_ty_list_tuple_list, x_ty_list_str_tuple, x_ty_list_tuple_str, x_ty_list_int_bool, x_ty_list_bool_int, x_ty_list_str_int, x_ty_list_int_str, x_ty_dict_str, x_ty_dict_tuple, x_ty_dict_int, x_ty_dict_bool, x_ty_dict_list, x_ty_dict_dict, x_ty_dict_list_tuple, x_ty_dict_tuple_list, x_ty_dict_str_tuple, x_ty_dict_tuple_str, x_ty_dict_int_bool, x_ty_dict_bool_int, x_ty_dict_str_int, x_ty_dict_int_str, x_puto, x_puto', List.map_cons, List.map_nil, List.length_cons, List.length_nil, List.cons_append, List.nil_append, List.replicate, Nat.sub_zero, Nat.sub_self, Nat.zero_add, Nat.reduceAdd, Nat.reduceSub, List.getElem?_cons_zero, List.getElem?_cons_succ, List.set_cons_zero, List.set_cons_succ, setF, wipeF, true_and, and_true, if_true, if_false, Bool.true_eq_false, Bool.false_eq_true, ite_true, ite_false, reduceIte, not_true_eq_false, not_false_eq_true, Bool.not_true, Bool.not_false, exists_eq_left', exists_const, ne_eq]
  refine ⟨by omega, by omega, ?_⟩
  refine d_is_program (t := shC x y) (p := .p 2 []) (show 1 + 10 ≤ _ by omega) (by decide) kb fun S3 e3 => ?_
  rw [p3]
  try simp (maxSteps := 2000000) only [startF, wSs, wS, wE, wL, wO, wB, wI, x_add, x_adds, x_addl, x_addt, x_sub, x_mul, x_mult, x_mull, x_fdv, x_mod, x_pow, x_auga, x_augs, x_augm, x_eqi, x_eqs, x_eqb, x_nei, x_nes, x_neb, x_eqtt, x_eqrr, x_eqtr, x_eqrt, x_eqst, x_eqts, x_nett, x_nerr, x_netr, x_nert, x_nest, x_nets, x_lt, x_le, x_gt, x_ge, x_ins, x_isn, x_isnt, x_ixt, x_ixl, x_ixd, x_ixs, x_slt, x_sll, x_sls, x_std, x_stl, x_isin, x_isis, x_isit, x_isii, x_isib, x_lens, x_lent, x_lenf, x_lenl, x_inti, x_intb, x_abs, x_max2, x_min2, x_maxl, x_minl, x_mxd, x_tupl, x_tupt, x_lisl, x_list, x_liss, x_all, x_any, x_sum, x_repr, x_app, x_ext, x_pop, x_popa, x_join, x_rcva, x_rcve, x_rcvp, x_rcvq, x_rcvj, x_srct, x_srcf, x_srcs, x_srcl, x_seqt, x_seql, x_enu, x_enut, x_zipl, x_zipt, x_rng1, x_rng2, x_tg1, x_tgt, x_tgl, x_var, x_put, x_ex, x_exv, x_exl, x_exl0, x_exd, x_exb, x_exi, x_dec, x_decf, x_ndec, x_ndecf, x_ty_str_str, x_ty_str_tuple, x_ty_str_int, x_ty_str_bool, x_ty_str_list, x_ty_str_dict, x_ty_str_list_tuple, x_ty_str_tuple_list, x_ty_str_str_tuple, x_ty_str_tuple_str, x_ty_str_int_bool, x_ty_str_bool_int, x_ty_str_str_int, x_ty_str_int_str, x_ty_tuple_str, x_ty_tuple_tuple, x_ty_tuple_int, x_ty_tuple_bool, x_ty_tuple_list, x_ty_tuple_dict, x_ty_tuple_list_tuple, x_ty_tuple_tuple_list, x_ty_tuple_str_tuple, x_ty_tuple_tuple_str, x_ty_tuple_int_bool, x_ty_tuple_bool_int, x_ty_tuple_str_int, x_ty_tuple_int_str, x_ty_int_str, x_ty_int_tuple, x_ty_int_int, x_ty_int_bool, x_ty_int_list, x_ty_int_dict, x_ty_int_list_tuple, x_ty_int_tuple_list, x_ty_int_str_tuple, x_ty_int_tuple_str, x_ty_int_int_bool, x_ty_int_bool_int, x_ty_int_str_int, x_ty_int_int_str, x_ty_bool_str, x_ty_bool_tuple, x_ty_bool_int, x_ty_bool_bool, x_ty_bool_list, x_ty_bool_dict, x_ty_bool_list_tuple, x_ty_bool_tuple_list, x_ty_bool_str_tuple, x_ty_bool_tuple_str, x_ty_bool_int_bool, x_ty_bool_bool_int, x_ty_bool_str_int, x_ty_bool_int_str, x_ty_list_str, x_ty_list_tuple, x_ty_list_int, x_ty_list_bool, x_ty_list_list, x_ty_list_dict, x_ty_list_list_tuple, x_ty_list_tuple_list, x_ty_list_str_tuple, x_ty_list_tuple_str, x_ty_list_int_bool, x_ty_list_bool_int, x_ty_list_str_int, x_ty_list_int_str, x_ty_dict_str, x_ty_dict_tuple, x_ty_dict_int, x_ty_dict_bool, x_ty_dict_list, x_ty_dict_dict, x_ty_dict_list_tuple, x_ty_dict_tuple_list, x_ty_dict_str_tuple, x_ty_dict_tuple_str, x_ty_dict_int_bool, x_ty_dict_bool_int, x_ty_dict_str_int, x_ty_dict_int_str, x_puto, x_puto', List.map_cons, List.map_nil, List.length_cons, List.length_nil, List.cons_append, List.nil_append, List.replicate, Nat.sub_zero, Nat.sub_self, Nat.zero_add, Nat.reduceAdd, Nat.reduceSub, List.getElem?_cons_zero, List.getElem?_cons_succ, List.set_cons_zero, List.set_cons_succ, setF, wipeF, true_and, and_true, if_true, if_false, Bool.true_eq_false, Bool.false_eq_true, ite_true, ite_false, reduceIte, not_true_eq_false, not_false_eq_true, Bool.not_true, Bool.not_false, exists_eq_left', exists_const, ne_eq]
  refine ⟨by omega, by omega, by omega, by omega, by omega, ?_⟩
  refine d_is_program (t := shC2 x y) (p := .p 0 [.p 2 []]) (show 2 + 10 ≤ _ by omega) (by decide) kc fun S4 e4 => ?_
  rw [p4]
  try simp (maxSteps := 2000000) only [startF, wSs, wS, wE, wL, wO, wB, wI, x_add, x_adds, x_addl, x_addt, x_sub, x_mul, x_mult, x_mull, x_fdv, x_mod, x_pow, x_auga, x_augs, x_augm, x_eqi, x_eqs, x_eqb, x_nei, x_nes, x_neb, x_eqtt, x_eqrr, x_eqtr, x_eqrt, x_eqst, x_eqts, x_nett, x_nerr, x_netr, x_nert, x_nest, x_nets, x_lt, x_le, x_gt, x_ge, x_ins, x_isn, x_isnt, x_ixt, x_ixl, x_ixd, x_ixs, x_slt, x_sll, x_sls, x_std, x_stl, x_isin, x_isis, x_isit, x_isii, x_isib, x_lens, x_lent, x_lenf, x_lenl, x_inti, x_intb, x_abs, x_max2, x_min2, x_maxl, x_minl, x_mxd, x_tupl, x_tupt, x_lisl, x_list, x_liss, x_all, x_any, x_sum, x_repr, x_app, x_ext, x_pop, x_popa, x_join, x_rcva, x_rcve, x_rcvp, x_rcvq, x_rcvj, x_srct, x_srcf, x_srcs, x_srcl, x_seqt, x_seql, x_enu, x_enut, x_zipl, x_zipt, x_rng1, x_rng2, x_tg1, x_tgt, x_tgl, x_var, x_put, x_ex, x_exv, x_exl, x_exl0, x_exd, x_exb, x_exi, x_dec, x_decf, x_ndec, x_ndecf, x_ty_str_str, x_ty_str_tuple, x_ty_str_int, x_ty_str_bool, x_ty_str_list, x_ty_str_dict, x_ty_str_list_tuple, x_ty_str_tuple_list, x_ty_str_str_tuple, x_ty_str_tuple_str, x_ty_str_int_bool, x_ty_str_bool_int, x_ty_str_str_int, x_ty_str_int_str, x_ty_tuple_str, x_ty_tuple_tuple, x_ty_tuple_int, x_ty_tuple_bool, x_ty_tuple_list, x_ty_tuple_dict, x_ty_tuple_list_tuple, x_ty_tuple_tuple_list, x_ty_tuple_str_tuple, x_ty_tuple_tuple_str, x_ty_tuple_int_bool, x_ty_tuple_bool_int, x_ty_tuple_str_int, x_ty_tuple_int_str, x_ty_int_str, x_ty_int_tuple, x_ty_int_int, x_ty_int_bool, x_ty_int_list, x_ty_int_dict, x_ty_int_list_tuple, x_ty_int_tuple_list, x_ty_int_str_tuple, x_ty_int_tuple_str, x_ty_int_int_bool, x_ty_int_bool_int, x_ty_int_str_int, x_ty_int_int_str, x_ty_bool_str, x_ty_bool_tuple, x_ty_bool_int, x_ty_bool_bool, x_ty_bool_list, x_ty_bool_dict, x_ty_bool_list_tuple, x_ty_bool_tuple_list, x_ty_bool_str_tuple, x_ty_bool_tuple_str, x_ty_bool_int_bool, x_ty_bool_bool_int, x_ty_bool_str_int, x_ty_bool_int_str, x_ty_list_str, x_ty_list_tuple, x_ty_list_int, x_ty_list_bool, x_ty_list_list, x_ty_list_dict, x_ty_list_list_tuple, x_ty_list_tuple_list, x_ty_list_str_tuple, x_ty_list_tuple_str, x_ty_list_int_bool, x_ty_list_bool_int, x_ty_list_str_int, x_ty_list_int_str, x_ty_dict_str, x_ty_dict_tuple, x_ty_dict_int, x_ty_dict_bool, x_ty_dict_list, x_ty_dict_dict, x_ty_dict_list_tuple, x_ty_dict_tuple_list, x_ty_dict_str_tuple, x_ty_dict_tuple_str, x_ty_dict_int_bool, x_ty_dict_bool_int, x_ty_dict_str_int, x_ty_dict_int_str, x_puto, x_puto', List.map_cons, List.map_nil, List.length_cons, List.length_nil, List.cons_append, List.nil_append, List.replicate, Nat.sub_zero, Nat.sub_self, Nat.zero_add, Nat.reduceAdd, Nat.reduceSub, List.getElem?_cons_zero, List.getElem?_cons_succ, List.set_cons_zero, List.set_cons_succ, setF, wipeF, true_and, and_true, if_true, if_false, Bool.true_eq_false, Bool.false_eq_true, ite_true, ite_false, reduceIte, not_true_eq_false, not_false_eq_true, Bool.not_true, Bool.not_false, exists_eq_left', exists_const, ne_eq]
  refine ⟨by omega, by omega, by omega, by omega, ?_⟩
  refine d_is_program (t := shC2 x y) (p := .p 1 [.p 0 [.p 2 []], .p 2 []]) (show 3 + 10 ≤ _ by omega) (by decide) kc fun S5 e5 => ?_
  rw [p5]
  try simp (maxSteps := 2000000) only [startF, wSs, wS, wE, wL, wO, wB, wI, x_add, x_adds, x_addl, x_addt, x_sub, x_mul, x_mult, x_mull, x_fdv, x_mod, x_pow, x_auga, x_augs, x_augm, x_eqi, x_eqs, x_eqb, x_nei, x_nes, x_neb, x_eqtt, x_eqrr, x_eqtr, x_eqrt, x_eqst, x_eqts, x_nett, x_nerr, x_netr, x_nert, x_nest, x_nets, x_lt, x_le, x_gt, x_ge, x_ins, x_isn, x_isnt, x_ixt, x_ixl, x_ixd, x_ixs, x_slt, x_sll, x_sls, x_std, x_stl, x_isin, x_isis, x_isit, x_isii, x_isib, x_lens, x_lent, x_lenf, x_lenl, x_inti, x_intb, x_abs, x_max2, x_min2, x_maxl, x_minl, x_mxd, x_tupl, x_tupt, x_lisl, x_list, x_liss, x_all, x_any, x_sum, x_repr, x_app, x_ext, x_pop, x_popa, x_join, x_rcva, x_rcve, x_rcvp, x_rcvq, x_rcvj, x_srct, x_srcf, x_srcs, x_srcl, x_seqt, x_seql, x_enu, x_enut, x_zipl, x_zipt, x_rng1, x_rng2, x_tg1, x_tgt, x_tgl, x_var, x_put, x_ex, x_exv, x_exl, x_exl0, x_exd, x_exb, x_exi, x_dec, x_decf, x_ndec, x_ndecf, x_ty_str_str, x_ty_str_tuple, x_ty_str_int, x_ty_str_bool, x_ty_str_list, x_ty_str_dict, x_ty_str_list_tuple, x_ty_str_tuple_list, x_ty_str_str_tuple, x_ty_str_tuple_str, x_ty_str_int_bool, x_ty_str_bool_int, x_ty_str_str_int, x_ty_str_int_str, x_ty_tuple_str, x_ty_tuple_tuple, x_ty_tuple_int, x_ty_tuple_bool, x_ty_tuple_list, x_ty_tuple_dict, x_ty_tuple_list_tuple, x_ty_tuple_tuple_list, x_ty_tuple_str_tuple, x_ty_tuple_tuple_str, x_ty_tuple_int_bool, x_ty_tuple_bool_int, x_ty_tuple_str_int, x_ty_tuple_int_str, x_ty_int_str, x_ty_int_tuple, x_ty_int_int, x_ty_int_bool, x_ty_int_list, x_ty_int_dict, x_ty_int_list_tuple, x_ty_int_tuple_list, x_ty_int_str_tuple, x_ty_int_tuple_str, x_ty_int_int_bool, x_ty_int_bool_int, x_ty_int_str_int, x_ty_int_int_str, x_ty_bool_str, x_ty_bool_tuple, x_ty_bool_int, x_ty_bool_bool, x_ty_bool_list, x_ty_bool_dict, x_ty_bool_list_tuple, x_ty_bool_tuple_list, x_ty_bool_str_tuple, x_ty_bool_tuple_str, x_ty_bool_int_bool, x_ty_bool_bool_int, x_ty_bool_str_int, x_ty_bool_int_str, x_ty_list_str, x_ty_list_tuple, x_ty_list_int, x_ty_list_bool, x_ty_list_list, x_ty_list_dict, x_ty_list_list_tuple, x_ty_list_tuple_list, x_ty_list_str_tuple, x_ty_list_tuple_str, x_ty_list_int_bool, x_ty_list_bool_int, x_ty_list_str_int, x_ty_list_int_str, x_ty_dict_str, x_ty_dict_tuple, x_ty_dict_int, x_ty_dict_bool, x_ty_dict_list, x_ty_dict_dict, x_ty_dict_list_tuple, x_ty_dict_tuple_list, x_ty_dict_str_tuple, x_ty_dict_tuple_str, x_ty_dict_int_bool, x_ty_dict_bool_int, x_ty_dict_str_int, x_ty_dict_int_str, x_puto, x_puto', List.map_cons, List.map_nil, List.length_cons, List.length_nil, List.cons_append, List.nil_append, List.replicate, Nat.sub_zero, Nat.sub_self, Nat.zero_add, Nat.reduceAdd, Nat.reduceSub, List.getElem?_cons_zero, List.getElem?_cons_succ, List.set_cons_zero, List.set_cons_succ, setF, wipeF, true_and, and_true, if_true, if_false, Bool.true_eq_false, Bool.false_eq_true, ite_true, ite_false, reduceIte, not_true_eq_false, not_false_eq_true, Bool.not_true, Bool.not_false, exists_eq_left', exists_const, ne_eq]
  refine ⟨by omega, by omega, by omega, by omega, by omega, by omega, ?_⟩
  refine d_size_of (t := shC2 x y) (p := pC) (show 4 + 11 ≤ _ by omega) (by decide) kc p6 fun S6 e6 => ?_
  refine d_depth_of (t := shC2 x y) (p := pC) (show 4 + 11 ≤ _ by omega) (by decide) kc p6 fun S7 e7 => ?_
  refine d_paths (t := shC2 x y) (p := pC) (show 4 + 11 ≤ _ by omega) (by decide) kc p6 fun u S8 e8 nu gu => ?_
  try simp (maxSteps := 2000000) only [startF, wSs, wS, wE, wL, wO, wB, wI, x_add, x_adds, x_addl, x_addt, x_sub, x_mul, x_mult, x_mull, x_fdv, x_mod, x_pow, x_auga, x_augs, x_augm, x_eqi, x_eqs, x_eqb, x_nei, x_nes, x_neb, x_eqtt, x_eqrr, x_eqtr, x_eqrt, x_eqst, x_eqts, x_nett, x_nerr, x_netr, x_nert, x_nest, x_nets, x_lt, x_le, x_gt, x_ge, x_ins, x_isn, x_isnt, x_ixt, x_ixl, x_ixd, x_ixs, x_slt, x_sll, x_sls, x_std, x_stl, x_isin, x_isis, x_isit, x_isii, x_isib, x_lens, x_lent, x_lenf, x_lenl, x_inti, x_intb, x_abs, x_max2, x_min2, x_maxl, x_minl, x_mxd, x_tupl, x_tupt, x_lisl, x_list, x_liss, x_all, x_any, x_sum, x_repr, x_app, x_ext, x_pop, x_popa, x_join, x_rcva, x_rcve, x_rcvp, x_rcvq, x_rcvj, x_srct, x_srcf, x_srcs, x_srcl, x_seqt, x_seql, x_enu, x_enut, x_zipl, x_zipt, x_rng1, x_rng2, x_tg1, x_tgt, x_tgl, x_var, x_put, x_ex, x_exv, x_exl, x_exl0, x_exd, x_exb, x_exi, x_dec, x_decf, x_ndec, x_ndecf, x_ty_str_str, x_ty_str_tuple, x_ty_str_int, x_ty_str_bool, x_ty_str_list, x_ty_str_dict, x_ty_str_list_tuple, x_ty_str_tuple_list, x_ty_str_str_tuple, x_ty_str_tuple_str, x_ty_str_int_bool, x_ty_str_bool_int, x_ty_str_str_int, x_ty_str_int_str, x_ty_tuple_str, x_ty_tuple_tuple, x_ty_tuple_int, x_ty_tuple_bool, x_ty_tuple_list, x_ty_tuple_dict, x_ty_tuple_list_tuple, x_ty_tuple_tuple_list, x_ty_tuple_str_tuple, x_ty_tuple_tuple_str, x_ty_tuple_int_bool, x_ty_tuple_bool_int, x_ty_tuple_str_int, x_ty_tuple_int_str, x_ty_int_str, x_ty_int_tuple, x_ty_int_int, x_ty_int_bool, x_ty_int_list, x_ty_int_dict, x_ty_int_list_tuple, x_ty_int_tuple_list, x_ty_int_str_tuple, x_ty_int_tuple_str, x_ty_int_int_bool, x_ty_int_bool_int, x_ty_int_str_int, x_ty_int_int_str, x_ty_bool_str, x_ty_bool_tuple, x_ty_bool_int, x_ty_bool_bool, x_ty_bool_list, x_ty_bool_dict, x_ty_bool_list_tuple, x_ty_bool_tuple_list, x_ty_bool_str_tuple, x_ty_bool_tuple_str, x_ty_bool_int_bool, x_ty_bool_bool_int, x_ty_bool_str_int, x_ty_bool_int_str, x_ty_list_str, x_ty_list_tuple, x_ty_list_int, x_ty_list_bool, x_ty_list_list, x_ty_list_dict, x_ty_list_list_tuple, x_ty_list_tuple_list, x_ty_list_str_tuple, x_ty_list_tuple_str, x_ty_list_int_bool, x_ty_list_bool_int, x_ty_list_str_int, x_ty_list_int_str, x_ty_dict_str, x_ty_dict_tuple, x_ty_dict_int, x_ty_dict_bool, x_ty_dict_list, x_ty_dict_dict, x_ty_dict_list_tuple, x_ty_dict_tuple_list, x_ty_dict_str_tuple, x_ty_dict_tuple_str, x_ty_dict_int_bool, x_ty_dict_bool_int, x_ty_dict_str_int, x_ty_dict_int_str, x_puto, x_puto', List.map_cons, List.map_nil, List.length_cons, List.length_nil, List.cons_append, List.nil_append, List.replicate, Nat.sub_zero, Nat.sub_self, Nat.zero_add, Nat.reduceAdd, Nat.reduceSub, List.getElem?_cons_zero, List.getElem?_cons_succ, List.set_cons_zero, List.set_cons_succ, setF, wipeF, true_and, and_true, if_true, if_false, Bool.true_eq_false, Bool.false_eq_true, ite_true, ite_false, reduceIte, not_true_eq_false, not_false_eq_true, Bool.not_true, Bool.not_false, exists_eq_left', exists_const, ne_eq, gu]
  refine ⟨by omega, fun p hp => ⟨by omega, fun q hq => ?_⟩⟩
  have ev : O.lst [D.int ((pC.sz : Nat) : Int), D.int ((pC.dp : Nat) : Int), D.int (((pC.pth.map rwD).length : Nat) : Int)] = .lst [.int 6, .int 4, .int 6] := rfl
  rw [ev] at hq ⊢
  have pq : ¬ p = q := fun e => by rw [← e, put_same] at hq; cases hq
  refine eqD_same (d := .list [.int 6, .int 4, .int 6]) (.lst ((put_ne pq).trans put_same) (.cons (.int _) (.cons (.int _) (.cons (.int _) .nil)))) (.lst put_same (.cons (.int _) (.cons (.int _) (.cons (.int _) .nil)))) (PySem.W.ke_shaped_ints [6, 4, 6]) ?_
  try simp (maxSteps := 2000000) only [startF, wSs, wS, wE, wL, wO, wB, wI, x_add, x_adds, x_addl, x_addt, x_sub, x_mul, x_mult, x_mull, x_fdv, x_mod, x_pow, x_auga, x_augs, x_augm, x_eqi, x_eqs, x_eqb, x_nei, x_nes, x_neb, x_eqtt, x_eqrr, x_eqtr, x_eqrt, x_eqst, x_eqts, x_nett, x_nerr, x_netr, x_nert, x_nest, x_nets, x_lt, x_le, x_gt, x_ge, x_ins, x_isn, x_isnt, x_ixt, x_ixl, x_ixd, x_ixs, x_slt, x_sll, x_sls, x_std, x_stl, x_isin, x_isis, x_isit, x_isii, x_isib, x_lens, x_lent, x_lenf, x_lenl, x_inti, x_intb, x_abs, x_max2, x_min2, x_maxl, x_minl, x_mxd, x_tupl, x_tupt, x_lisl, x_list, x_liss, x_all, x_any, x_sum, x_repr, x_app, x_ext, x_pop, x_popa, x_join, x_rcva, x_rcve, x_rcvp, x_rcvq, x_rcvj, x_srct, x_srcf, x_srcs, x_srcl, x_seqt, x_seql, x_enu, x_enut, x_zipl, x_zipt, x_rng1, x_rng2, x_tg1, x_tgt, x_tgl, x_var, x_put, x_ex, x_exv, x_exl, x_exl0, x_exd, x_exb, x_exi, x_dec, x_decf, x_ndec, x_ndecf, x_ty_str_str, x_ty_str_tuple, x_ty_str_int, x_ty_str_bool, x_ty_str_list, x_ty_str_dict, x_ty_str_list_tuple, x_ty_str_tuple_list, x_ty_str_str_tuple, x_ty_str_tuple_str, x_ty_str_int_bool, x_ty_str_bool_int, x_ty_str_str_int, x_ty_str_int_str, x_ty_tuple_str, x_ty_tuple_tuple, x_ty_tuple_int, x_ty_tuple_bool, x_ty_tuple_list, x_ty_tuple_dict, x_ty_tuple_list_tuple, x_ty_tuple_tuple_list, x_ty_tuple_str_tuple, x_ty_tuple_tuple_str, x_ty_tuple_int_bool, x_ty_tuple_bool_int, x_ty_tuple_str_int, x_ty_tuple_int_str, x_ty_int_str, x_ty_int_tuple, x_ty_int_int, x_ty_int_bool, x_ty_int_list, x_ty_int_dict, x_ty_int_list_tuple, x_ty_int_tuple_list, x_ty_int_str_tuple, x_ty_int_tuple_str, x_ty_int_int_bool, x_ty_int_bool_int, x_ty_int_str_int, x_ty_int_int_str, x_ty_bool_str, x_ty_bool_tuple, x_ty_bool_int, x_ty_bool_bool, x_ty_bool_list, x_ty_bool_dict, x_ty_bool_list_tuple, x_ty_bool_tuple_list, x_ty_bool_str_tuple, x_ty_bool_tuple_str, x_ty_bool_int_bool, x_ty_bool_bool_int, x_ty_bool_str_int, x_ty_bool_int_str, x_ty_list_str, x_ty_list_tuple, x_ty_list_int, x_ty_list_bool, x_ty_list_list, x_ty_list_dict, x_ty_list_list_tuple, x_ty_list_tuple_list, x_ty_list_str_tuple, x_ty_list_tuple_str, x_ty_list_int_bool, x_ty_list_bool_int, x_ty_list_str_int, x_ty_list_int_str, x_ty_dict_str, x_ty_dict_tuple, x_ty_dict_int, x_ty_dict_bool, x_ty_dict_list, x_ty_dict_dict, x_ty_dict_list_tuple, x_ty_dict_tuple_list, x_ty_dict_str_tuple, x_ty_dict_tuple_str, x_ty_dict_int_bool, x_ty_dict_bool_int, x_ty_dict_str_int, x_ty_dict_int_str, x_puto, x_puto', List.map_cons, List.map_nil, List.length_cons, List.length_nil, List.cons_append, List.nil_append, List.replicate, Nat.sub_zero, Nat.sub_self, Nat.zero_add, Nat.reduceAdd, Nat.reduceSub, List.getElem?_cons_zero, List.getElem?_cons_succ, List.set_cons_zero, List.set_cons_succ, setF, wipeF, true_and, and_true, if_true, if_false, Bool.true_eq_false, Bool.false_eq_true, ite_true, ite_false, reduceIte, not_true_eq_false, not_false_eq_true, Bool.not_true, Bool.not_false, exists_eq_left', exists_const, ne_eq]
  refine ⟨by omega, ?_⟩
  refine d_is_program (t := .s x) (p := .p 0 []) (show 1 + 10 ≤ _ by omega) (by decide) kx fun S9 e9 => ?_
  rw [p7]
  try simp (maxSteps := 2000000) only [startF, wSs, wS, wE, wL, wO, wB, wI, x_add, x_adds, x_addl, x_addt, x_sub, x_mul, x_mult, x_mull, x_fdv, x_mod, x_pow, x_auga, x_augs, x_augm, x_eqi, x_eqs, x_eqb, x_nei, x_nes, x_neb, x_eqtt, x_eqrr, x_eqtr, x_eqrt, x_eqst, x_eqts, x_nett, x_nerr, x_netr, x_nert, x_nest, x_nets, x_lt, x_le, x_gt, x_ge, x_ins, x_isn, x_isnt, x_ixt, x_ixl, x_ixd, x_ixs, x_slt, x_sll, x_sls, x_std, x_stl, x_isin, x_isis, x_isit, x_isii, x_isib, x_lens, x_lent, x_lenf, x_lenl, x_inti, x_intb, x_abs, x_max2, x_min2, x_maxl, x_minl, x_mxd, x_tupl, x_tupt, x_lisl, x_list, x_liss, x_all, x_any, x_sum, x_repr, x_app, x_ext, x_pop, x_popa, x_join, x_rcva, x_rcve, x_rcvp, x_rcvq, x_rcvj, x_srct, x_srcf, x_srcs, x_srcl, x_seqt, x_seql, x_enu, x_enut, x_zipl, x_zipt, x_rng1, x_rng2, x_tg1, x_tgt, x_tgl, x_var, x_put, x_ex, x_exv, x_exl, x_exl0, x_exd, x_exb, x_exi, x_dec, x_decf, x_ndec, x_ndecf, x_ty_str_str, x_ty_str_tuple, x_ty_str_int, x_ty_str_bool, x_ty_str_list, x_ty_str_dict, x_ty_str_list_tuple, x_ty_str_tuple_list, x_ty_str_str_tuple, x_ty_str_tuple_str, x_ty_str_int_bool, x_ty_str_bool_int, x_ty_str_str_int, x_ty_str_int_str, x_ty_tuple_str, x_ty_tuple_tuple, x_ty_tuple_int, x_ty_tuple_bool, x_ty_tuple_list, x_ty_tuple_dict, x_ty_tuple_list_tuple, x_ty_tuple_tuple_list, x_ty_tuple_str_tuple, x_ty_tuple_tuple_str, x_ty_tuple_int_bool, x_ty_tuple_bool_int, x_ty_tuple_str_int, x_ty_tuple_int_str, x_ty_int_str, x_ty_int_tuple, x_ty_int_int, x_ty_int_bool, x_ty_int_list, x_ty_int_dict, x_ty_int_list_tuple, x_ty_int_tuple_list, x_ty_int_str_tuple, x_ty_int_tuple_str, x_ty_int_int_bool, x_ty_int_bool_int, x_ty_int_str_int, x_ty_int_int_str, x_ty_bool_str, x_ty_bool_tuple, x_ty_bool_int, x_ty_bool_bool, x_ty_bool_list, x_ty_bool_dict, x_ty_bool_list_tuple, x_ty_bool_tuple_list, x_ty_bool_str_tuple, x_ty_bool_tuple_str, x_ty_bool_int_bool, x_ty_bool_bool_int, x_ty_bool_str_int, x_ty_bool_int_str, x_ty_list_str, x_ty_list_tuple, x_ty_list_int, x_ty_list_bool, x_ty_list_list, x_ty_list_dict, x_ty_list_list_tuple, x_ty_list_tuple_list, x_ty_list_str_tuple, x_ty_list_tuple_str, x_ty_list_int_bool, x_ty_list_bool_int, x_ty_list_str_int, x_ty_list_int_str, x_ty_dict_str, x_ty_dict_tuple, x_ty_dict_int, x_ty_dict_bool, x_ty_dict_list, x_ty_dict_dict, x_ty_dict_list_tuple, x_ty_dict_tuple_list, x_ty_dict_str_tuple, x_ty_dict_tuple_str, x_ty_dict_int_bool, x_ty_dict_bool_int, x_ty_dict_str_int, x_ty_dict_int_str, x_puto, x_puto', List.map_cons, List.map_nil, List.length_cons, List.length_nil, List.cons_append, List.nil_append, List.replicate, Nat.sub_zero, Nat.sub_self, Nat.zero_add, Nat.reduceAdd, Nat.reduceSub, List.getElem?_cons_zero, List.getElem?_cons_succ, List.set_cons_zero, List.set_cons_succ, setF, wipeF, true_and, and_true, if_true, if_false, Bool.true_eq_false, Bool.false_eq_true, ite_true, ite_false, reduceIte, not_true_eq_false, not_false_eq_true, Bool.not_true, Bool.not_false, exists_eq_left', exists_const, ne_eq]
  have f8 := ((((((e1.trans e2).trans e3).trans e4).trans e5).trans e6).trans e7).trans e8
  exact hQ S9 (((f8.trans (Ext.new hp)).trans (Ext.new hq)).trans e9)
def shS (x y z : Str) : T := .t [.t [.t [.s x, .s x], .t [.s y, .s y], .s z], .s z]
def shS2 (x y z : Str) : T := .t [.t [.t [.s x, .s x], .s y, .t [.s z, .s z], .s x], .s y, .s x]
theorem d_sides_right {k : Nat} {x y z : Str} {S : Sto} {Q : KE} {E : XE} (hk : 100 ≤ k) (hx : nameB x = true) (hy : nameB y = true) (hz : nameB z = true) (hQ : ∀ S', Ext S S' → Q (.bl true) S') : wC tab k "_law_sides_right" [.str x, .str y, .str z] S Q E := by
  refine wd (fd := f__law_sides_right) (by omega) rfl rfl ?_
  unfold f__law_sides_right
  have sz := sizeLine_eq
  have kb : kindB (shS x y z) = true := by
    unfold kindB shS
    simp [hf_t, hf_s hx, hf_s hy, hf_s hz, wideB, endB, T.nm, T.nms, hx, hy, hz]
  have p1 : prB (shS x y z) (.p 0 [.p 1 [], .p 1 []]) = true := by
    show tmB [.t [.t [.s x, .s x], .t [.s y, .s y], .s z]] z _ = true
    simp [tm_p, at?, T.pa, eN, tmBs_cons, tmBs_nil]
  have p2 : prB (shS x y z) (.p 0 [.p 1 [], .p 2 []]) = false := by
    show tmB [.t [.t [.s x, .s x], .t [.s y, .s y], .s z]] z _ = _
    simp [tm_p, at?, T.pa, eN, tmBs_cons, tmBs_nil]
  try simp (maxSteps := 2000000) only [startF, wSs, wS, wE, wL, wO, wB, wI, x_add, x_adds, x_addl, x_addt, x_sub, x_mul, x_mult, x_mull, x_fdv, x_mod, x_pow, x_auga, x_augs, x_augm, x_eqi, x_eqs, x_eqb, x_nei, x_nes, x_neb, x_eqtt, x_eqrr, x_eqtr, x_eqrt, x_eqst, x_eqts, x_nett, x_nerr, x_netr, x_nert, x_nest, x_nets, x_lt, x_le, x_gt, x_ge, x_ins, x_isn, x_isnt, x_ixt, x_ixl, x_ixd, x_ixs, x_slt, x_sll, x_sls, x_std, x_stl, x_isin, x_isis, x_isit, x_isii, x_isib, x_lens, x_lent, x_lenf, x_lenl, x_inti, x_intb, x_abs, x_max2, x_min2, x_maxl, x_minl, x_mxd, x_tupl, x_tupt, x_lisl, x_list, x_liss, x_all, x_any, x_sum, x_repr, x_app, x_ext, x_pop, x_popa, x_join, x_rcva, x_rcve, x_rcvp, x_rcvq, x_rcvj, x_srct, x_srcf, x_srcs, x_srcl, x_seqt, x_seql, x_enu, x_enut, x_zipl, x_zipt, x_rng1, x_rng2, x_tg1, x_tgt, x_tgl, x_var, x_put, x_ex, x_exv, x_exl, x_exl0, x_exd, x_exb, x_exi, x_dec, x_decf, x_ndec, x_ndecf, x_ty_str_str, x_ty_str_tuple, x_ty_str_int, x_ty_str_bool, x_ty_str_list, x_ty_str_dict, x_ty_str_list_tuple, x_ty_str_tuple_list, x_ty_str_str_tuple, x_ty_str_tuple_str, x_ty_str_int_bool, x_ty_str_bool_int, x_ty_str_str_int, x_ty_str_int_str, x_ty_tuple_str, x_ty_tuple_tuple, x_ty_tuple_int, x_ty_tuple_bool, x_ty_tuple_list, x_ty_tuple_dict, x_ty_tuple_list_tuple, x_ty_tuple_tuple_list, x_ty_tuple_str_tuple, x_ty_tuple_tuple_str, x_ty_tuple_int_bool, x_ty_tuple_bool_int, x_ty_tuple_str_int, x_ty_tuple_int_str, x_ty_int_str, x_ty_int_tuple, x_ty_int_int, x_ty_int_bool, x_ty_int_list, x_ty_int_dict, x_ty_int_list_tuple, x_ty_int_tuple_list, x_ty_int_str_tuple, x_ty_int_tuple_str, x_ty_int_int_bool, x_ty_int_bool_int, x_ty_int_str_int, x_ty_int_int_str, x_ty_bool_str, x_ty_bool_tuple, x_ty_bool_int, x_ty_bool_bool, x_ty_bool_list, x_ty_bool_dict, x_ty_bool_list_tuple, x_ty_bool_tuple_list, x_ty_bool_str_tuple, x_ty_bool_tuple_str, x_ty_bool_int_bool, x_ty_bool_bool_int, x_ty_bool_str_int, x_ty_bool_int_str, x_ty_list_str, x_ty_list_tuple, x_ty_list_int, x_ty_list_bool, x_ty_list_list, x_ty_list_dict, x_ty_list_list_tuple, x_ty_list_tuple_list, x_ty_list_str_tuple, x_ty_list_tuple_str, x_ty_list_int_bool, x_ty_list_bool_int, x_ty_list_str_int, x_ty_list_int_str, x_ty_dict_str, x_ty_dict_tuple, x_ty_dict_int, x_ty_dict_bool, x_ty_dict_list, x_ty_dict_dict, x_ty_dict_list_tuple, x_ty_dict_tuple_list, x_ty_dict_str_tuple, x_ty_dict_tuple_str, x_ty_dict_int_bool, x_ty_dict_bool_int, x_ty_dict_str_int, x_ty_dict_int_str, x_puto, x_puto', List.map_cons, List.map_nil, List.length_cons, List.length_nil, List.cons_append, List.nil_append, List.replicate, Nat.sub_zero, Nat.sub_self, Nat.zero_add, Nat.reduceAdd, Nat.reduceSub, List.getElem?_cons_zero, List.getElem?_cons_succ, List.set_cons_zero, List.set_cons_succ, setF, wipeF, true_and, and_true, if_true, if_false, Bool.true_eq_false, Bool.false_eq_true, ite_true, ite_false, reduceIte, not_true_eq_false, not_false_eq_true, Bool.not_true, Bool.not_false, exists_eq_left', exists_const, ne_eq]
  refine ⟨by omega, by omega, by omega, by omega, by omega, by omega, by omega, ?_⟩
  refine d_is_program (t := shS x y z) (p := .p 0 [.p 1 [], .p 1 []]) (show 2 + 10 ≤ _ by omega) (by decide) kb fun S1 e1 => ?_
  rw [p1]
  try simp (maxSteps := 2000000) only [startF, wSs, wS, wE, wL, wO, wB, wI, x_add, x_adds, x_addl, x_addt, x_sub, x_mul, x_mult, x_mull, x_fdv, x_mod, x_pow, x_auga, x_augs, x_augm, x_eqi, x_eqs, x_eqb, x_nei, x_nes, x_neb, x_eqtt, x_eqrr, x_eqtr, x_eqrt, x_eqst, x_eqts, x_nett, x_nerr, x_netr, x_nert, x_nest, x_nets, x_lt, x_le, x_gt, x_ge, x_ins, x_isn, x_isnt, x_ixt, x_ixl, x_ixd, x_ixs, x_slt, x_sll, x_sls, x_std, x_stl, x_isin, x_isis, x_isit, x_isii, x_isib, x_lens, x_lent, x_lenf, x_lenl, x_inti, x_intb, x_abs, x_max2, x_min2, x_maxl, x_minl, x_mxd, x_tupl, x_tupt, x_lisl, x_list, x_liss, x_all, x_any, x_sum, x_repr, x_app, x_ext, x_pop, x_popa, x_join, x_rcva, x_rcve, x_rcvp, x_rcvq, x_rcvj, x_srct, x_srcf, x_srcs, x_srcl, x_seqt, x_seql, x_enu, x_enut, x_zipl, x_zipt, x_rng1, x_rng2, x_tg1, x_tgt, x_tgl, x_var, x_put, x_ex, x_exv, x_exl, x_exl0, x_exd, x_exb, x_exi, x_dec, x_decf, x_ndec, x_ndecf, x_ty_str_str, x_ty_str_tuple, x_ty_str_int, x_ty_str_bool, x_ty_str_list, x_ty_str_dict, x_ty_str_list_tuple, x_ty_str_tuple_list, x_ty_str_str_tuple, x_ty_str_tuple_str, x_ty_str_int_bool, x_ty_str_bool_int, x_ty_str_str_int, x_ty_str_int_str, x_ty_tuple_str, x_ty_tuple_tuple, x_ty_tuple_int, x_ty_tuple_bool, x_ty_tuple_list, x_ty_tuple_dict, x_ty_tuple_list_tuple, x_ty_tuple_tuple_list, x_ty_tuple_str_tuple, x_ty_tuple_tuple_str, x_ty_tuple_int_bool, x_ty_tuple_bool_int, x_ty_tuple_str_int, x_ty_tuple_int_str, x_ty_int_str, x_ty_int_tuple, x_ty_int_int, x_ty_int_bool, x_ty_int_list, x_ty_int_dict, x_ty_int_list_tuple, x_ty_int_tuple_list, x_ty_int_str_tuple, x_ty_int_tuple_str, x_ty_int_int_bool, x_ty_int_bool_int, x_ty_int_str_int, x_ty_int_int_str, x_ty_bool_str, x_ty_bool_tuple, x_ty_bool_int, x_ty_bool_bool, x_ty_bool_list, x_ty_bool_dict, x_ty_bool_list_tuple, x_ty_bool_tuple_list, x_ty_bool_str_tuple, x_ty_bool_tuple_str, x_ty_bool_int_bool, x_ty_bool_bool_int, x_ty_bool_str_int, x_ty_bool_int_str, x_ty_list_str, x_ty_list_tuple, x_ty_list_int, x_ty_list_bool, x_ty_list_list, x_ty_list_dict, x_ty_list_list_tuple, x_ty_list_tuple_list, x_ty_list_str_tuple, x_ty_list_tuple_str, x_ty_list_int_bool, x_ty_list_bool_int, x_ty_list_str_int, x_ty_list_int_str, x_ty_dict_str, x_ty_dict_tuple, x_ty_dict_int, x_ty_dict_bool, x_ty_dict_list, x_ty_dict_dict, x_ty_dict_list_tuple, x_ty_dict_tuple_list, x_ty_dict_str_tuple, x_ty_dict_tuple_str, x_ty_dict_int_bool, x_ty_dict_bool_int, x_ty_dict_str_int, x_ty_dict_int_str, x_puto, x_puto', List.map_cons, List.map_nil, List.length_cons, List.length_nil, List.cons_append, List.nil_append, List.replicate, Nat.sub_zero, Nat.sub_self, Nat.zero_add, Nat.reduceAdd, Nat.reduceSub, List.getElem?_cons_zero, List.getElem?_cons_succ, List.set_cons_zero, List.set_cons_succ, setF, wipeF, true_and, and_true, if_true, if_false, Bool.true_eq_false, Bool.false_eq_true, ite_true, ite_false, reduceIte, not_true_eq_false, not_false_eq_true, Bool.not_true, Bool.not_false, exists_eq_left', exists_const, ne_eq]
  refine ⟨by omega, by omega, by omega, ?_⟩
  refine d_is_program (t := shS x y z) (p := .p 0 [.p 1 [], .p 2 []]) (show 2 + 10 ≤ _ by omega) (by decide) kb fun S2 e2 => ?_
  rw [p2]
  try simp (maxSteps := 2000000) only [startF, wSs, wS, wE, wL, wO, wB, wI, x_add, x_adds, x_addl, x_addt, x_sub, x_mul, x_mult, x_mull, x_fdv, x_mod, x_pow, x_auga, x_augs, x_augm, x_eqi, x_eqs, x_eqb, x_nei, x_nes, x_neb, x_eqtt, x_eqrr, x_eqtr, x_eqrt, x_eqst, x_eqts, x_nett, x_nerr, x_netr, x_nert, x_nest, x_nets, x_lt, x_le, x_gt, x_ge, x_ins, x_isn, x_isnt, x_ixt, x_ixl, x_ixd, x_ixs, x_slt, x_sll, x_sls, x_std, x_stl, x_isin, x_isis, x_isit, x_isii, x_isib, x_lens, x_lent, x_lenf, x_lenl, x_inti, x_intb, x_abs, x_max2, x_min2, x_maxl, x_minl, x_mxd, x_tupl, x_tupt, x_lisl, x_list, x_liss, x_all, x_any, x_sum, x_repr, x_app, x_ext, x_pop, x_popa, x_join, x_rcva, x_rcve, x_rcvp, x_rcvq, x_rcvj, x_srct, x_srcf, x_srcs, x_srcl, x_seqt, x_seql, x_enu, x_enut, x_zipl, x_zipt, x_rng1, x_rng2, x_tg1, x_tgt, x_tgl, x_var, x_put, x_ex, x_exv, x_exl, x_exl0, x_exd, x_exb, x_exi, x_dec, x_decf, x_ndec, x_ndecf, x_ty_str_str, x_ty_str_tuple, x_ty_str_int, x_ty_str_bool, x_ty_str_list, x_ty_str_dict, x_ty_str_list_tuple, x_ty_str_tuple_list, x_ty_str_str_tuple, x_ty_str_tuple_str, x_ty_str_int_bool, x_ty_str_bool_int, x_ty_str_str_int, x_ty_str_int_str, x_ty_tuple_str, x_ty_tuple_tuple, x_ty_tuple_int, x_ty_tuple_bool, x_ty_tuple_list, x_ty_tuple_dict, x_ty_tuple_list_tuple, x_ty_tuple_tuple_list, x_ty_tuple_str_tuple, x_ty_tuple_tuple_str, x_ty_tuple_int_bool, x_ty_tuple_bool_int, x_ty_tuple_str_int, x_ty_tuple_int_str, x_ty_int_str, x_ty_int_tuple, x_ty_int_int, x_ty_int_bool, x_ty_int_list, x_ty_int_dict, x_ty_int_list_tuple, x_ty_int_tuple_list, x_ty_int_str_tuple, x_ty_int_tuple_str, x_ty_int_int_bool, x_ty_int_bool_int, x_ty_int_str_int, x_ty_int_int_str, x_ty_bool_str, x_ty_bool_tuple, x_ty_bool_int, x_ty_bool_bool, x_ty_bool_list, x_ty_bool_dict, x_ty_bool_list_tuple, x_ty_bool_tuple_list, x_ty_bool_str_tuple, x_ty_bool_tuple_str, x_ty_bool_int_bool, x_ty_bool_bool_int, x_ty_bool_str_int, x_ty_bool_int_str, x_ty_list_str, x_ty_list_tuple, x_ty_list_int, x_ty_list_bool, x_ty_list_list, x_ty_list_dict, x_ty_list_list_tuple, x_ty_list_tuple_list, x_ty_list_str_tuple, x_ty_list_tuple_str, x_ty_list_int_bool, x_ty_list_bool_int, x_ty_list_str_int, x_ty_list_int_str, x_ty_dict_str, x_ty_dict_tuple, x_ty_dict_int, x_ty_dict_bool, x_ty_dict_list, x_ty_dict_dict, x_ty_dict_list_tuple, x_ty_dict_tuple_list, x_ty_dict_str_tuple, x_ty_dict_tuple_str, x_ty_dict_int_bool, x_ty_dict_bool_int, x_ty_dict_str_int, x_ty_dict_int_str, x_puto, x_puto', List.map_cons, List.map_nil, List.length_cons, List.length_nil, List.cons_append, List.nil_append, List.replicate, Nat.sub_zero, Nat.sub_self, Nat.zero_add, Nat.reduceAdd, Nat.reduceSub, List.getElem?_cons_zero, List.getElem?_cons_succ, List.set_cons_zero, List.set_cons_succ, setF, wipeF, true_and, and_true, if_true, if_false, Bool.true_eq_false, Bool.false_eq_true, ite_true, ite_false, reduceIte, not_true_eq_false, not_false_eq_true, Bool.not_true, Bool.not_false, exists_eq_left', exists_const, ne_eq]
  refine ⟨by omega, by omega, by omega, by omega, ?_⟩
  refine d_hand_at (t := shS x y z) (p := .p 0 [.p 1 [], .p 1 []]) (r := [1]) (hs := [.t [.t [.s x, .s x], .t [.s y, .s y], .s z], .s y]) (w := y) (q := .p 1 []) (show 2 + 11 ≤ _ by omega) (by decide) (by decide) kb p1 rfl fun S3 e3 => ?_
  have hK : HK [.t [.t [.s x, .s x], .t [.s y, .s y], .s z], .s y] := by
    intro h hh
    simp only [List.mem_cons, List.not_mem_nil, or_false] at hh
    rcases hh with rfl | rfl
    · simp [hf_t, hf_s hx, hf_s hy, hf_s hz, wideB, endB, hx, hy, hz]
    · exact hf_s hy
  have hd : D.tup [D.tup [D.tup [D.str x, D.str x], D.tup [D.str y, D.str y], D.str z], D.str y] = .tup (T.ds [.t [.t [.s x, .s x], .t [.s y, .s y], .s z], .s y]) := rfl
  rw [hd]
  try simp (maxSteps := 2000000) only [startF, wSs, wS, wE, wL, wO, wB, wI, x_add, x_adds, x_addl, x_addt, x_sub, x_mul, x_mult, x_mull, x_fdv, x_mod, x_pow, x_auga, x_augs, x_augm, x_eqi, x_eqs, x_eqb, x_nei, x_nes, x_neb, x_eqtt, x_eqrr, x_eqtr, x_eqrt, x_eqst, x_eqts, x_nett, x_nerr, x_netr, x_nert, x_nest, x_nets, x_lt, x_le, x_gt, x_ge, x_ins, x_isn, x_isnt, x_ixt, x_ixl, x_ixd, x_ixs, x_slt, x_sll, x_sls, x_std, x_stl, x_isin, x_isis, x_isit, x_isii, x_isib, x_lens, x_lent, x_lenf, x_lenl, x_inti, x_intb, x_abs, x_max2, x_min2, x_maxl, x_minl, x_mxd, x_tupl, x_tupt, x_lisl, x_list, x_liss, x_all, x_any, x_sum, x_repr, x_app, x_ext, x_pop, x_popa, x_join, x_rcva, x_rcve, x_rcvp, x_rcvq, x_rcvj, x_srct, x_srcf, x_srcs, x_srcl, x_seqt, x_seql, x_enu, x_enut, x_zipl, x_zipt, x_rng1, x_rng2, x_tg1, x_tgt, x_tgl, x_var, x_put, x_ex, x_exv, x_exl, x_exl0, x_exd, x_exb, x_exi, x_dec, x_decf, x_ndec, x_ndecf, x_ty_str_str, x_ty_str_tuple, x_ty_str_int, x_ty_str_bool, x_ty_str_list, x_ty_str_dict, x_ty_str_list_tuple, x_ty_str_tuple_list, x_ty_str_str_tuple, x_ty_str_tuple_str, x_ty_str_int_bool, x_ty_str_bool_int, x_ty_str_str_int, x_ty_str_int_str, x_ty_tuple_str, x_ty_tuple_tuple, x_ty_tuple_int, x_ty_tuple_bool, x_ty_tuple_list, x_ty_tuple_dict, x_ty_tuple_list_tuple, x_ty_tuple_tuple_list, x_ty_tuple_str_tuple, x_ty_tuple_tuple_str, x_ty_tuple_int_bool, x_ty_tuple_bool_int, x_ty_tuple_str_int, x_ty_tuple_int_str, x_ty_int_str, x_ty_int_tuple, x_ty_int_int, x_ty_int_bool, x_ty_int_list, x_ty_int_dict, x_ty_int_list_tuple, x_ty_int_tuple_list, x_ty_int_str_tuple, x_ty_int_tuple_str, x_ty_int_int_bool, x_ty_int_bool_int, x_ty_int_str_int, x_ty_int_int_str, x_ty_bool_str, x_ty_bool_tuple, x_ty_bool_int, x_ty_bool_bool, x_ty_bool_list, x_ty_bool_dict, x_ty_bool_list_tuple, x_ty_bool_tuple_list, x_ty_bool_str_tuple, x_ty_bool_tuple_str, x_ty_bool_int_bool, x_ty_bool_bool_int, x_ty_bool_str_int, x_ty_bool_int_str, x_ty_list_str, x_ty_list_tuple, x_ty_list_int, x_ty_list_bool, x_ty_list_list, x_ty_list_dict, x_ty_list_list_tuple, x_ty_list_tuple_list, x_ty_list_str_tuple, x_ty_list_tuple_str, x_ty_list_int_bool, x_ty_list_bool_int, x_ty_list_str_int, x_ty_list_int_str, x_ty_dict_str, x_ty_dict_tuple, x_ty_dict_int, x_ty_dict_bool, x_ty_dict_list, x_ty_dict_dict, x_ty_dict_list_tuple, x_ty_dict_tuple_list, x_ty_dict_str_tuple, x_ty_dict_tuple_str, x_ty_dict_int_bool, x_ty_dict_bool_int, x_ty_dict_str_int, x_ty_dict_int_str, x_puto, x_puto', List.map_cons, List.map_nil, List.length_cons, List.length_nil, List.cons_append, List.nil_append, List.replicate, Nat.sub_zero, Nat.sub_self, Nat.zero_add, Nat.reduceAdd, Nat.reduceSub, List.getElem?_cons_zero, List.getElem?_cons_succ, List.set_cons_zero, List.set_cons_succ, setF, wipeF, true_and, and_true, if_true, if_false, Bool.true_eq_false, Bool.false_eq_true, ite_true, ite_false, reduceIte, not_true_eq_false, not_false_eq_true, Bool.not_true, Bool.not_false, exists_eq_left', exists_const, ne_eq]
  refine ⟨by omega, by omega, by omega, by omega, ?_⟩
  refine eqD_same (.tup (T.pys_of _)) (.tup (T.pys_of _)) (shaped_hs hK) ?_
  try simp (maxSteps := 2000000) only [startF, wSs, wS, wE, wL, wO, wB, wI, x_add, x_adds, x_addl, x_addt, x_sub, x_mul, x_mult, x_mull, x_fdv, x_mod, x_pow, x_auga, x_augs, x_augm, x_eqi, x_eqs, x_eqb, x_nei, x_nes, x_neb, x_eqtt, x_eqrr, x_eqtr, x_eqrt, x_eqst, x_eqts, x_nett, x_nerr, x_netr, x_nert, x_nest, x_nets, x_lt, x_le, x_gt, x_ge, x_ins, x_isn, x_isnt, x_ixt, x_ixl, x_ixd, x_ixs, x_slt, x_sll, x_sls, x_std, x_stl, x_isin, x_isis, x_isit, x_isii, x_isib, x_lens, x_lent, x_lenf, x_lenl, x_inti, x_intb, x_abs, x_max2, x_min2, x_maxl, x_minl, x_mxd, x_tupl, x_tupt, x_lisl, x_list, x_liss, x_all, x_any, x_sum, x_repr, x_app, x_ext, x_pop, x_popa, x_join, x_rcva, x_rcve, x_rcvp, x_rcvq, x_rcvj, x_srct, x_srcf, x_srcs, x_srcl, x_seqt, x_seql, x_enu, x_enut, x_zipl, x_zipt, x_rng1, x_rng2, x_tg1, x_tgt, x_tgl, x_var, x_put, x_ex, x_exv, x_exl, x_exl0, x_exd, x_exb, x_exi, x_dec, x_decf, x_ndec, x_ndecf, x_ty_str_str, x_ty_str_tuple, x_ty_str_int, x_ty_str_bool, x_ty_str_list, x_ty_str_dict, x_ty_str_list_tuple, x_ty_str_tuple_list, x_ty_str_str_tuple, x_ty_str_tuple_str, x_ty_str_int_bool, x_ty_str_bool_int, x_ty_str_str_int, x_ty_str_int_str, x_ty_tuple_str, x_ty_tuple_tuple, x_ty_tuple_int, x_ty_tuple_bool, x_ty_tuple_list, x_ty_tuple_dict, x_ty_tuple_list_tuple, x_ty_tuple_tuple_list, x_ty_tuple_str_tuple, x_ty_tuple_tuple_str, x_ty_tuple_int_bool, x_ty_tuple_bool_int, x_ty_tuple_str_int, x_ty_tuple_int_str, x_ty_int_str, x_ty_int_tuple, x_ty_int_int, x_ty_int_bool, x_ty_int_list, x_ty_int_dict, x_ty_int_list_tuple, x_ty_int_tuple_list, x_ty_int_str_tuple, x_ty_int_tuple_str, x_ty_int_int_bool, x_ty_int_bool_int, x_ty_int_str_int, x_ty_int_int_str, x_ty_bool_str, x_ty_bool_tuple, x_ty_bool_int, x_ty_bool_bool, x_ty_bool_list, x_ty_bool_dict, x_ty_bool_list_tuple, x_ty_bool_tuple_list, x_ty_bool_str_tuple, x_ty_bool_tuple_str, x_ty_bool_int_bool, x_ty_bool_bool_int, x_ty_bool_str_int, x_ty_bool_int_str, x_ty_list_str, x_ty_list_tuple, x_ty_list_int, x_ty_list_bool, x_ty_list_list, x_ty_list_dict, x_ty_list_list_tuple, x_ty_list_tuple_list, x_ty_list_str_tuple, x_ty_list_tuple_str, x_ty_list_int_bool, x_ty_list_bool_int, x_ty_list_str_int, x_ty_list_int_str, x_ty_dict_str, x_ty_dict_tuple, x_ty_dict_int, x_ty_dict_bool, x_ty_dict_list, x_ty_dict_dict, x_ty_dict_list_tuple, x_ty_dict_tuple_list, x_ty_dict_str_tuple, x_ty_dict_tuple_str, x_ty_dict_int_bool, x_ty_dict_bool_int, x_ty_dict_str_int, x_ty_dict_int_str, x_puto, x_puto', List.map_cons, List.map_nil, List.length_cons, List.length_nil, List.cons_append, List.nil_append, List.replicate, Nat.sub_zero, Nat.sub_self, Nat.zero_add, Nat.reduceAdd, Nat.reduceSub, List.getElem?_cons_zero, List.getElem?_cons_succ, List.set_cons_zero, List.set_cons_succ, setF, wipeF, true_and, and_true, if_true, if_false, Bool.true_eq_false, Bool.false_eq_true, ite_true, ite_false, reduceIte, not_true_eq_false, not_false_eq_true, Bool.not_true, Bool.not_false, exists_eq_left', exists_const, ne_eq]
  refine ⟨by omega, by omega, by omega, by omega, by omega, by omega, by omega, by omega, by omega, ?_⟩
  have kc : kindB (shS2 x y z) = true := by
    unfold kindB shS2
    simp [hf_t, hf_s hx, hf_s hy, hf_s hz, wideB, endB, T.nm, T.nms, hx, hy, hz]
  have p3 : prB (shS2 x y z) (.p 0 [.p 2 [], .p 1 [], .p 2 []]) = true := by
    show tmB [.t [.t [.s x, .s x], .s y, .t [.s z, .s z], .s x], .s y] x _ = true
    simp [tm_p, at?, T.pa, eN, tmBs_cons, tmBs_nil]
  have p4 : prB (shS2 x y z) (.p 0 [.p 2 [], .p 1 [], .p 3 []]) = false := by
    show tmB [.t [.t [.s x, .s x], .s y, .t [.s z, .s z], .s x], .s y] x _ = _
    simp [tm_p, at?, T.pa, eN, tmBs_cons, tmBs_nil]
  refine d_is_program (t := shS2 x y z) (p := .p 0 [.p 2 [], .p 1 [], .p 2 []]) (show 2 + 10 ≤ _ by omega) (by decide) kc fun S4 e4 => ?_
  rw [p3]
  try simp (maxSteps := 2000000) only [startF, wSs, wS, wE, wL, wO, wB, wI, x_add, x_adds, x_addl, x_addt, x_sub, x_mul, x_mult, x_mull, x_fdv, x_mod, x_pow, x_auga, x_augs, x_augm, x_eqi, x_eqs, x_eqb, x_nei, x_nes, x_neb, x_eqtt, x_eqrr, x_eqtr, x_eqrt, x_eqst, x_eqts, x_nett, x_nerr, x_netr, x_nert, x_nest, x_nets, x_lt, x_le, x_gt, x_ge, x_ins, x_isn, x_isnt, x_ixt, x_ixl, x_ixd, x_ixs, x_slt, x_sll, x_sls, x_std, x_stl, x_isin, x_isis, x_isit, x_isii, x_isib, x_lens, x_lent, x_lenf, x_lenl, x_inti, x_intb, x_abs, x_max2, x_min2, x_maxl, x_minl, x_mxd, x_tupl, x_tupt, x_lisl, x_list, x_liss, x_all, x_any, x_sum, x_repr, x_app, x_ext, x_pop, x_popa, x_join, x_rcva, x_rcve, x_rcvp, x_rcvq, x_rcvj, x_srct, x_srcf, x_srcs, x_srcl, x_seqt, x_seql, x_enu, x_enut, x_zipl, x_zipt, x_rng1, x_rng2, x_tg1, x_tgt, x_tgl, x_var, x_put, x_ex, x_exv, x_exl, x_exl0, x_exd, x_exb, x_exi, x_dec, x_decf, x_ndec, x_ndecf, x_ty_str_str, x_ty_str_tuple, x_ty_str_int, x_ty_str_bool, x_ty_str_list, x_ty_str_dict, x_ty_str_list_tuple, x_ty_str_tuple_list, x_ty_str_str_tuple, x_ty_str_tuple_str, x_ty_str_int_bool, x_ty_str_bool_int, x_ty_str_str_int, x_ty_str_int_str, x_ty_tuple_str, x_ty_tuple_tuple, x_ty_tuple_int, x_ty_tuple_bool, x_ty_tuple_list, x_ty_tuple_dict, x_ty_tuple_list_tuple, x_ty_tuple_tuple_list, x_ty_tuple_str_tuple, x_ty_tuple_tuple_str, x_ty_tuple_int_bool, x_ty_tuple_bool_int, x_ty_tuple_str_int, x_ty_tuple_int_str, x_ty_int_str, x_ty_int_tuple, x_ty_int_int, x_ty_int_bool, x_ty_int_list, x_ty_int_dict, x_ty_int_list_tuple, x_ty_int_tuple_list, x_ty_int_str_tuple, x_ty_int_tuple_str, x_ty_int_int_bool, x_ty_int_bool_int, x_ty_int_str_int, x_ty_int_int_str, x_ty_bool_str, x_ty_bool_tuple, x_ty_bool_int, x_ty_bool_bool, x_ty_bool_list, x_ty_bool_dict, x_ty_bool_list_tuple, x_ty_bool_tuple_list, x_ty_bool_str_tuple, x_ty_bool_tuple_str, x_ty_bool_int_bool, x_ty_bool_bool_int, x_ty_bool_str_int, x_ty_bool_int_str, x_ty_list_str, x_ty_list_tuple, x_ty_list_int, x_ty_list_bool, x_ty_list_list, x_ty_list_dict, x_ty_list_list_tuple, x_ty_list_tuple_list, x_ty_list_str_tuple, x_ty_list_tuple_str, x_ty_list_int_bool, x_ty_list_bool_int, x_ty_list_str_int, x_ty_list_int_str, x_ty_dict_str, x_ty_dict_tuple, x_ty_dict_int, x_ty_dict_bool, x_ty_dict_list, x_ty_dict_dict, x_ty_dict_list_tuple, x_ty_dict_tuple_list, x_ty_dict_str_tuple, x_ty_dict_tuple_str, x_ty_dict_int_bool, x_ty_dict_bool_int, x_ty_dict_str_int, x_ty_dict_int_str, x_puto, x_puto', List.map_cons, List.map_nil, List.length_cons, List.length_nil, List.cons_append, List.nil_append, List.replicate, Nat.sub_zero, Nat.sub_self, Nat.zero_add, Nat.reduceAdd, Nat.reduceSub, List.getElem?_cons_zero, List.getElem?_cons_succ, List.set_cons_zero, List.set_cons_succ, setF, wipeF, true_and, and_true, if_true, if_false, Bool.true_eq_false, Bool.false_eq_true, ite_true, ite_false, reduceIte, not_true_eq_false, not_false_eq_true, Bool.not_true, Bool.not_false, exists_eq_left', exists_const, ne_eq]
  refine ⟨by omega, by omega, by omega, by omega, ?_⟩
  refine d_is_program (t := shS2 x y z) (p := .p 0 [.p 2 [], .p 1 [], .p 3 []]) (show 2 + 10 ≤ _ by omega) (by decide) kc fun S5 e5 => ?_
  rw [p4]
  try simp (maxSteps := 2000000) only [startF, wSs, wS, wE, wL, wO, wB, wI, x_add, x_adds, x_addl, x_addt, x_sub, x_mul, x_mult, x_mull, x_fdv, x_mod, x_pow, x_auga, x_augs, x_augm, x_eqi, x_eqs, x_eqb, x_nei, x_nes, x_neb, x_eqtt, x_eqrr, x_eqtr, x_eqrt, x_eqst, x_eqts, x_nett, x_nerr, x_netr, x_nert, x_nest, x_nets, x_lt, x_le, x_gt, x_ge, x_ins, x_isn, x_isnt, x_ixt, x_ixl, x_ixd, x_ixs, x_slt, x_sll, x_sls, x_std, x_stl, x_isin, x_isis, x_isit, x_isii, x_isib, x_lens, x_lent, x_lenf, x_lenl, x_inti, x_intb, x_abs, x_max2, x_min2, x_maxl, x_minl, x_mxd, x_tupl, x_tupt, x_lisl, x_list, x_liss, x_all, x_any, x_sum, x_repr, x_app, x_ext, x_pop, x_popa, x_join, x_rcva, x_rcve, x_rcvp, x_rcvq, x_rcvj, x_srct, x_srcf, x_srcs, x_srcl, x_seqt, x_seql, x_enu, x_enut, x_zipl, x_zipt, x_rng1, x_rng2, x_tg1, x_tgt, x_tgl, x_var, x_put, x_ex, x_exv, x_exl, x_exl0, x_exd, x_exb, x_exi, x_dec, x_decf, x_ndec, x_ndecf, x_ty_str_str, x_ty_str_tuple, x_ty_str_int, x_ty_str_bool, x_ty_str_list, x_ty_str_dict, x_ty_str_list_tuple, x_ty_str_tuple_list, x_ty_str_str_tuple, x_ty_str_tuple_str, x_ty_str_int_bool, x_ty_str_bool_int, x_ty_str_str_int, x_ty_str_int_str, x_ty_tuple_str, x_ty_tuple_tuple, x_ty_tuple_int, x_ty_tuple_bool, x_ty_tuple_list, x_ty_tuple_dict, x_ty_tuple_list_tuple, x_ty_tuple_tuple_list, x_ty_tuple_str_tuple, x_ty_tuple_tuple_str, x_ty_tuple_int_bool, x_ty_tuple_bool_int, x_ty_tuple_str_int, x_ty_tuple_int_str, x_ty_int_str, x_ty_int_tuple, x_ty_int_int, x_ty_int_bool, x_ty_int_list, x_ty_int_dict, x_ty_int_list_tuple, x_ty_int_tuple_list, x_ty_int_str_tuple, x_ty_int_tuple_str, x_ty_int_int_bool, x_ty_int_bool_int, x_ty_int_str_int, x_ty_int_int_str, x_ty_bool_str, x_ty_bool_tuple, x_ty_bool_int, x_ty_bool_bool, x_ty_bool_list, x_ty_bool_dict, x_ty_bool_list_tuple, x_ty_bool_tuple_list, x_ty_bool_str_tuple, x_ty_bool_tuple_str, x_ty_bool_int_bool, x_ty_bool_bool_int, x_ty_bool_str_int, x_ty_bool_int_str, x_ty_list_str, x_ty_list_tuple, x_ty_list_int, x_ty_list_bool, x_ty_list_list, x_ty_list_dict, x_ty_list_list_tuple, x_ty_list_tuple_list, x_ty_list_str_tuple, x_ty_list_tuple_str, x_ty_list_int_bool, x_ty_list_bool_int, x_ty_list_str_int, x_ty_list_int_str, x_ty_dict_str, x_ty_dict_tuple, x_ty_dict_int, x_ty_dict_bool, x_ty_dict_list, x_ty_dict_dict, x_ty_dict_list_tuple, x_ty_dict_tuple_list, x_ty_dict_str_tuple, x_ty_dict_tuple_str, x_ty_dict_int_bool, x_ty_dict_bool_int, x_ty_dict_str_int, x_ty_dict_int_str, x_puto, x_puto', List.map_cons, List.map_nil, List.length_cons, List.length_nil, List.cons_append, List.nil_append, List.replicate, Nat.sub_zero, Nat.sub_self, Nat.zero_add, Nat.reduceAdd, Nat.reduceSub, List.getElem?_cons_zero, List.getElem?_cons_succ, List.set_cons_zero, List.set_cons_succ, setF, wipeF, true_and, and_true, if_true, if_false, Bool.true_eq_false, Bool.false_eq_true, ite_true, ite_false, reduceIte, not_true_eq_false, not_false_eq_true, Bool.not_true, Bool.not_false, exists_eq_left', exists_const, ne_eq]
  refine ⟨⟨by omega, by omega⟩, ?_⟩
  show loopW _ _ _ ((List.range 3).map fun i : Nat => D.int (0 + ((i : Nat) : Int))) _ _
  have hsh : S5 = S5 := rfl
  refine loop_map _ (fun i : Nat => if i = 0 then D.tup [.str y, .str x] else if i = 1 then D.tup [.str y] else D.tup [.str y, .str z]) (fun _ _ => trivial) (List.range 3) (by rw [List.length_range]; omega) (fun i hi acc S6 N e6 hl hN => ?_) fun S6 e6 v hv => ?_
  · have hi := List.mem_range.mp hi
    have i3 : i = 0 ∨ i = 1 ∨ i = 2 := by omega
    try simp (maxSteps := 2000000) only [startF, wSs, wS, wE, wL, wO, wB, wI, x_add, x_adds, x_addl, x_addt, x_sub, x_mul, x_mult, x_mull, x_fdv, x_mod, x_pow, x_auga, x_augs, x_augm, x_eqi, x_eqs, x_eqb, x_nei, x_nes, x_neb, x_eqtt, x_eqrr, x_eqtr, x_eqrt, x_eqst, x_eqts, x_nett, x_nerr, x_netr, x_nert, x_nest, x_nets, x_lt, x_le, x_gt, x_ge, x_ins, x_isn, x_isnt, x_ixt, x_ixl, x_ixd, x_ixs, x_slt, x_sll, x_sls, x_std, x_stl, x_isin, x_isis, x_isit, x_isii, x_isib, x_lens, x_lent, x_lenf, x_lenl, x_inti, x_intb, x_abs, x_max2, x_min2, x_maxl, x_minl, x_mxd, x_tupl, x_tupt, x_lisl, x_list, x_liss, x_all, x_any, x_sum, x_repr, x_app, x_ext, x_pop, x_popa, x_join, x_rcva, x_rcve, x_rcvp, x_rcvq, x_rcvj, x_srct, x_srcf, x_srcs, x_srcl, x_seqt, x_seql, x_enu, x_enut, x_zipl, x_zipt, x_rng1, x_rng2, x_tg1, x_tgt, x_tgl, x_var, x_put, x_ex, x_exv, x_exl, x_exl0, x_exd, x_exb, x_exi, x_dec, x_decf, x_ndec, x_ndecf, x_ty_str_str, x_ty_str_tuple, x_ty_str_int, x_ty_str_bool, x_ty_str_list, x_ty_str_dict, x_ty_str_list_tuple, x_ty_str_tuple_list, x_ty_str_str_tuple, x_ty_str_tuple_str, x_ty_str_int_bool, x_ty_str_bool_int, x_ty_str_str_int, x_ty_str_int_str, x_ty_tuple_str, x_ty_tuple_tuple, x_ty_tuple_int, x_ty_tuple_bool, x_ty_tuple_list, x_ty_tuple_dict, x_ty_tuple_list_tuple, x_ty_tuple_tuple_list, x_ty_tuple_str_tuple, x_ty_tuple_tuple_str, x_ty_tuple_int_bool, x_ty_tuple_bool_int, x_ty_tuple_str_int, x_ty_tuple_int_str, x_ty_int_str, x_ty_int_tuple, x_ty_int_int, x_ty_int_bool, x_ty_int_list, x_ty_int_dict, x_ty_int_list_tuple, x_ty_int_tuple_list, x_ty_int_str_tuple, x_ty_int_tuple_str, x_ty_int_int_bool, x_ty_int_bool_int, x_ty_int_str_int, x_ty_int_int_str, x_ty_bool_str, x_ty_bool_tuple, x_ty_bool_int, x_ty_bool_bool, x_ty_bool_list, x_ty_bool_dict, x_ty_bool_list_tuple, x_ty_bool_tuple_list, x_ty_bool_str_tuple, x_ty_bool_tuple_str, x_ty_bool_int_bool, x_ty_bool_bool_int, x_ty_bool_str_int, x_ty_bool_int_str, x_ty_list_str, x_ty_list_tuple, x_ty_list_int, x_ty_list_bool, x_ty_list_list, x_ty_list_dict, x_ty_list_list_tuple, x_ty_list_tuple_list, x_ty_list_str_tuple, x_ty_list_tuple_str, x_ty_list_int_bool, x_ty_list_bool_int, x_ty_list_str_int, x_ty_list_int_str, x_ty_dict_str, x_ty_dict_tuple, x_ty_dict_int, x_ty_dict_bool, x_ty_dict_list, x_ty_dict_dict, x_ty_dict_list_tuple, x_ty_dict_tuple_list, x_ty_dict_str_tuple, x_ty_dict_tuple_str, x_ty_dict_int_bool, x_ty_dict_bool_int, x_ty_dict_str_int, x_ty_dict_int_str, x_puto, x_puto', List.map_cons, List.map_nil, List.length_cons, List.length_nil, List.cons_append, List.nil_append, List.replicate, Nat.sub_zero, Nat.sub_self, Nat.zero_add, Nat.reduceAdd, Nat.reduceSub, List.getElem?_cons_zero, List.getElem?_cons_succ, List.set_cons_zero, List.set_cons_succ, setF, wipeF, true_and, and_true, if_true, if_false, Bool.true_eq_false, Bool.false_eq_true, ite_true, ite_false, reduceIte, not_true_eq_false, not_false_eq_true, Bool.not_true, Bool.not_false, exists_eq_left', exists_const, ne_eq]
    refine ⟨by omega, ?_⟩
    have fin : ∀ (hs : List T) (w : Str) (q : P) (ds : List D), fnd (shS2 x y z).pa (eN (shS2 x y z)) (.p 0 [.p 2 [], .p 1 [], .p 2 []]) [(i : Int)] = some (hs, w, q) → T.ds hs = (T.t [.t [.s x, .s x], .s y, .t [.s z, .s z], .s x]).d :: ds → (if i = 0 then D.tup [.str y, .str x] else if i = 1 then D.tup [.str y] else D.tup [.str y, .str z]) = .tup ds → wC tab (k - 1) "hand_at" [(shS2 x y z).d, (P.p 0 [.p 2 [], .p 1 [], .p 2 []]).d, rwD [(i : Int)]] S6 (fun x S1 => slcW x (some 1) none S1 fun y S2 => acc.length < sizeLine ∧ N (acc ++ [y]) S2) XF := by
      intro hs w q ds h1 h2 h3
      refine d_hand_at (t := shS2 x y z) (p := .p 0 [.p 2 [], .p 1 [], .p 2 []]) (show 2 + 11 ≤ _ by omega) (by decide) (show 1 ≤ 1000 by omega) kc p3 h1 fun S7 e7 => ?_
      rw [x_slt, h2, cut_from1, ← h3]
      exact ⟨hl, hN S7 e7⟩
    rw [Int.zero_add]
    rcases i3 with rfl | rfl | rfl
    · exact fin _ _ _ [.str y, .str x] rfl rfl rfl
    · exact fin _ _ _ [.str y] rfl rfl rfl
    · exact fin _ _ _ [.str y, .str z] rfl rfl rfl
  · try simp (maxSteps := 2000000) only [startF, wSs, wS, wE, wL, wO, wB, wI, x_add, x_adds, x_addl, x_addt, x_sub, x_mul, x_mult, x_mull, x_fdv, x_mod, x_pow, x_auga, x_augs, x_augm, x_eqi, x_eqs, x_eqb, x_nei, x_nes, x_neb, x_eqtt, x_eqrr, x_eqtr, x_eqrt, x_eqst, x_eqts, x_nett, x_nerr, x_netr, x_nert, x_nest, x_nets, x_lt, x_le, x_gt, x_ge, x_ins, x_isn, x_isnt, x_ixt, x_ixl, x_ixd, x_ixs, x_slt, x_sll, x_sls, x_std, x_stl, x_isin, x_isis, x_isit, x_isii, x_isib, x_lens, x_lent, x_lenf, x_lenl, x_inti, x_intb, x_abs, x_max2, x_min2, x_maxl, x_minl, x_mxd, x_tupl, x_tupt, x_lisl, x_list, x_liss, x_all, x_any, x_sum, x_repr, x_app, x_ext, x_pop, x_popa, x_join, x_rcva, x_rcve, x_rcvp, x_rcvq, x_rcvj, x_srct, x_srcf, x_srcs, x_srcl, x_seqt, x_seql, x_enu, x_enut, x_zipl, x_zipt, x_rng1, x_rng2, x_tg1, x_tgt, x_tgl, x_var, x_put, x_ex, x_exv, x_exl, x_exl0, x_exd, x_exb, x_exi, x_dec, x_decf, x_ndec, x_ndecf, x_ty_str_str, x_ty_str_tuple, x_ty_str_int, x_ty_str_bool, x_ty_str_list, x_ty_str_dict, x_ty_str_list_tuple, x_ty_str_tuple_list, x_ty_str_str_tuple, x_ty_str_tuple_str, x_ty_str_int_bool, x_ty_str_bool_int, x_ty_str_str_int, x_ty_str_int_str, x_ty_tuple_str, x_ty_tuple_tuple, x_ty_tuple_int, x_ty_tuple_bool, x_ty_tuple_list, x_ty_tuple_dict, x_ty_tuple_list_tuple, x_ty_tuple_tuple_list, x_ty_tuple_str_tuple, x_ty_tuple_tuple_str, x_ty_tuple_int_bool, x_ty_tuple_bool_int, x_ty_tuple_str_int, x_ty_tuple_int_str, x_ty_int_str, x_ty_int_tuple, x_ty_int_int, x_ty_int_bool, x_ty_int_list, x_ty_int_dict, x_ty_int_list_tuple, x_ty_int_tuple_list, x_ty_int_str_tuple, x_ty_int_tuple_str, x_ty_int_int_bool, x_ty_int_bool_int, x_ty_int_str_int, x_ty_int_int_str, x_ty_bool_str, x_ty_bool_tuple, x_ty_bool_int, x_ty_bool_bool, x_ty_bool_list, x_ty_bool_dict, x_ty_bool_list_tuple, x_ty_bool_tuple_list, x_ty_bool_str_tuple, x_ty_bool_tuple_str, x_ty_bool_int_bool, x_ty_bool_bool_int, x_ty_bool_str_int, x_ty_bool_int_str, x_ty_list_str, x_ty_list_tuple, x_ty_list_int, x_ty_list_bool, x_ty_list_list, x_ty_list_dict, x_ty_list_list_tuple, x_ty_list_tuple_list, x_ty_list_str_tuple, x_ty_list_tuple_str, x_ty_list_int_bool, x_ty_list_bool_int, x_ty_list_str_int, x_ty_list_int_str, x_ty_dict_str, x_ty_dict_tuple, x_ty_dict_int, x_ty_dict_bool, x_ty_dict_list, x_ty_dict_dict, x_ty_dict_list_tuple, x_ty_dict_tuple_list, x_ty_dict_str_tuple, x_ty_dict_tuple_str, x_ty_dict_int_bool, x_ty_dict_bool_int, x_ty_dict_str_int, x_ty_dict_int_str, x_puto, x_puto', List.map_cons, List.map_nil, List.length_cons, List.length_nil, List.cons_append, List.nil_append, List.replicate, Nat.sub_zero, Nat.sub_self, Nat.zero_add, Nat.reduceAdd, Nat.reduceSub, List.getElem?_cons_zero, List.getElem?_cons_succ, List.set_cons_zero, List.set_cons_succ, setF, wipeF, true_and, and_true, if_true, if_false, Bool.true_eq_false, Bool.false_eq_true, ite_true, ite_false, reduceIte, not_true_eq_false, not_false_eq_true, Bool.not_true, Bool.not_false, exists_eq_left', exists_const, ne_eq]
    refine ⟨by omega, by omega, by omega, by omega, fun w hw => ?_⟩
    have E6 := (((((e1.trans e2).trans e3).trans e4).trans e5).trans e6)
    have nv := E6.none hv
    have vw : ¬ v = w := fun e => by rw [← e, put_same] at hw; cases hw
    refine eqD_same (d := .list [.tuple [.str y, .str x], .tuple [.str y], .tuple [.str y, .str z]]) (.lst (xs := [.tup [.str y, .str x], .tup [.str y], .tup [.str y, .str z]]) ((put_ne vw).trans put_same) ?_) (.lst put_same ?_) ?_ ?_
    · exact .cons (.tup (.cons (.str y) (.cons (.str x) .nil))) (.cons (.tup (.cons (.str y) .nil)) (.cons (.tup (.cons (.str y) (.cons (.str z) .nil))) .nil))
    · exact .cons (.tup (.cons (.str y) (.cons (.str x) .nil))) (.cons (.tup (.cons (.str y) .nil)) (.cons (.tup (.cons (.str y) (.cons (.str z) .nil))) .nil))
    · simp [SeqAt.shaped, PyData.canLay0, PyData.canLayAll0, PyData.depth, PyData.depthAll, nameB_ok hx, nameB_ok hy, nameB_ok hz]
    · exact hQ _ ((E6.trans (Ext.new hv)).trans (Ext.new hw))
theorem pure_law : ∀ ns : List Int, ns.length ≤ 63 → wC (tabOf defs) 200 "law" [.fls (ns.map D.int)] (fun _ => none) (fun z _ => z = .bl true) XF := by
  intro ns hns
  show wC tab 200 "law" [.fls (iL ns)] _ _ _
  refine wd (fd := f_law) (by decide) rfl rfl ?_
  unfold f_law
  have sz := sizeLine_eq
  try simp (maxSteps := 2000000) only [startF, wSs, wS, wE, wL, wO, wB, wI, x_add, x_adds, x_addl, x_addt, x_sub, x_mul, x_mult, x_mull, x_fdv, x_mod, x_pow, x_auga, x_augs, x_augm, x_eqi, x_eqs, x_eqb, x_nei, x_nes, x_neb, x_eqtt, x_eqrr, x_eqtr, x_eqrt, x_eqst, x_eqts, x_nett, x_nerr, x_netr, x_nert, x_nest, x_nets, x_lt, x_le, x_gt, x_ge, x_ins, x_isn, x_isnt, x_ixt, x_ixl, x_ixd, x_ixs, x_slt, x_sll, x_sls, x_std, x_stl, x_isin, x_isis, x_isit, x_isii, x_isib, x_lens, x_lent, x_lenf, x_lenl, x_inti, x_intb, x_abs, x_max2, x_min2, x_maxl, x_minl, x_mxd, x_tupl, x_tupt, x_lisl, x_list, x_liss, x_all, x_any, x_sum, x_repr, x_app, x_ext, x_pop, x_popa, x_join, x_rcva, x_rcve, x_rcvp, x_rcvq, x_rcvj, x_srct, x_srcf, x_srcs, x_srcl, x_seqt, x_seql, x_enu, x_enut, x_zipl, x_zipt, x_rng1, x_rng2, x_tg1, x_tgt, x_tgl, x_var, x_put, x_ex, x_exv, x_exl, x_exl0, x_exd, x_exb, x_exi, x_dec, x_decf, x_ndec, x_ndecf, x_ty_str_str, x_ty_str_tuple, x_ty_str_int, x_ty_str_bool, x_ty_str_list, x_ty_str_dict, x_ty_str_list_tuple, x_ty_str_tuple_list, x_ty_str_str_tuple, x_ty_str_tuple_str, x_ty_str_int_bool, x_ty_str_bool_int, x_ty_str_str_int, x_ty_str_int_str, x_ty_tuple_str, x_ty_tuple_tuple, x_ty_tuple_int, x_ty_tuple_bool, x_ty_tuple_list, x_ty_tuple_dict, x_ty_tuple_list_tuple, x_ty_tuple_tuple_list, x_ty_tuple_str_tuple, x_ty_tuple_tuple_str, x_ty_tuple_int_bool, x_ty_tuple_bool_int, x_ty_tuple_str_int, x_ty_tuple_int_str, x_ty_int_str, x_ty_int_tuple, x_ty_int_int, x_ty_int_bool, x_ty_int_list, x_ty_int_dict, x_ty_int_list_tuple, x_ty_int_tuple_list, x_ty_int_str_tuple, x_ty_int_tuple_str, x_ty_int_int_bool, x_ty_int_bool_int, x_ty_int_str_int, x_ty_int_int_str, x_ty_bool_str, x_ty_bool_tuple, x_ty_bool_int, x_ty_bool_bool, x_ty_bool_list, x_ty_bool_dict, x_ty_bool_list_tuple, x_ty_bool_tuple_list, x_ty_bool_str_tuple, x_ty_bool_tuple_str, x_ty_bool_int_bool, x_ty_bool_bool_int, x_ty_bool_str_int, x_ty_bool_int_str, x_ty_list_str, x_ty_list_tuple, x_ty_list_int, x_ty_list_bool, x_ty_list_list, x_ty_list_dict, x_ty_list_list_tuple, x_ty_list_tuple_list, x_ty_list_str_tuple, x_ty_list_tuple_str, x_ty_list_int_bool, x_ty_list_bool_int, x_ty_list_str_int, x_ty_list_int_str, x_ty_dict_str, x_ty_dict_tuple, x_ty_dict_int, x_ty_dict_bool, x_ty_dict_list, x_ty_dict_dict, x_ty_dict_list_tuple, x_ty_dict_tuple_list, x_ty_dict_str_tuple, x_ty_dict_tuple_str, x_ty_dict_int_bool, x_ty_dict_bool_int, x_ty_dict_str_int, x_ty_dict_int_str, x_puto, x_puto', List.map_cons, List.map_nil, List.length_cons, List.length_nil, List.cons_append, List.nil_append, List.replicate, Nat.sub_zero, Nat.sub_self, Nat.zero_add, Nat.reduceAdd, Nat.reduceSub, List.getElem?_cons_zero, List.getElem?_cons_succ, List.set_cons_zero, List.set_cons_succ, setF, wipeF, true_and, and_true, if_true, if_false, Bool.true_eq_false, Bool.false_eq_true, ite_true, ite_false, reduceIte, not_true_eq_false, not_false_eq_true, Bool.not_true, Bool.not_false, exists_eq_left', exists_const, ne_eq]
  refine d_begun (by decide) (by omega) fun a l c S1 d1 e1 => ?_
  try simp (maxSteps := 2000000) only [startF, wSs, wS, wE, wL, wO, wB, wI, x_add, x_adds, x_addl, x_addt, x_sub, x_mul, x_mult, x_mull, x_fdv, x_mod, x_pow, x_auga, x_augs, x_augm, x_eqi, x_eqs, x_eqb, x_nei, x_nes, x_neb, x_eqtt, x_eqrr, x_eqtr, x_eqrt, x_eqst, x_eqts, x_nett, x_nerr, x_netr, x_nert, x_nest, x_nets, x_lt, x_le, x_gt, x_ge, x_ins, x_isn, x_isnt, x_ixt, x_ixl, x_ixd, x_ixs, x_slt, x_sll, x_sls, x_std, x_stl, x_isin, x_isis, x_isit, x_isii, x_isib, x_lens, x_lent, x_lenf, x_lenl, x_inti, x_intb, x_abs, x_max2, x_min2, x_maxl, x_minl, x_mxd, x_tupl, x_tupt, x_lisl, x_list, x_liss, x_all, x_any, x_sum, x_repr, x_app, x_ext, x_pop, x_popa, x_join, x_rcva, x_rcve, x_rcvp, x_rcvq, x_rcvj, x_srct, x_srcf, x_srcs, x_srcl, x_seqt, x_seql, x_enu, x_enut, x_zipl, x_zipt, x_rng1, x_rng2, x_tg1, x_tgt, x_tgl, x_var, x_put, x_ex, x_exv, x_exl, x_exl0, x_exd, x_exb, x_exi, x_dec, x_decf, x_ndec, x_ndecf, x_ty_str_str, x_ty_str_tuple, x_ty_str_int, x_ty_str_bool, x_ty_str_list, x_ty_str_dict, x_ty_str_list_tuple, x_ty_str_tuple_list, x_ty_str_str_tuple, x_ty_str_tuple_str, x_ty_str_int_bool, x_ty_str_bool_int, x_ty_str_str_int, x_ty_str_int_str, x_ty_tuple_str, x_ty_tuple_tuple, x_ty_tuple_int, x_ty_tuple_bool, x_ty_tuple_list, x_ty_tuple_dict, x_ty_tuple_list_tuple, x_ty_tuple_tuple_list, x_ty_tuple_str_tuple, x_ty_tuple_tuple_str, x_ty_tuple_int_bool, x_ty_tuple_bool_int, x_ty_tuple_str_int, x_ty_tuple_int_str, x_ty_int_str, x_ty_int_tuple, x_ty_int_int, x_ty_int_bool, x_ty_int_list, x_ty_int_dict, x_ty_int_list_tuple, x_ty_int_tuple_list, x_ty_int_str_tuple, x_ty_int_tuple_str, x_ty_int_int_bool, x_ty_int_bool_int, x_ty_int_str_int, x_ty_int_int_str, x_ty_bool_str, x_ty_bool_tuple, x_ty_bool_int, x_ty_bool_bool, x_ty_bool_list, x_ty_bool_dict, x_ty_bool_list_tuple, x_ty_bool_tuple_list, x_ty_bool_str_tuple, x_ty_bool_tuple_str, x_ty_bool_int_bool, x_ty_bool_bool_int, x_ty_bool_str_int, x_ty_bool_int_str, x_ty_list_str, x_ty_list_tuple, x_ty_list_int, x_ty_list_bool, x_ty_list_list, x_ty_list_dict, x_ty_list_list_tuple, x_ty_list_tuple_list, x_ty_list_str_tuple, x_ty_list_tuple_str, x_ty_list_int_bool, x_ty_list_bool_int, x_ty_list_str_int, x_ty_list_int_str, x_ty_dict_str, x_ty_dict_tuple, x_ty_dict_int, x_ty_dict_bool, x_ty_dict_list, x_ty_dict_dict, x_ty_dict_list_tuple, x_ty_dict_tuple_list, x_ty_dict_str_tuple, x_ty_dict_tuple_str, x_ty_dict_int_bool, x_ty_dict_bool_int, x_ty_dict_str_int, x_ty_dict_int_str, x_puto, x_puto', List.map_cons, List.map_nil, List.length_cons, List.length_nil, List.cons_append, List.nil_append, List.replicate, Nat.sub_zero, Nat.sub_self, Nat.zero_add, Nat.reduceAdd, Nat.reduceSub, List.getElem?_cons_zero, List.getElem?_cons_succ, List.set_cons_zero, List.set_cons_succ, setF, wipeF, true_and, and_true, if_true, if_false, Bool.true_eq_false, Bool.false_eq_true, ite_true, ite_false, reduceIte, not_true_eq_false, not_false_eq_true, Bool.not_true, Bool.not_false, exists_eq_left', exists_const, ne_eq]
  refine ⟨⟨by split <;> omega, by split <;> omega⟩, ?_⟩
  refine loop_ok (fun xs φ S' => ∃ (o2 o3 o4 o5 o6 : Option D), φ = [some (.fls (iL ns)), some (.ref a), o2, o3, o4, o5, o6] ∧ Draw S' a l c) (fun _ _ _ _ => trivial) ?_ ?_ ⟨_, _, _, _, _, rfl, d1⟩
  · rintro φ S' ⟨o2, o3, o4, o5, o6, rfl, d2⟩
    try simp (maxSteps := 2000000) only [startF, wSs, wS, wE, wL, wO, wB, wI, x_add, x_adds, x_addl, x_addt, x_sub, x_mul, x_mult, x_mull, x_fdv, x_mod, x_pow, x_auga, x_augs, x_augm, x_eqi, x_eqs, x_eqb, x_nei, x_nes, x_neb, x_eqtt, x_eqrr, x_eqtr, x_eqrt, x_eqst, x_eqts, x_nett, x_nerr, x_netr, x_nert, x_nest, x_nets, x_lt, x_le, x_gt, x_ge, x_ins, x_isn, x_isnt, x_ixt, x_ixl, x_ixd, x_ixs, x_slt, x_sll, x_sls, x_std, x_stl, x_isin, x_isis, x_isit, x_isii, x_isib, x_lens, x_lent, x_lenf, x_lenl, x_inti, x_intb, x_abs, x_max2, x_min2, x_maxl, x_minl, x_mxd, x_tupl, x_tupt, x_lisl, x_list, x_liss, x_all, x_any, x_sum, x_repr, x_app, x_ext, x_pop, x_popa, x_join, x_rcva, x_rcve, x_rcvp, x_rcvq, x_rcvj, x_srct, x_srcf, x_srcs, x_srcl, x_seqt, x_seql, x_enu, x_enut, x_zipl, x_zipt, x_rng1, x_rng2, x_tg1, x_tgt, x_tgl, x_var, x_put, x_ex, x_exv, x_exl, x_exl0, x_exd, x_exb, x_exi, x_dec, x_decf, x_ndec, x_ndecf, x_ty_str_str, x_ty_str_tuple, x_ty_str_int, x_ty_str_bool, x_ty_str_list, x_ty_str_dict, x_ty_str_list_tuple, x_ty_str_tuple_list, x_ty_str_str_tuple, x_ty_str_tuple_str, x_ty_str_int_bool, x_ty_str_bool_int, x_ty_str_str_int, x_ty_str_int_str, x_ty_tuple_str, x_ty_tuple_tuple, x_ty_tuple_int, x_ty_tuple_bool, x_ty_tuple_list, x_ty_tuple_dict, x_ty_tuple_list_tuple, x_ty_tuple_tuple_list, x_ty_tuple_str_tuple, x_ty_tuple_tuple_str, x_ty_tuple_int_bool, x_ty_tuple_bool_int, x_ty_tuple_str_int, x_ty_tuple_int_str, x_ty_int_str, x_ty_int_tuple, x_ty_int_int, x_ty_int_bool, x_ty_int_list, x_ty_int_dict, x_ty_int_list_tuple, x_ty_int_tuple_list, x_ty_int_str_tuple, x_ty_int_tuple_str, x_ty_int_int_bool, x_ty_int_bool_int, x_ty_int_str_int, x_ty_int_int_str, x_ty_bool_str, x_ty_bool_tuple, x_ty_bool_int, x_ty_bool_bool, x_ty_bool_list, x_ty_bool_dict, x_ty_bool_list_tuple, x_ty_bool_tuple_list, x_ty_bool_str_tuple, x_ty_bool_tuple_str, x_ty_bool_int_bool, x_ty_bool_bool_int, x_ty_bool_str_int, x_ty_bool_int_str, x_ty_list_str, x_ty_list_tuple, x_ty_list_int, x_ty_list_bool, x_ty_list_list, x_ty_list_dict, x_ty_list_list_tuple, x_ty_list_tuple_list, x_ty_list_str_tuple, x_ty_list_tuple_str, x_ty_list_int_bool, x_ty_list_bool_int, x_ty_list_str_int, x_ty_list_int_str, x_ty_dict_str, x_ty_dict_tuple, x_ty_dict_int, x_ty_dict_bool, x_ty_dict_list, x_ty_dict_dict, x_ty_dict_list_tuple, x_ty_dict_tuple_list, x_ty_dict_str_tuple, x_ty_dict_tuple_str, x_ty_dict_int_bool, x_ty_dict_bool_int, x_ty_dict_str_int, x_ty_dict_int_str, x_puto, x_puto', List.map_cons, List.map_nil, List.length_cons, List.length_nil, List.cons_append, List.nil_append, List.replicate, Nat.sub_zero, Nat.sub_self, Nat.zero_add, Nat.reduceAdd, Nat.reduceSub, List.getElem?_cons_zero, List.getElem?_cons_succ, List.set_cons_zero, List.set_cons_succ, setF, wipeF, true_and, and_true, if_true, if_false, Bool.true_eq_false, Bool.false_eq_true, ite_true, ite_false, reduceIte, not_true_eq_false, not_false_eq_true, Bool.not_true, Bool.not_false, exists_eq_left', exists_const, ne_eq]
  · rintro z zs φ S' N ⟨o2, o3, o4, o5, o6, rfl, d2⟩ hN
    try simp (maxSteps := 2000000) only [startF, wSs, wS, wE, wL, wO, wB, wI, x_add, x_adds, x_addl, x_addt, x_sub, x_mul, x_mult, x_mull, x_fdv, x_mod, x_pow, x_auga, x_augs, x_augm, x_eqi, x_eqs, x_eqb, x_nei, x_nes, x_neb, x_eqtt, x_eqrr, x_eqtr, x_eqrt, x_eqst, x_eqts, x_nett, x_nerr, x_netr, x_nert, x_nest, x_nets, x_lt, x_le, x_gt, x_ge, x_ins, x_isn, x_isnt, x_ixt, x_ixl, x_ixd, x_ixs, x_slt, x_sll, x_sls, x_std, x_stl, x_isin, x_isis, x_isit, x_isii, x_isib, x_lens, x_lent, x_lenf, x_lenl, x_inti, x_intb, x_abs, x_max2, x_min2, x_maxl, x_minl, x_mxd, x_tupl, x_tupt, x_lisl, x_list, x_liss, x_all, x_any, x_sum, x_repr, x_app, x_ext, x_pop, x_popa, x_join, x_rcva, x_rcve, x_rcvp, x_rcvq, x_rcvj, x_srct, x_srcf, x_srcs, x_srcl, x_seqt, x_seql, x_enu, x_enut, x_zipl, x_zipt, x_rng1, x_rng2, x_tg1, x_tgt, x_tgl, x_var, x_put, x_ex, x_exv, x_exl, x_exl0, x_exd, x_exb, x_exi, x_dec, x_decf, x_ndec, x_ndecf, x_ty_str_str, x_ty_str_tuple, x_ty_str_int, x_ty_str_bool, x_ty_str_list, x_ty_str_dict, x_ty_str_list_tuple, x_ty_str_tuple_list, x_ty_str_str_tuple, x_ty_str_tuple_str, x_ty_str_int_bool, x_ty_str_bool_int, x_ty_str_str_int, x_ty_str_int_str, x_ty_tuple_str, x_ty_tuple_tuple, x_ty_tuple_int, x_ty_tuple_bool, x_ty_tuple_list, x_ty_tuple_dict, x_ty_tuple_list_tuple, x_ty_tuple_tuple_list, x_ty_tuple_str_tuple, x_ty_tuple_tuple_str, x_ty_tuple_int_bool, x_ty_tuple_bool_int, x_ty_tuple_str_int, x_ty_tuple_int_str, x_ty_int_str, x_ty_int_tuple, x_ty_int_int, x_ty_int_bool, x_ty_int_list, x_ty_int_dict, x_ty_int_list_tuple, x_ty_int_tuple_list, x_ty_int_str_tuple, x_ty_int_tuple_str, x_ty_int_int_bool, x_ty_int_bool_int, x_ty_int_str_int, x_ty_int_int_str, x_ty_bool_str, x_ty_bool_tuple, x_ty_bool_int, x_ty_bool_bool, x_ty_bool_list, x_ty_bool_dict, x_ty_bool_list_tuple, x_ty_bool_tuple_list, x_ty_bool_str_tuple, x_ty_bool_tuple_str, x_ty_bool_int_bool, x_ty_bool_bool_int, x_ty_bool_str_int, x_ty_bool_int_str, x_ty_list_str, x_ty_list_tuple, x_ty_list_int, x_ty_list_bool, x_ty_list_list, x_ty_list_dict, x_ty_list_list_tuple, x_ty_list_tuple_list, x_ty_list_str_tuple, x_ty_list_tuple_str, x_ty_list_int_bool, x_ty_list_bool_int, x_ty_list_str_int, x_ty_list_int_str, x_ty_dict_str, x_ty_dict_tuple, x_ty_dict_int, x_ty_dict_bool, x_ty_dict_list, x_ty_dict_dict, x_ty_dict_list_tuple, x_ty_dict_tuple_list, x_ty_dict_str_tuple, x_ty_dict_tuple_str, x_ty_dict_int_bool, x_ty_dict_bool_int, x_ty_dict_str_int, x_ty_dict_int_str, x_puto, x_puto', List.map_cons, List.map_nil, List.length_cons, List.length_nil, List.cons_append, List.nil_append, List.replicate, Nat.sub_zero, Nat.sub_self, Nat.zero_add, Nat.reduceAdd, Nat.reduceSub, List.getElem?_cons_zero, List.getElem?_cons_succ, List.set_cons_zero, List.set_cons_succ, setF, wipeF, true_and, and_true, if_true, if_false, Bool.true_eq_false, Bool.false_eq_true, ite_true, ite_false, reduceIte, not_true_eq_false, not_false_eq_true, Bool.not_true, Bool.not_false, exists_eq_left', exists_const, ne_eq]
    refine ⟨by omega, fun p0 h0 => ⟨by omega, fun p1 h1 => ⟨by omega, fun p2 h2 => ⟨by omega, fun p3 h3 => ⟨by omega, fun p4 h4 => ⟨by omega, fun q hq => ?_⟩⟩⟩⟩⟩⟩
    have nq := (((((d2.new h0).new h1).new h2).new h3).new h4).ne hq
    have n4 := ((((d2.new h0).new h1).new h2).new h3).ne h4
    have n3 := (((d2.new h0).new h1).new h2).ne h3
    have n2 := ((d2.new h0).new h1).ne h2
    have n1 := (d2.new h0).ne h1
    have n0 := d2.ne h0
    refine d_pick (by decide) ((((((d2.new h0).new h1).new h2).new h3).new h4).new hq) put_same nq.1 nq.2.1 (show 0 < 5 by decide) (show 5 < 1073741824 by decide) fun v S3 hv d3 k3 => ?_
    obtain ⟨p, x, y, z', rfl, hp, hx, hy, hz⟩ : ∃ p x y z', v = .ref p ∧ S3 p = some (.lst [.str x, .str y, .str z']) ∧ nameB x = true ∧ nameB y = true ∧ nameB z' = true := by
      simp only [List.mem_cons, List.not_mem_nil, or_false] at hv
      rcases hv with rfl | rfl | rfl | rfl | rfl
      · exact ⟨p0, _, _, _, rfl, k3.k _ _ ((Ext.new hq).k _ _ ((Ext.new h4).k _ _ ((Ext.new h3).k _ _ ((Ext.new h2).k _ _ ((Ext.new h1).k _ _ put_same))))) n0.1 n0.2.1, by decide, by decide, by decide⟩
      · exact ⟨p1, _, _, _, rfl, k3.k _ _ ((Ext.new hq).k _ _ ((Ext.new h4).k _ _ ((Ext.new h3).k _ _ ((Ext.new h2).k _ _ put_same)))) n1.1 n1.2.1, by decide, by decide, by decide⟩
      · exact ⟨p2, _, _, _, rfl, k3.k _ _ ((Ext.new hq).k _ _ ((Ext.new h4).k _ _ ((Ext.new h3).k _ _ put_same))) n2.1 n2.2.1, by decide, by decide, by decide⟩
      · exact ⟨p3, _, _, _, rfl, k3.k _ _ ((Ext.new hq).k _ _ ((Ext.new h4).k _ _ put_same)) n3.1 n3.2.1, by decide, by decide, by decide⟩
      · exact ⟨p4, _, _, _, rfl, k3.k _ _ ((Ext.new hq).k _ _ put_same) n4.1 n4.2.1, by decide, by decide, by decide⟩
    try simp (maxSteps := 2000000) only [startF, wSs, wS, wE, wL, wO, wB, wI, x_add, x_adds, x_addl, x_addt, x_sub, x_mul, x_mult, x_mull, x_fdv, x_mod, x_pow, x_auga, x_augs, x_augm, x_eqi, x_eqs, x_eqb, x_nei, x_nes, x_neb, x_eqtt, x_eqrr, x_eqtr, x_eqrt, x_eqst, x_eqts, x_nett, x_nerr, x_netr, x_nert, x_nest, x_nets, x_lt, x_le, x_gt, x_ge, x_ins, x_isn, x_isnt, x_ixt, x_ixl, x_ixd, x_ixs, x_slt, x_sll, x_sls, x_std, x_stl, x_isin, x_isis, x_isit, x_isii, x_isib, x_lens, x_lent, x_lenf, x_lenl, x_inti, x_intb, x_abs, x_max2, x_min2, x_maxl, x_minl, x_mxd, x_tupl, x_tupt, x_lisl, x_list, x_liss, x_all, x_any, x_sum, x_repr, x_app, x_ext, x_pop, x_popa, x_join, x_rcva, x_rcve, x_rcvp, x_rcvq, x_rcvj, x_srct, x_srcf, x_srcs, x_srcl, x_seqt, x_seql, x_enu, x_enut, x_zipl, x_zipt, x_rng1, x_rng2, x_tg1, x_tgt, x_tgl, x_var, x_put, x_ex, x_exv, x_exl, x_exl0, x_exd, x_exb, x_exi, x_dec, x_decf, x_ndec, x_ndecf, x_ty_str_str, x_ty_str_tuple, x_ty_str_int, x_ty_str_bool, x_ty_str_list, x_ty_str_dict, x_ty_str_list_tuple, x_ty_str_tuple_list, x_ty_str_str_tuple, x_ty_str_tuple_str, x_ty_str_int_bool, x_ty_str_bool_int, x_ty_str_str_int, x_ty_str_int_str, x_ty_tuple_str, x_ty_tuple_tuple, x_ty_tuple_int, x_ty_tuple_bool, x_ty_tuple_list, x_ty_tuple_dict, x_ty_tuple_list_tuple, x_ty_tuple_tuple_list, x_ty_tuple_str_tuple, x_ty_tuple_tuple_str, x_ty_tuple_int_bool, x_ty_tuple_bool_int, x_ty_tuple_str_int, x_ty_tuple_int_str, x_ty_int_str, x_ty_int_tuple, x_ty_int_int, x_ty_int_bool, x_ty_int_list, x_ty_int_dict, x_ty_int_list_tuple, x_ty_int_tuple_list, x_ty_int_str_tuple, x_ty_int_tuple_str, x_ty_int_int_bool, x_ty_int_bool_int, x_ty_int_str_int, x_ty_int_int_str, x_ty_bool_str, x_ty_bool_tuple, x_ty_bool_int, x_ty_bool_bool, x_ty_bool_list, x_ty_bool_dict, x_ty_bool_list_tuple, x_ty_bool_tuple_list, x_ty_bool_str_tuple, x_ty_bool_tuple_str, x_ty_bool_int_bool, x_ty_bool_bool_int, x_ty_bool_str_int, x_ty_bool_int_str, x_ty_list_str, x_ty_list_tuple, x_ty_list_int, x_ty_list_bool, x_ty_list_list, x_ty_list_dict, x_ty_list_list_tuple, x_ty_list_tuple_list, x_ty_list_str_tuple, x_ty_list_tuple_str, x_ty_list_int_bool, x_ty_list_bool_int, x_ty_list_str_int, x_ty_list_int_str, x_ty_dict_str, x_ty_dict_tuple, x_ty_dict_int, x_ty_dict_bool, x_ty_dict_list, x_ty_dict_dict, x_ty_dict_list_tuple, x_ty_dict_tuple_list, x_ty_dict_str_tuple, x_ty_dict_tuple_str, x_ty_dict_int_bool, x_ty_dict_bool_int, x_ty_dict_str_int, x_ty_dict_int_str, x_puto, x_puto', List.map_cons, List.map_nil, List.length_cons, List.length_nil, List.cons_append, List.nil_append, List.replicate, Nat.sub_zero, Nat.sub_self, Nat.zero_add, Nat.reduceAdd, Nat.reduceSub, List.getElem?_cons_zero, List.getElem?_cons_succ, List.set_cons_zero, List.set_cons_succ, setF, wipeF, true_and, and_true, if_true, if_false, Bool.true_eq_false, Bool.false_eq_true, ite_true, ite_false, reduceIte, not_true_eq_false, not_false_eq_true, Bool.not_true, Bool.not_false, exists_eq_left', exists_const, ne_eq]
    have hnm : ∀ w ∈ [x, y, z'], nameB w = true := by
      intro w hw
      simp only [List.mem_cons, List.not_mem_nil, or_false] at hw
      rcases hw with rfl | rfl | rfl <;> assumption
    refine d_shuffled (ns := [x, y, z']) (by decide) d3 hp (show 3 ≤ 1000 by decide) (fun w hw => nameB_ok (hnm w hw)) fun r ws S4 d4 k4 nr gr hl hm => ?_
    match ws, hl with
    | [u, v, w], _ =>
      have hu := hnm u (hm u (by simp))
      have hv := hnm v (hm v (by simp))
      have hw := hnm w (hm w (by simp))
      try simp (maxSteps := 2000000) only [startF, wSs, wS, wE, wL, wO, wB, wI, x_add, x_adds, x_addl, x_addt, x_sub, x_mul, x_mult, x_mull, x_fdv, x_mod, x_pow, x_auga, x_augs, x_augm, x_eqi, x_eqs, x_eqb, x_nei, x_nes, x_neb, x_eqtt, x_eqrr, x_eqtr, x_eqrt, x_eqst, x_eqts, x_nett, x_nerr, x_netr, x_nert, x_nest, x_nets, x_lt, x_le, x_gt, x_ge, x_ins, x_isn, x_isnt, x_ixt, x_ixl, x_ixd, x_ixs, x_slt, x_sll, x_sls, x_std, x_stl, x_isin, x_isis, x_isit, x_isii, x_isib, x_lens, x_lent, x_lenf, x_lenl, x_inti, x_intb, x_abs, x_max2, x_min2, x_maxl, x_minl, x_mxd, x_tupl, x_tupt, x_lisl, x_list, x_liss, x_all, x_any, x_sum, x_repr, x_app, x_ext, x_pop, x_popa, x_join, x_rcva, x_rcve, x_rcvp, x_rcvq, x_rcvj, x_srct, x_srcf, x_srcs, x_srcl, x_seqt, x_seql, x_enu, x_enut, x_zipl, x_zipt, x_rng1, x_rng2, x_tg1, x_tgt, x_tgl, x_var, x_put, x_ex, x_exv, x_exl, x_exl0, x_exd, x_exb, x_exi, x_dec, x_decf, x_ndec, x_ndecf, x_ty_str_str, x_ty_str_tuple, x_ty_str_int, x_ty_str_bool, x_ty_str_list, x_ty_str_dict, x_ty_str_list_tuple, x_ty_str_tuple_list, x_ty_str_str_tuple, x_ty_str_tuple_str, x_ty_str_int_bool, x_ty_str_bool_int, x_ty_str_str_int, x_ty_str_int_str, x_ty_tuple_str, x_ty_tuple_tuple, x_ty_tuple_int, x_ty_tuple_bool, x_ty_tuple_list, x_ty_tuple_dict, x_ty_tuple_list_tuple, x_ty_tuple_tuple_list, x_ty_tuple_str_tuple, x_ty_tuple_tuple_str, x_ty_tuple_int_bool, x_ty_tuple_bool_int, x_ty_tuple_str_int, x_ty_tuple_int_str, x_ty_int_str, x_ty_int_tuple, x_ty_int_int, x_ty_int_bool, x_ty_int_list, x_ty_int_dict, x_ty_int_list_tuple, x_ty_int_tuple_list, x_ty_int_str_tuple, x_ty_int_tuple_str, x_ty_int_int_bool, x_ty_int_bool_int, x_ty_int_str_int, x_ty_int_int_str, x_ty_bool_str, x_ty_bool_tuple, x_ty_bool_int, x_ty_bool_bool, x_ty_bool_list, x_ty_bool_dict, x_ty_bool_list_tuple, x_ty_bool_tuple_list, x_ty_bool_str_tuple, x_ty_bool_tuple_str, x_ty_bool_int_bool, x_ty_bool_bool_int, x_ty_bool_str_int, x_ty_bool_int_str, x_ty_list_str, x_ty_list_tuple, x_ty_list_int, x_ty_list_bool, x_ty_list_list, x_ty_list_dict, x_ty_list_list_tuple, x_ty_list_tuple_list, x_ty_list_str_tuple, x_ty_list_tuple_str, x_ty_list_int_bool, x_ty_list_bool_int, x_ty_list_str_int, x_ty_list_int_str, x_ty_dict_str, x_ty_dict_tuple, x_ty_dict_int, x_ty_dict_bool, x_ty_dict_list, x_ty_dict_dict, x_ty_dict_list_tuple, x_ty_dict_tuple_list, x_ty_dict_str_tuple, x_ty_dict_tuple_str, x_ty_dict_int_bool, x_ty_dict_bool_int, x_ty_dict_str_int, x_ty_dict_int_str, x_puto, x_puto', List.map_cons, List.map_nil, List.length_cons, List.length_nil, List.cons_append, List.nil_append, List.replicate, Nat.sub_zero, Nat.sub_self, Nat.zero_add, Nat.reduceAdd, Nat.reduceSub, List.getElem?_cons_zero, List.getElem?_cons_succ, List.set_cons_zero, List.set_cons_succ, setF, wipeF, true_and, and_true, if_true, if_false, Bool.true_eq_false, Bool.false_eq_true, ite_true, ite_false, reduceIte, not_true_eq_false, not_false_eq_true, Bool.not_true, Bool.not_false, exists_eq_left', exists_const, ne_eq, gr]
      refine d_numbers (by decide) d4 hu fun S5 d5 k5 => ?_
      try simp (maxSteps := 2000000) only [startF, wSs, wS, wE, wL, wO, wB, wI, x_add, x_adds, x_addl, x_addt, x_sub, x_mul, x_mult, x_mull, x_fdv, x_mod, x_pow, x_auga, x_augs, x_augm, x_eqi, x_eqs, x_eqb, x_nei, x_nes, x_neb, x_eqtt, x_eqrr, x_eqtr, x_eqrt, x_eqst, x_eqts, x_nett, x_nerr, x_netr, x_nert, x_nest, x_nets, x_lt, x_le, x_gt, x_ge, x_ins, x_isn, x_isnt, x_ixt, x_ixl, x_ixd, x_ixs, x_slt, x_sll, x_sls, x_std, x_stl, x_isin, x_isis, x_isit, x_isii, x_isib, x_lens, x_lent, x_lenf, x_lenl, x_inti, x_intb, x_abs, x_max2, x_min2, x_maxl, x_minl, x_mxd, x_tupl, x_tupt, x_lisl, x_list, x_liss, x_all, x_any, x_sum, x_repr, x_app, x_ext, x_pop, x_popa, x_join, x_rcva, x_rcve, x_rcvp, x_rcvq, x_rcvj, x_srct, x_srcf, x_srcs, x_srcl, x_seqt, x_seql, x_enu, x_enut, x_zipl, x_zipt, x_rng1, x_rng2, x_tg1, x_tgt, x_tgl, x_var, x_put, x_ex, x_exv, x_exl, x_exl0, x_exd, x_exb, x_exi, x_dec, x_decf, x_ndec, x_ndecf, x_ty_str_str, x_ty_str_tuple, x_ty_str_int, x_ty_str_bool, x_ty_str_list, x_ty_str_dict, x_ty_str_list_tuple, x_ty_str_tuple_list, x_ty_str_str_tuple, x_ty_str_tuple_str, x_ty_str_int_bool, x_ty_str_bool_int, x_ty_str_str_int, x_ty_str_int_str, x_ty_tuple_str, x_ty_tuple_tuple, x_ty_tuple_int, x_ty_tuple_bool, x_ty_tuple_list, x_ty_tuple_dict, x_ty_tuple_list_tuple, x_ty_tuple_tuple_list, x_ty_tuple_str_tuple, x_ty_tuple_tuple_str, x_ty_tuple_int_bool, x_ty_tuple_bool_int, x_ty_tuple_str_int, x_ty_tuple_int_str, x_ty_int_str, x_ty_int_tuple, x_ty_int_int, x_ty_int_bool, x_ty_int_list, x_ty_int_dict, x_ty_int_list_tuple, x_ty_int_tuple_list, x_ty_int_str_tuple, x_ty_int_tuple_str, x_ty_int_int_bool, x_ty_int_bool_int, x_ty_int_str_int, x_ty_int_int_str, x_ty_bool_str, x_ty_bool_tuple, x_ty_bool_int, x_ty_bool_bool, x_ty_bool_list, x_ty_bool_dict, x_ty_bool_list_tuple, x_ty_bool_tuple_list, x_ty_bool_str_tuple, x_ty_bool_tuple_str, x_ty_bool_int_bool, x_ty_bool_bool_int, x_ty_bool_str_int, x_ty_bool_int_str, x_ty_list_str, x_ty_list_tuple, x_ty_list_int, x_ty_list_bool, x_ty_list_list, x_ty_list_dict, x_ty_list_list_tuple, x_ty_list_tuple_list, x_ty_list_str_tuple, x_ty_list_tuple_str, x_ty_list_int_bool, x_ty_list_bool_int, x_ty_list_str_int, x_ty_list_int_str, x_ty_dict_str, x_ty_dict_tuple, x_ty_dict_int, x_ty_dict_bool, x_ty_dict_list, x_ty_dict_dict, x_ty_dict_list_tuple, x_ty_dict_tuple_list, x_ty_dict_str_tuple, x_ty_dict_tuple_str, x_ty_dict_int_bool, x_ty_dict_bool_int, x_ty_dict_str_int, x_ty_dict_int_str, x_puto, x_puto', List.map_cons, List.map_nil, List.length_cons, List.length_nil, List.cons_append, List.nil_append, List.replicate, Nat.sub_zero, Nat.sub_self, Nat.zero_add, Nat.reduceAdd, Nat.reduceSub, List.getElem?_cons_zero, List.getElem?_cons_succ, List.set_cons_zero, List.set_cons_succ, setF, wipeF, true_and, and_true, if_true, if_false, Bool.true_eq_false, Bool.false_eq_true, ite_true, ite_false, reduceIte, not_true_eq_false, not_false_eq_true, Bool.not_true, Bool.not_false, exists_eq_left', exists_const, ne_eq]
      refine d_handed (by decide) hu hv hw fun S6 e6 => ?_
      try simp (maxSteps := 2000000) only [startF, wSs, wS, wE, wL, wO, wB, wI, x_add, x_adds, x_addl, x_addt, x_sub, x_mul, x_mult, x_mull, x_fdv, x_mod, x_pow, x_auga, x_augs, x_augm, x_eqi, x_eqs, x_eqb, x_nei, x_nes, x_neb, x_eqtt, x_eqrr, x_eqtr, x_eqrt, x_eqst, x_eqts, x_nett, x_nerr, x_netr, x_nert, x_nest, x_nets, x_lt, x_le, x_gt, x_ge, x_ins, x_isn, x_isnt, x_ixt, x_ixl, x_ixd, x_ixs, x_slt, x_sll, x_sls, x_std, x_stl, x_isin, x_isis, x_isit, x_isii, x_isib, x_lens, x_lent, x_lenf, x_lenl, x_inti, x_intb, x_abs, x_max2, x_min2, x_maxl, x_minl, x_mxd, x_tupl, x_tupt, x_lisl, x_list, x_liss, x_all, x_any, x_sum, x_repr, x_app, x_ext, x_pop, x_popa, x_join, x_rcva, x_rcve, x_rcvp, x_rcvq, x_rcvj, x_srct, x_srcf, x_srcs, x_srcl, x_seqt, x_seql, x_enu, x_enut, x_zipl, x_zipt, x_rng1, x_rng2, x_tg1, x_tgt, x_tgl, x_var, x_put, x_ex, x_exv, x_exl, x_exl0, x_exd, x_exb, x_exi, x_dec, x_decf, x_ndec, x_ndecf, x_ty_str_str, x_ty_str_tuple, x_ty_str_int, x_ty_str_bool, x_ty_str_list, x_ty_str_dict, x_ty_str_list_tuple, x_ty_str_tuple_list, x_ty_str_str_tuple, x_ty_str_tuple_str, x_ty_str_int_bool, x_ty_str_bool_int, x_ty_str_str_int, x_ty_str_int_str, x_ty_tuple_str, x_ty_tuple_tuple, x_ty_tuple_int, x_ty_tuple_bool, x_ty_tuple_list, x_ty_tuple_dict, x_ty_tuple_list_tuple, x_ty_tuple_tuple_list, x_ty_tuple_str_tuple, x_ty_tuple_tuple_str, x_ty_tuple_int_bool, x_ty_tuple_bool_int, x_ty_tuple_str_int, x_ty_tuple_int_str, x_ty_int_str, x_ty_int_tuple, x_ty_int_int, x_ty_int_bool, x_ty_int_list, x_ty_int_dict, x_ty_int_list_tuple, x_ty_int_tuple_list, x_ty_int_str_tuple, x_ty_int_tuple_str, x_ty_int_int_bool, x_ty_int_bool_int, x_ty_int_str_int, x_ty_int_int_str, x_ty_bool_str, x_ty_bool_tuple, x_ty_bool_int, x_ty_bool_bool, x_ty_bool_list, x_ty_bool_dict, x_ty_bool_list_tuple, x_ty_bool_tuple_list, x_ty_bool_str_tuple, x_ty_bool_tuple_str, x_ty_bool_int_bool, x_ty_bool_bool_int, x_ty_bool_str_int, x_ty_bool_int_str, x_ty_list_str, x_ty_list_tuple, x_ty_list_int, x_ty_list_bool, x_ty_list_list, x_ty_list_dict, x_ty_list_list_tuple, x_ty_list_tuple_list, x_ty_list_str_tuple, x_ty_list_tuple_str, x_ty_list_int_bool, x_ty_list_bool_int, x_ty_list_str_int, x_ty_list_int_str, x_ty_dict_str, x_ty_dict_tuple, x_ty_dict_int, x_ty_dict_bool, x_ty_dict_list, x_ty_dict_dict, x_ty_dict_list_tuple, x_ty_dict_tuple_list, x_ty_dict_str_tuple, x_ty_dict_tuple_str, x_ty_dict_int_bool, x_ty_dict_bool_int, x_ty_dict_str_int, x_ty_dict_int_str, x_puto, x_puto', List.map_cons, List.map_nil, List.length_cons, List.length_nil, List.cons_append, List.nil_append, List.replicate, Nat.sub_zero, Nat.sub_self, Nat.zero_add, Nat.reduceAdd, Nat.reduceSub, List.getElem?_cons_zero, List.getElem?_cons_succ, List.set_cons_zero, List.set_cons_succ, setF, wipeF, true_and, and_true, if_true, if_false, Bool.true_eq_false, Bool.false_eq_true, ite_true, ite_false, reduceIte, not_true_eq_false, not_false_eq_true, Bool.not_true, Bool.not_false, exists_eq_left', exists_const, ne_eq]
      refine d_choices (by decide) hu hv fun S7 e7 => ?_
      try simp (maxSteps := 2000000) only [startF, wSs, wS, wE, wL, wO, wB, wI, x_add, x_adds, x_addl, x_addt, x_sub, x_mul, x_mult, x_mull, x_fdv, x_mod, x_pow, x_auga, x_augs, x_augm, x_eqi, x_eqs, x_eqb, x_nei, x_nes, x_neb, x_eqtt, x_eqrr, x_eqtr, x_eqrt, x_eqst, x_eqts, x_nett, x_nerr, x_netr, x_nert, x_nest, x_nets, x_lt, x_le, x_gt, x_ge, x_ins, x_isn, x_isnt, x_ixt, x_ixl, x_ixd, x_ixs, x_slt, x_sll, x_sls, x_std, x_stl, x_isin, x_isis, x_isit, x_isii, x_isib, x_lens, x_lent, x_lenf, x_lenl, x_inti, x_intb, x_abs, x_max2, x_min2, x_maxl, x_minl, x_mxd, x_tupl, x_tupt, x_lisl, x_list, x_liss, x_all, x_any, x_sum, x_repr, x_app, x_ext, x_pop, x_popa, x_join, x_rcva, x_rcve, x_rcvp, x_rcvq, x_rcvj, x_srct, x_srcf, x_srcs, x_srcl, x_seqt, x_seql, x_enu, x_enut, x_zipl, x_zipt, x_rng1, x_rng2, x_tg1, x_tgt, x_tgl, x_var, x_put, x_ex, x_exv, x_exl, x_exl0, x_exd, x_exb, x_exi, x_dec, x_decf, x_ndec, x_ndecf, x_ty_str_str, x_ty_str_tuple, x_ty_str_int, x_ty_str_bool, x_ty_str_list, x_ty_str_dict, x_ty_str_list_tuple, x_ty_str_tuple_list, x_ty_str_str_tuple, x_ty_str_tuple_str, x_ty_str_int_bool, x_ty_str_bool_int, x_ty_str_str_int, x_ty_str_int_str, x_ty_tuple_str, x_ty_tuple_tuple, x_ty_tuple_int, x_ty_tuple_bool, x_ty_tuple_list, x_ty_tuple_dict, x_ty_tuple_list_tuple, x_ty_tuple_tuple_list, x_ty_tuple_str_tuple, x_ty_tuple_tuple_str, x_ty_tuple_int_bool, x_ty_tuple_bool_int, x_ty_tuple_str_int, x_ty_tuple_int_str, x_ty_int_str, x_ty_int_tuple, x_ty_int_int, x_ty_int_bool, x_ty_int_list, x_ty_int_dict, x_ty_int_list_tuple, x_ty_int_tuple_list, x_ty_int_str_tuple, x_ty_int_tuple_str, x_ty_int_int_bool, x_ty_int_bool_int, x_ty_int_str_int, x_ty_int_int_str, x_ty_bool_str, x_ty_bool_tuple, x_ty_bool_int, x_ty_bool_bool, x_ty_bool_list, x_ty_bool_dict, x_ty_bool_list_tuple, x_ty_bool_tuple_list, x_ty_bool_str_tuple, x_ty_bool_tuple_str, x_ty_bool_int_bool, x_ty_bool_bool_int, x_ty_bool_str_int, x_ty_bool_int_str, x_ty_list_str, x_ty_list_tuple, x_ty_list_int, x_ty_list_bool, x_ty_list_list, x_ty_list_dict, x_ty_list_list_tuple, x_ty_list_tuple_list, x_ty_list_str_tuple, x_ty_list_tuple_str, x_ty_list_int_bool, x_ty_list_bool_int, x_ty_list_str_int, x_ty_list_int_str, x_ty_dict_str, x_ty_dict_tuple, x_ty_dict_int, x_ty_dict_bool, x_ty_dict_list, x_ty_dict_dict, x_ty_dict_list_tuple, x_ty_dict_tuple_list, x_ty_dict_str_tuple, x_ty_dict_tuple_str, x_ty_dict_int_bool, x_ty_dict_bool_int, x_ty_dict_str_int, x_ty_dict_int_str, x_puto, x_puto', List.map_cons, List.map_nil, List.length_cons, List.length_nil, List.cons_append, List.nil_append, List.replicate, Nat.sub_zero, Nat.sub_self, Nat.zero_add, Nat.reduceAdd, Nat.reduceSub, List.getElem?_cons_zero, List.getElem?_cons_succ, List.set_cons_zero, List.set_cons_succ, setF, wipeF, true_and, and_true, if_true, if_false, Bool.true_eq_false, Bool.false_eq_true, ite_true, ite_false, reduceIte, not_true_eq_false, not_false_eq_true, Bool.not_true, Bool.not_false, exists_eq_left', exists_const, ne_eq]
      refine d_sides_right (by decide) hu hv hw fun S8 e8 => ?_
      try simp (maxSteps := 2000000) only [startF, wSs, wS, wE, wL, wO, wB, wI, x_add, x_adds, x_addl, x_addt, x_sub, x_mul, x_mult, x_mull, x_fdv, x_mod, x_pow, x_auga, x_augs, x_augm, x_eqi, x_eqs, x_eqb, x_nei, x_nes, x_neb, x_eqtt, x_eqrr, x_eqtr, x_eqrt, x_eqst, x_eqts, x_nett, x_nerr, x_netr, x_nert, x_nest, x_nets, x_lt, x_le, x_gt, x_ge, x_ins, x_isn, x_isnt, x_ixt, x_ixl, x_ixd, x_ixs, x_slt, x_sll, x_sls, x_std, x_stl, x_isin, x_isis, x_isit, x_isii, x_isib, x_lens, x_lent, x_lenf, x_lenl, x_inti, x_intb, x_abs, x_max2, x_min2, x_maxl, x_minl, x_mxd, x_tupl, x_tupt, x_lisl, x_list, x_liss, x_all, x_any, x_sum, x_repr, x_app, x_ext, x_pop, x_popa, x_join, x_rcva, x_rcve, x_rcvp, x_rcvq, x_rcvj, x_srct, x_srcf, x_srcs, x_srcl, x_seqt, x_seql, x_enu, x_enut, x_zipl, x_zipt, x_rng1, x_rng2, x_tg1, x_tgt, x_tgl, x_var, x_put, x_ex, x_exv, x_exl, x_exl0, x_exd, x_exb, x_exi, x_dec, x_decf, x_ndec, x_ndecf, x_ty_str_str, x_ty_str_tuple, x_ty_str_int, x_ty_str_bool, x_ty_str_list, x_ty_str_dict, x_ty_str_list_tuple, x_ty_str_tuple_list, x_ty_str_str_tuple, x_ty_str_tuple_str, x_ty_str_int_bool, x_ty_str_bool_int, x_ty_str_str_int, x_ty_str_int_str, x_ty_tuple_str, x_ty_tuple_tuple, x_ty_tuple_int, x_ty_tuple_bool, x_ty_tuple_list, x_ty_tuple_dict, x_ty_tuple_list_tuple, x_ty_tuple_tuple_list, x_ty_tuple_str_tuple, x_ty_tuple_tuple_str, x_ty_tuple_int_bool, x_ty_tuple_bool_int, x_ty_tuple_str_int, x_ty_tuple_int_str, x_ty_int_str, x_ty_int_tuple, x_ty_int_int, x_ty_int_bool, x_ty_int_list, x_ty_int_dict, x_ty_int_list_tuple, x_ty_int_tuple_list, x_ty_int_str_tuple, x_ty_int_tuple_str, x_ty_int_int_bool, x_ty_int_bool_int, x_ty_int_str_int, x_ty_int_int_str, x_ty_bool_str, x_ty_bool_tuple, x_ty_bool_int, x_ty_bool_bool, x_ty_bool_list, x_ty_bool_dict, x_ty_bool_list_tuple, x_ty_bool_tuple_list, x_ty_bool_str_tuple, x_ty_bool_tuple_str, x_ty_bool_int_bool, x_ty_bool_bool_int, x_ty_bool_str_int, x_ty_bool_int_str, x_ty_list_str, x_ty_list_tuple, x_ty_list_int, x_ty_list_bool, x_ty_list_list, x_ty_list_dict, x_ty_list_list_tuple, x_ty_list_tuple_list, x_ty_list_str_tuple, x_ty_list_tuple_str, x_ty_list_int_bool, x_ty_list_bool_int, x_ty_list_str_int, x_ty_list_int_str, x_ty_dict_str, x_ty_dict_tuple, x_ty_dict_int, x_ty_dict_bool, x_ty_dict_list, x_ty_dict_dict, x_ty_dict_list_tuple, x_ty_dict_tuple_list, x_ty_dict_str_tuple, x_ty_dict_tuple_str, x_ty_dict_int_bool, x_ty_dict_bool_int, x_ty_dict_str_int, x_ty_dict_int_str, x_puto, x_puto', List.map_cons, List.map_nil, List.length_cons, List.length_nil, List.cons_append, List.nil_append, List.replicate, Nat.sub_zero, Nat.sub_self, Nat.zero_add, Nat.reduceAdd, Nat.reduceSub, List.getElem?_cons_zero, List.getElem?_cons_succ, List.set_cons_zero, List.set_cons_succ, setF, wipeF, true_and, and_true, if_true, if_false, Bool.true_eq_false, Bool.false_eq_true, ite_true, ite_false, reduceIte, not_true_eq_false, not_false_eq_true, Bool.not_true, Bool.not_false, exists_eq_left', exists_const, ne_eq]
      exact hN _ _ ⟨_, _, _, _, _, rfl, ((e6.trans e7).trans e8).draw d5⟩

end PiLaw
namespace PiLaw
open PySem PySem.Spec PyProof.Rows L2 Pi
def names : List PySem.Str := (["KindError", "BadKind", "BadProgram", "BadPath", "LETTERS", "LONGEST", "MOST_ITEMS", "MOST_DEEP", "MOST_PLACES", "is_number", "is_name", "has_form", "inner_params", "inner_end", "inner_names", "is_kind", "need_kind", "hand_below", "is_head", "is_term", "is_inner_program", "is_program", "need_program", "terms_in", "size_of"] : List PySem.Str) ++ (["deep_in", "depth_of", "paths_in", "paths", "is_row", "found_at", "need_path", "hand_at", "_law_begun", "_law_mixed", "_law_take", "_law_pick", "_law_shuffled", "_law_repeated", "_law_numbers_right", "_law_handed_right", "_law_sides_right", "_law_choices_right"] : List PySem.Str)
def fa : List He.Fa := ([.glo "is_number", .glo "is_name", .glo "has_form", .glo "inner_params", .glo "inner_end", .glo "inner_names", .glo "is_kind", .glo "need_kind", .glo "hand_below", .glo "is_head", .glo "is_term", .glo "is_inner_program", .glo "is_program", .glo "need_program", .glo "terms_in", .glo "size_of", .glo "deep_in", .glo "depth_of", .glo "paths_in", .glo "paths", .glo "is_row", .glo "found_at", .glo "need_path", .glo "hand_at", .glo "_law_begun"] : List He.Fa) ++ ([.glo "_law_mixed", .glo "_law_take", .glo "_law_pick", .glo "_law_shuffled", .glo "_law_repeated", .glo "_law_numbers_right", .glo "_law_handed_right", .glo "_law_sides_right", .glo "_law_choices_right", .glo "law", .free "ValueError", .free "isinstance", .free "str", .free "tuple", .free "zip", .free "enumerate", .free "range", .free "int", .free "all", .free "sum", .free "max", .free "list", .free "bool", .free "len", .free "abs"] : List He.Fa) ++ ([.free "min", .str "LETTERS" "abcdefghijklmnopqrstuvwxyz", .int "LONGEST" 3, .int "MOST_ITEMS" 8, .int "MOST_DEEP" 4, .int "MOST_PLACES" 14, .glo "BadKind", .exc "BadKind", .glo "BadProgram", .exc "BadProgram", .glo "BadPath", .exc "BadPath"] : List He.Fa)
def fn : List He.DefD := ([mkD "is_number" 11, mkD "is_name" 12, mkD "has_form" 13, mkD "inner_params" 14, mkD "inner_end" 15, mkD "inner_names" 16, mkD "is_kind" 17, mkD "need_kind" 18, mkD "hand_below" 20, mkD "is_head" 21, mkD "is_term" 22, mkD "is_inner_program" 23, mkD "is_program" 24, mkD "need_program" 25, mkD "terms_in" 26, mkD "size_of" 27, mkD "deep_in" 28, mkD "depth_of" 29, mkD "paths_in" 30, mkD "paths" 31, mkD "is_row" 32, mkD "found_at" 33, mkD "need_path" 34, mkD "hand_at" 35, mkD "_law_begun" 37] : List He.DefD) ++ ([mkD "_law_mixed" 38, mkD "_law_take" 39, mkD "_law_pick" 40, mkD "_law_shuffled" 41, mkD "_law_repeated" 42, mkD "_law_numbers_right" 43, mkD "_law_handed_right" 44, mkD "_law_sides_right" 45, mkD "_law_choices_right" 46, mkD "law" 47] : List He.DefD)
abbrev R : PySem.W.OpenRow := PySem.W.OpenLaw.row PySem.Challenge.rw_typetells_k10_known_programs
abbrev hk : PySem.W.Hook := He.hookD 4 fa fn
def ob (s : PySem.W.SharedT) : He.AlD := He.obsDG 4 fa fn (HandSHeadRun.getT s)
theorem ob_eq (s : PySem.W.SharedT) : ob s = hk.obs s.abs := He.obsDG_eq (HandSHeadRun.getT_eq s)
theorem run (w : World) : HandSHeadRun.RunEq R (PySem.W.view R.prog [47]) hk ob 2000 names w := by
  intro os
  kernel_rfl
theorem heads : headB fa sc defs kws = true := by kernel_rfl
end PiLaw
open PySem PySem.W PySem.Calls PyProof.Rows
theorem PySem.Challenge.cw_typetells_k10_known_programs_holds : PySem.Challenge.rw_typetells_k10_known_programs.Holds := by
  w_on; o_law
  refine HandSHeadRun.head_any (r := OpenLaw.row PySem.Challenge.rw_typetells_k10_known_programs) (q := view (OpenLaw.row PySem.Challenge.rw_typetells_k10_known_programs).prog [47]) (H := PiLaw.hk) (ob := PiLaw.ob) (M := 2000) (loose := PiLaw.names) (d := HandSHeadRun.topDef (OpenLaw.row PySem.Challenge.rw_typetells_k10_known_programs).prog 47) (kwd := []) PiLaw.ob_eq
    (by kernel_rfl) (fun s => by kernel_rfl) PiLaw.run (by kernel_rfl) (by kernel_rfl) (by kernel_rfl) (by rfl) (by first | assumption | decide +kernel) (by decide +kernel) ⟨rfl, rfl, rfl, rfl, rfl, by decide +kernel⟩ ?hw ?hc
  case hw => w_witness2
  case hc =>
    refine Pi.law_end (l := PySem.Challenge.rw_typetells_k10_known_programs) (n := 63) (k := 200) (x := "_law_script") rfl (by decide) (by kernel_rfl) ⟨rfl, by decide, by decide⟩ PiLaw.sc PiLaw.defs PiLaw.x_law PiLaw.law_in (by kernel_rfl) rfl (by kernel_rfl) PiLaw.oks
      (fun w mg h Y G => ?_) ?_
    · obtain ⟨K, KX, c⟩ := Y
      exact ⟨K, KX, Pi.facts_of KX G c rfl rfl rfl PiLaw.heads PiLaw.bnds rfl⟩
    · exact PiLaw.pure_law
