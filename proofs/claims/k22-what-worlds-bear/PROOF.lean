import PyProof.Rows.All
import Wide.All
import OpenK.AllK
import Wide.FinOn
import HandS.ForMost
import HandS.IsInst
import HandS.Deep
import HandS.Wide
import HandS.Style
import HandS.TupAny
import HandS.TupMul
import HandS.Zip
import HandS.Rev
import HandS.Conv
import HandS.Exc
import HandS.ExcOwn
import HandS.WordsExc
import KE.KeyNested
import KE.SortData
import KE.SortKeyHeap
import HandS.Lambda
import HandS.ExcIs
import HandS.TryOnly
import HandS.CallLocal
import PyProof.DictIter
import HandS.HeadHook4
import KE.KDictCopyH
import KE.DataCmp
import HandS.Star
import HandS.Defaults
import KE.GoesMore
import HandS.SortKw
import KE.DatumOrd
import HandS.DictComp
import HandS.Keys
import HandS.Strs
import HandS.SetFor
import KE.KDictZip
import HandS.HeadHook1
import HandS.HeadHook2
import HandS.Ends
import HandS.HeadHook3
import HandS.Head0
import HandS.Head1
import HandS.Head2
import KE.KStateDown
import HandS.HeadEnd
import PySem.Challenge.RW_typetells_k22_what_worlds_bear
set_option Elab.async false
set_option linter.all false
set_option maxRecDepth 100000
set_option maxHeartbeats 0
namespace PiLaw
open PySem PySem.Spec PyProof.Rows L2
def top (i : Nat) : Stmt := PySem.Challenge.pw_typetells_k22_what_worlds_bear.main.body.getD i (.Pass ⟨0, 0, 0, 0⟩)
def mkD (x : Str) (i : Nat) : He.DefD := ⟨(x, none), x, x, defArgs (top i), defBody (top i), defScope (top i), [], []⟩
def names : List PySem.Str := (["KindError", "BadKind", "BadModel", "BadWorld", "LETTERS", "LONGEST", "MOST_ITEMS", "MOST_DEEP", "MOST_PLACES", "is_number", "is_list", "is_name", "has_form", "inner_params", "inner_end", "inner_names", "is_kind", "need_kind", "MOST_WORLDS", "is_rising", "is_above", "is_held", "goes_up", "is_model", "need_model"] : List PySem.Str) ++ (["bearing", "bears", "refutes", "_law_begun", "_law_mixed", "_law_take", "_law_pick", "_law_shuffled", "_law_word", "_law_words", "_law_params", "_law_end", "_law_places", "_law_loose", "_law_order", "_law_house", "_law_bears"] : List PySem.Str)
def fa : List He.Fa := ([.glo "is_number", .glo "is_list", .glo "is_name", .glo "has_form", .glo "inner_params", .glo "inner_end", .glo "inner_names", .glo "is_kind", .glo "need_kind", .glo "is_rising", .glo "is_above", .glo "is_held", .glo "goes_up", .glo "is_model", .glo "need_model", .glo "bearing", .glo "bears", .glo "refutes", .glo "_law_begun", .glo "_law_mixed", .glo "_law_take", .glo "_law_pick", .glo "_law_shuffled", .glo "_law_word", .glo "_law_words"] : List He.Fa) ++ ([.glo "_law_params", .glo "_law_end", .glo "_law_places", .glo "_law_loose", .glo "_law_order", .glo "_law_house", .glo "_law_bears", .glo "law", .free "ValueError", .free "isinstance", .free "str", .free "tuple", .free "all", .free "len", .free "range", .free "int", .free "list", .free "max", .free "repr", .free "bool", .free "abs", .free "sorted", .free "min", .free "zip", .free "set"] : List He.Fa) ++ ([.free "enumerate", .str "LETTERS" "abcdefghijklmnopqrstuvwxyz", .int "LONGEST" 3, .int "MOST_ITEMS" 8, .int "MOST_DEEP" 4, .int "MOST_PLACES" 14, .int "MOST_WORLDS" 100, .glo "BadKind", .exc "BadKind", .glo "BadModel", .exc "BadModel", .glo "BadWorld", .exc "BadWorld"] : List He.Fa)
def more : List He.DefD := []
def fn : List He.DefD := (([mkD "is_number" 11, mkD "is_list" 12, mkD "is_name" 13, mkD "has_form" 14, mkD "inner_params" 15, mkD "inner_end" 16, mkD "inner_names" 17, mkD "is_kind" 18, mkD "need_kind" 19, mkD "is_rising" 22, mkD "is_above" 23, mkD "is_held" 24, mkD "goes_up" 25, mkD "is_model" 26, mkD "need_model" 27, mkD "bearing" 28, mkD "bears" 29, mkD "refutes" 30, mkD "_law_begun" 32, mkD "_law_mixed" 33, mkD "_law_take" 34, mkD "_law_pick" 35, mkD "_law_shuffled" 36, mkD "_law_word" 37, mkD "_law_words" 38] : List He.DefD) ++ ([mkD "_law_params" 39, mkD "_law_end" 40, mkD "_law_places" 41, mkD "_law_loose" 42, mkD "_law_order" 43, mkD "_law_house" 44, mkD "_law_bears" 45, mkD "law" 46] : List He.DefD)) ++ more
abbrev R : PySem.W.OpenRow := PySem.W.OpenLaw.row PySem.Challenge.rw_typetells_k22_what_worlds_bear
abbrev hk : PySem.W.Hook := He.hookD 4 fa fn
def ob (s : PySem.W.SharedT) : He.AlD := He.obsDG 4 fa fn (HandSHeadRun.getT s)
theorem ob_eq (s : PySem.W.SharedT) : ob s = hk.obs s.abs := He.obsDG_eq (HandSHeadRun.getT_eq s)
section
open PySem PySem.W PySem.Calls PyProof.Rows
noncomputable abbrev endR (w : World) (os : OsState) : Option SharedT := HandSHeadRun.endF (HandSHeadRun.stepQ (HandSHeadRun.denQ HandSHeadRun.tabQ) R.prog w) 4000 R.prog w os
theorem run_c (w : World) (os : OsState) : (endR w os).map (fun s => ob s) = some (hk.val w) := by
  kernel_rfl
theorem run_a (w : World) (os : OsState) : (endR w os).map (fun s => HandSHeadRun.looksF R.prog (boot_heap w.params) s.abs) = some true := by
  kernel_rfl
theorem run_b (w : World) (os : OsState) : (endR w os).map (fun s => HandSHeadRun.seenQ (PySem.W.view R.prog [46]) names (importedModules R.prog.main.body) (fun s => xlAt (PySem.W.view R.prog [46]) [] s && recOk R.toRowW.records s) s.abs) = some (openGood (PySem.W.view R.prog [46]) names) := by
  kernel_rfl
theorem map3 {α β γ δ : Type} {o : Option α} {f : α → β} {g : α → γ} {h : α → δ} {a : β} {b : γ} {c : δ} (h1 : o.map f = some a) (h2 : o.map g = some b) (h3 : o.map h = some c) : o.map (fun s => (f s, g s, h s)) = some (a, b, c) := by
  cases o with
  | none => cases h1
  | some s =>
    injection h1 with h1
    injection h2 with h2
    injection h3 with h3
    rw [← h1, ← h2, ← h3]
    rfl
theorem run (w : World) : HandSHeadRun.RunEq R (PySem.W.view R.prog [46]) hk ob 4000 names w := fun os => map3 (run_a w os) (run_b w os) (run_c w os)
end
end PiLaw
/-! PiCore: a small pure language: values, store, terms with slots, and what they ask (a predicate transformer). -/
namespace Pi
open PySem

/-- a value: tuples are trees, what can change is a reference; fls: a list that is only read -/
inductive D where
  | non | bl (b : Bool) | int (i : Int) | str (x : Str) | tup (xs : List D) | ref (a : Nat) | fn (x : Str) | cls (x : Str) | fls (xs : List D) | exc (c : Str)
/-- what can change -/
inductive O where
  | lst (xs : List D) | dct (kvs : List (Str × D)) | tab (x : Str) | dcn (kvs : List (D × D))
abbrev Sto := Nat → Option O
def put (S : Sto) (a : Nat) (o : O) : Sto := fun b => if b = a then some o else S b
theorem put_same {S : Sto} {a : Nat} {o : O} : put S a o a = some o := by unfold put; rw [if_pos rfl]
theorem put_ne {S : Sto} {a b : Nat} {o : O} (h : b ≠ a) : put S a o b = S b := by unfold put; rw [if_neg h]
abbrev KE := D → Sto → Prop
abbrev KL := List D → Sto → Prop
/-- an exception: its class, what it was made of -/
abbrev XE := Str → D → Sto → Prop
abbrev Fr := List (Option D)
abbrev CallT := Str → List D → Sto → KE → XE → Prop

/-- a list may be read -/
abbrev IsL (S : Sto) (a : Nat) (xs : List D) : Prop := S a = some (.lst xs)

/-! ### data -/
mutual
inductive PyOf (S : Sto) : D → PyData → Prop
  | non : PyOf S .non .none
  | bl (b : Bool) : PyOf S (.bl b) (.bool b)
  | int (i : Int) : PyOf S (.int i) (.int i)
  | str (x : Str) : PyOf S (.str x) (.str x)
  | tup {xs : List D} {ps : List PyData} : PyOfs S xs ps → PyOf S (.tup xs) (.tuple ps)
  | lst {a : Nat} {xs : List D} {ps : List PyData} : IsL S a xs → PyOfs S xs ps → PyOf S (.ref a) (.list ps)
inductive PyOfs (S : Sto) : List D → List PyData → Prop
  | nil : PyOfs S [] []
  | cons {x : D} {xs : List D} {p : PyData} {ps : List PyData} : PyOf S x p → PyOfs S xs ps → PyOfs S (x :: xs) (p :: ps)
end

/-- d[k] = v of a dict with text keys -/
def setK (kvs : List (Str × D)) (k : Str) (v : D) : List (Str × D) :=
  if (kvs.any fun p => decide (p.1 = k)) = true then kvs.map (fun p => if p.1 = k then (p.1, v) else p) else kvs ++ [(k, v)]
def getK (kvs : List (Str × D)) (k : Str) : Option D := (kvs.find? fun p => decide (p.1 = k)).map (·.2)

/-! ### keys of any depth -/
mutual
/-- the value as a key -/
def kyD : D → Option NestedKey
  | .non => some .none
  | .bl b => some (.num (if b = true then 1 else 0))
  | .int i => some (.num i)
  | .str x => some (.text x)
  | .tup xs => (kyDs xs).map .tup
  | _ => none
def kyDs : List D → Option (List NestedKey)
  | [] => some []
  | x :: r => match kyD x, kyDs r with
    | some k, some ks => some (k :: ks)
    | _, _ => none
end
/-- it may be a key -/
def KyB (d : D) : Prop := ∃ k, kyD d = some k ∧ k.depth ≤ 8
def getN (kvs : List (D × D)) (k : D) : Option D := (kvs.find? fun p => decide (kyD p.1 = kyD k)).map (·.2)
/-- d[k] = v -/
def setN (kvs : List (D × D)) (k v : D) : List (D × D) :=
  if (kvs.any fun p => decide (kyD p.1 = kyD k)) = true then kvs.map (fun p => if kyD p.1 = kyD k then (p.1, v) else p) else kvs ++ [(k, v)]
/-- sorted: by the data -/
def srtD (xs : List D) (ks : List PyData) : List D := ((xs.zip ks).mergeSort fun p q => PySem.W.dataLe false (fun d : PyData => d) p.2 q.2).map (·.1)
/-- one of the store only grows -/
def ExtS (S S' : Sto) : Prop := ∀ p o, S p = some o → S' p = some o
/-! ### operators -/
inductive BOp where | add | sub | mul | fdv | mod | pow
inductive COp where | eq | ne | lt | le | gt | ge | isin | notin | is_ | isnt | isn | ntn
  deriving DecidableEq
def SmallI (i : Int) : Prop := -(2 ^ 64) < i ∧ i < 2 ^ 64
def rep (n : Nat) (xs : List D) : List D := (List.replicate n xs).flatten
def mulS (k : Nat) (x : Str) : Str := ⟨(List.replicate k x.cps).foldl (· ++ ·) #[]⟩
def bopW : BOp → D → D → Sto → KE → Prop
  | .add, .int i, .int j, S, Q => Q (.int (i + j)) S
  | .add, .str x, .str y, S, Q => x.length + y.length ≤ sizeLine ∧ Q (.str (x ++ y)) S
  | .add, .ref a, .ref b, S, Q => ∃ xs ys, S a = some (.lst xs) ∧ S b = some (.lst ys) ∧ xs.length + ys.length ≤ sizeLine ∧ ∀ p, S p = none → Q (.ref p) (put S p (.lst (xs ++ ys)))
  | .add, .tup xs, .tup ys, S, Q => xs.length + ys.length ≤ sizeLine ∧ Q (.tup (xs ++ ys)) S
  | .sub, .int i, .int j, S, Q => Q (.int (i - j)) S
  | .mul, .int i, .int j, S, Q => (SmallI i ∨ SmallI j ∨ L2.CMulW i j) ∧ Q (.int (i * j)) S
  | .mul, .tup xs, .int k, S, Q => -(2 ^ 63) ≤ k ∧ k ≤ 1000 ∧ xs.length ≤ 1000 ∧ Q (.tup (rep k.toNat xs)) S
  | .mul, .ref a, .int k, S, Q => ∃ xs, S a = some (.lst xs) ∧ -(2 ^ 63) ≤ k ∧ k < 2 ^ 63 ∧ xs.length * k.toNat ≤ sizeLine ∧ ∀ p, S p = none → Q (.ref p) (put S p (.lst (rep k.toNat xs)))
  | .fdv, .int i, .int j, S, Q => (0 < j ∧ (j < 1073741824 ∨ j.natAbs.log2 < 9000)) ∧ Q (.int (i / j)) S
  | .mod, .int i, .int j, S, Q => 0 < j ∧ Q (.int (i % j)) S
  | .pow, .int i, .int j, S, Q => (0 ≤ j ∧ j ≤ 1000000 ∧ i.natAbs < 2 ^ 64) ∧ Q (.int (i ^ j.toNat)) S
  | .mul, .str x, .int k, S, Q => 1 ≤ k ∧ k ≤ 1000 ∧ 1 ≤ x.length ∧ x.length ≤ 1000 ∧ Q (.str (mulS k.toNat x)) S
  | _, _, _, _, _ => False
/-- x op= y -/
def augW : BOp → D → D → (D → Prop) → Prop
  | .add, .int i, .int j, q => q (.int (i + j))
  | .sub, .int i, .int j, q => q (.int (i - j))
  | .mul, .int i, .int j, q => (SmallI i ∨ SmallI j ∨ L2.CMulW i j) ∧ q (.int (i * j))
  | _, _, _, _ => False
/-- the values of one kind that == compares at once -/
def eqW (x y : D) (S : Sto) (q : Bool → Prop) : Prop :=
  match x, y with
  | .int i, .int j => q (decide (i = j))
  | .str a, .str b => q (decide (a = b))
  | .bl a, .bl b => q (decide (a = b))
  | .non, .non => q true
  | .non, .int _ => q false | .int _, .non => q false | .non, .bl _ => q false | .bl _, .non => q false | .non, .str _ => q false | .str _, .non => q false
  | .int _, .str _ => q false | .str _, .int _ => q false | .bl _, .str _ => q false | .str _, .bl _ => q false
  | x, y => ∃ d e, PyOf S x d ∧ PyOf S y e ∧ SeqAt.shaped d = true ∧ SeqAt.shaped e = true ∧ q (PyData.eqv d e)
def ltW (f : Int → Int → Bool) : D → D → (Bool → Prop) → Prop
  | .int i, .int j, q => q (f i j)
  | _, _, _ => False
/-- < of ints, of alike data -/
def ltdW (x y : D) (S : Sto) (q : Bool → Prop) : Prop :=
  match x, y with
  | .int i, .int j => q (decide (i < j))
  | x, y => ∃ d e, PyOf S x d ∧ PyOf S y e ∧ PySem.W.alike d e = true ∧ d ≠ .none ∧ min d.depth e.depth ≤ 64 ∧ q (PySem.W.dataLt d e)
def inW (x y : D) (S : Sto) (q : Bool → Prop) : Prop :=
  match x, y with
  | .str c, .str z => ∃ n : Nat, c = ⟨#[n]⟩ ∧ q (decide (n ∈ z.cps.toList))
  | x, .ref a => (∃ xs d ds, IsL S a xs ∧ PyOf S x d ∧ PyOfs S xs ds ∧ SeqAt.shaped d = true ∧ SeqAt.shaped (.list ds) = true ∧ q (ds.any fun z => PyData.eqv z d)) ∨
      ∃ kvs k, S a = some (.dct kvs) ∧ x = .str k ∧ q (getK kvs k).isSome
  | x, .tup ys => ∃ d ds, PyOf S x d ∧ PyOfs S ys ds ∧ SeqAt.shaped d = true ∧ SeqAt.shaped (.tuple ds) = true ∧ q (ds.any fun z => PyData.eqv z d)
  | _, _ => False
/-- in a dict with keys of any depth -/
def innW (x y : D) (S : Sto) (q : Bool → Prop) : Prop :=
  match y with
  | .ref a => ∃ kvs, S a = some (.dcn kvs) ∧ KyB x ∧ q (getN kvs x).isSome
  | .tup ys => ∃ d ds, PyOf S x d ∧ PyOfs S ys ds ∧ SeqAt.shaped d = true ∧ SeqAt.shaped (.tuple ds) = true ∧ q (ds.any fun z => PyData.eqv z d)
  | _ => False
def isNon : D → Bool
  | .non => true
  | _ => false
def copW : COp → D → D → Sto → (Bool → Prop) → Prop
  | .eq, x, y, S, q => eqW x y S q
  | .ne, x, y, S, q => eqW x y S fun b => q (!b)
  | .lt, x, y, S, q => ltdW x y S q
  | .le, x, y, _, q => ltW (fun i j => decide (i ≤ j)) x y q
  | .gt, x, y, _, q => ltW (fun i j => decide (j < i)) x y q
  | .ge, x, y, _, q => ltW (fun i j => decide (j ≤ i)) x y q
  | .isin, x, y, S, q => inW x y S q
  | .notin, x, y, S, q => inW x y S fun b => q (!b)
  | .is_, x, .non, _, q => q (isNon x)
  | .isnt, x, .non, _, q => q (!isNon x)
  | .isn, x, y, S, q => innW x y S q
  | .ntn, x, y, S, q => innW x y S fun b => q (!b)
  | _, _, _, _, _ => False

/-! ### subscripts -/
def cutD (xs : List D) (lo hi : Option Int) : List D := (xs.drop (HT.sIx xs.length 0 lo)).take (HT.sIx xs.length xs.length hi - HT.sIx xs.length 0 lo)
def idxW : D → D → Sto → KE → Prop
  | .tup xs, .int i, S, Q => ∃ v, L2.atI xs i = some v ∧ Q v S
  | .ref a, .int i, S, Q => ∃ xs v, IsL S a xs ∧ L2.atI xs i = some v ∧ Q v S
  | .ref a, .str k, S, Q => ∃ kvs v, S a = some (.dct kvs) ∧ getK kvs k = some v ∧ Q v S
  | .str z, .int i, S, Q => z.length ≤ sizeLine ∧ ∃ c, L2.atI z.cps.toList i = some c ∧ Q (.str ⟨#[c]⟩) S
  | _, _, _, _ => False
/-- an item of a list, for o[i] op= e -/
def idxL : D → D → Sto → KE → Prop
  | .ref a, .int i, S, Q => ∃ xs v, IsL S a xs ∧ 0 ≤ i ∧ xs[i.toNat]? = some v ∧ Q v S
  | _, _, _, _ => False
/-- d[k] of a dict with keys of any depth -/
def idnW : D → D → Sto → KE → Prop
  | .ref a, k, S, Q => ∃ kvs v, S a = some (.dcn kvs) ∧ KyB k ∧ getN kvs k = some v ∧ Q v S
  | _, _, _, _ => False
/-- xs[::-1] -/
def revW : D → Sto → KE → Prop
  | .ref a, S, Q => ∃ xs, IsL S a xs ∧ ∀ p, S p = none → Q (.ref p) (put S p (.lst xs.reverse))
  | _, _, _ => False
def slcW : D → Option Int → Option Int → Sto → KE → Prop
  | .tup xs, lo, hi, S, Q => Q (.tup (cutD xs lo hi)) S
  | .ref a, lo, hi, S, Q => ∃ xs, IsL S a xs ∧ ∀ p, S p = none → Q (.ref p) (put S p (.lst (cutD xs lo hi)))
  | .str z, lo, hi, S, Q => z.length ≤ sizeLine ∧ Q (.str (L2.cutS z lo hi)) S
  | _, _, _, _, _ => False
def stoW : D → D → D → Sto → (Sto → Prop) → Prop
  | .ref a, .str k, v, S, q => ∃ kvs, S a = some (.dct kvs) ∧ kvs.length < 1000 ∧ q (put S a (.dct (setK kvs k v)))
  | .ref a, .int i, v, S, q => ∃ xs j, S a = some (.lst xs) ∧ L2.ixN xs.length i = some j ∧ q (put S a (.lst (xs.set j v)))
  | _, _, _, _, _ => False

/-- d[k] = v of a dict with keys of any depth -/
def stnW : D → D → D → Sto → (Sto → Prop) → Prop
  | .ref a, k, v, S, q => ∃ kvs, S a = some (.dcn kvs) ∧ KyB k ∧ kvs.length < sizeLine ∧ q (put S a (.dcn (setN kvs k v)))
  | _, _, _, _, _ => False
/-! ### built-ins -/
inductive Ty where | str | tuple | int | bool | list | dict
  deriving DecidableEq
def tyOf (S : Sto) : D → Option Ty
  | .bl _ => some .bool
  | .int _ => some .int
  | .str _ => some .str
  | .tup _ => some .tuple
  | .fls _ => some .list
  | .ref a => match S a with
    | some (.lst _) => some .list
    | some (.dct _) => some .dict
    | _ => none
  | _ => none
def isTy (t : Ty) (u : Ty) : Bool := t = u || (t = .bool && u = .int)
/-- isinstance: None is of no type here; what cannot be told is not asked -/
def isiW (x : D) (ts : List Ty) (S : Sto) (q : Bool → Prop) : Prop :=
  match x with
  | .non => q false
  | x => ∃ t, tyOf S x = some t ∧ q (ts.any (isTy t))
/-- isinstance for an own class of error, of None or an error of one of some classes -/
def isoW (x : D) (c : Str) (ds : List Str) (q : Bool → Prop) : Prop :=
  match x with
  | .non => q false
  | .exc d => d ∈ ds ∧ q (decide (d = c))
  | _ => False
inductive Bi where | len | int | abs | max | min | tuple | list | all | any | sum | repr | lrange | dict | lenD | listD
def allB : List D → Option Bool
  | [] => some true
  | .bl b :: r => (allB r).map (b && ·)
  | _ => none
def anyB : List D → Option Bool
  | [] => some false
  | .bl b :: r => (anyB r).map (b || ·)
  | _ => none
def intsB : List D → Option (List Int)
  | [] => some []
  | .int i :: r => (intsB r).map (i :: ·)
  | _ => none
/-- pairs of a text and a value -/
def pairsB : List D → Option (List (Str × D))
  | [] => some []
  | .tup [.str k, v] :: r => (pairsB r).map ((k, v) :: ·)
  | _ => none
/-- a row of keys and values: later ones win -/
def dispK : List (Str × D) → List Str → List D → List (Str × D)
  | kvs, k :: ks, v :: vs => dispK (setK kvs k v) ks vs
  | kvs, _, _ => kvs
def biW : Bi → List D → Sto → KE → Prop
  | .len, [.str z], S, Q => z.length ≤ sizeLine ∧ Q (.int z.length) S
  | .len, [.tup xs], S, Q => Q (.int xs.length) S
  | .len, [.fls xs], S, Q => Q (.int xs.length) S
  | .len, [.ref a], S, Q => (∃ xs, IsL S a xs ∧ Q (.int xs.length) S)
  | .int, [.int i], S, Q => Q (.int i) S
  | .int, [.bl b], S, Q => Q (.int (if b then 1 else 0)) S
  | .abs, [.int i], S, Q => Q (.int (if i < 0 then -i else i)) S
  | .max, [.int i, .int j], S, Q => Q (.int (if j > i then j else i)) S
  | .min, [.int i, .int j], S, Q => Q (.int (if j < i then j else i)) S
  | .max, [.ref a], S, Q => ∃ xs ns, IsL S a xs ∧ intsB xs = some ns ∧ 0 < ns.length ∧ ∀ m, m ∈ ns → (∀ y, y ∈ ns → y ≤ m) → Q (.int m) S
  | .min, [.ref a], S, Q => ∃ xs ns, IsL S a xs ∧ intsB xs = some ns ∧ 0 < ns.length ∧ ∀ m, m ∈ ns → (∀ y, y ∈ ns → m ≤ y) → Q (.int m) S
  | .tuple, [.ref a], S, Q => ∃ xs, IsL S a xs ∧ Q (.tup xs) S
  | .tuple, [.tup xs], S, Q => Q (.tup xs) S
  | .list, [.ref a], S, Q => ∃ xs, IsL S a xs ∧ ∀ p, S p = none → Q (.ref p) (put S p (.lst xs))
  | .list, [.tup xs], S, Q => ∀ p, S p = none → Q (.ref p) (put S p (.lst xs))
  | .list, [.str z], S, Q => z.length ≤ 1000 ∧ ∀ p, S p = none → Q (.ref p) (put S p (.lst (z.cps.toList.map fun c => .str ⟨#[c]⟩)))
  | .all, [.ref a], S, Q => ∃ xs b, IsL S a xs ∧ allB xs = some b ∧ Q (.bl b) S
  | .any, [.ref a], S, Q => ∃ xs b, IsL S a xs ∧ anyB xs = some b ∧ Q (.bl b) S
  | .sum, [.ref a], S, Q => ∃ xs ns, IsL S a xs ∧ intsB xs = some ns ∧ Q (.int ns.sum) S
  | .repr, [x], S, Q => ∃ d, PyOf S x d ∧ d.showable = true ∧ d.hasDict = false ∧ d.depth ≤ 64 ∧ d.shown.length ≤ sizeLine ∧ Q (.str d.shown) S
  | .dict, [.ref a], S, Q => ∃ xs kvs, IsL S a xs ∧ pairsB xs = some kvs ∧ ∀ p, S p = none → Q (.ref p) (put S p (.dct (dispK [] (kvs.map (·.1)) (kvs.map (·.2)))))
  | .lenD, [.ref a], S, Q => ∃ kvs, S a = some (.dcn kvs) ∧ Q (.int kvs.length) S
  | .listD, [.ref a], S, Q => ∃ kvs, S a = some (.dcn kvs) ∧ ∀ p, S p = none → Q (.ref p) (put S p (.lst (kvs.map (·.1))))
  | _, _, _, _ => False
/-- max(.., default=d) -/
def mxdW : D → D → Sto → KE → Prop
  | .ref a, d, S, Q => ∃ xs ns, IsL S a xs ∧ intsB xs = some ns ∧ (ns = [] → Q d S) ∧ (ns ≠ [] → ∀ m, m ∈ ns → (∀ y, y ∈ ns → y ≤ m) → Q (.int m) S)
  | _, _, _, _ => False
inductive Mt where | append | extend | pop | popAt | join | index | count
def textsB : List D → Option (List Str)
  | [] => some []
  | .str i :: r => (textsB r).map (i :: ·)
  | _ => none
def mtW : Mt → D → List D → Sto → KE → Prop
  | .append, .ref a, [v], S, Q => ∃ xs, S a = some (.lst xs) ∧ xs.length < sizeLine ∧ Q .non (put S a (.lst (xs ++ [v])))
  | .extend, .ref a, [.ref b], S, Q => ∃ xs ys, S a = some (.lst xs) ∧ S b = some (.lst ys) ∧ xs.length + ys.length ≤ sizeLine ∧ Q .non (put S a (.lst (xs ++ ys)))
  | .pop, .ref a, [], S, Q => ∃ xs v, S a = some (.lst xs) ∧ xs[xs.length - 1]? = some v ∧ Q v (put S a (.lst xs.dropLast))
  | .popAt, .ref a, [.int i], S, Q => ∃ xs k v, S a = some (.lst xs) ∧ -(2 ^ 63) ≤ i ∧ i < 2 ^ 63 ∧ seqIndex? i xs.length = some k ∧ xs[k]? = some v ∧ Q v (put S a (.lst (xs.eraseIdx k)))
  | .index, .ref a, [v], S, Q => ∃ xs d ds j z, IsL S a xs ∧ PyOfs S xs ds ∧ PyOf S v d ∧ SeqAt.shaped (.list ds) = true ∧ SeqAt.shaped d = true ∧ ds[j]? = some z ∧ PyData.eqv z d = true ∧ (∀ m z', m < j → ds[m]? = some z' → PyData.eqv z' d = false) ∧ Q (.int (j : Nat)) S
  | .count, .ref a, [v], S, Q => ∃ xs d ds, IsL S a xs ∧ PyOfs S xs ds ∧ PyOf S v d ∧ SeqAt.shaped (.list ds) = true ∧ SeqAt.shaped d = true ∧ Q (.int (ds.countP fun z => PyData.eqv z d : Nat)) S
  | .join, .str z, [.ref a], S, Q => ∃ xs ys, IsL S a xs ∧ textsB xs = some ys ∧ (ys.map Str.length).sum + z.length * ys.length ≤ 16777216 ∧ Q (.str (Txt.join z ys)) S
  | _, _, _, _, _ => False
/-- d.get(k), d.get(k, z) of a dict with keys of any depth -/
def gtnW : D → List D → Sto → KE → Prop
  | .ref a, [k], S, Q => ∃ kvs, S a = some (.dcn kvs) ∧ KyB k ∧ Q ((getN kvs k).getD .non) S
  | .ref a, [k, z], S, Q => ∃ kvs, S a = some (.dcn kvs) ∧ KyB k ∧ Q ((getN kvs k).getD z) S
  | _, _, _, _ => False
def isDcn (d : D) (S : Sto) : Prop := ∃ a kvs, d = .ref a ∧ S a = some (.dcn kvs)

/-- whose method it may be -/
def rcvW : Mt → D → Sto → Prop
  | .join, .str _, _ => True
  | .join, _, _ => False
  | _, .ref a, S => ∃ xs, IsL S a xs
  | _, _, _ => False
/-! ### terms -/
mutual
inductive IE where
  | var (i : Nat)
  | lit (d : D)
  | glo (x : Str) (d : D)
  | bin (op : BOp) (a b : IE)
  | neg (a : IE)
  | cmp (op : COp) (a b : IE)
  | chn (op op' : COp) (a b c : IE)
  | inv (a : IE)
  | boo (isAnd : Bool) (es : IEs)
  | ife (t a b : IE)
  | tup (es : IEs)
  | lst (es : IEs)
  | dis (ks : List Str) (es : IEs)
  | cal (f : Str) (es : IEs)
  | cak (f : Str) (es : IEs) (ks : List Str) (vs : IEs) (rs : List Str)
  | bui (b : Bi) (es : IEs)
  | mxd (a d : IE)
  | isi (a : IE) (ts : List Ty)
  | iso (a : IE) (c : Str) (ds : List Str)
  | cau (f x : Str) (cs : List Str) (e : IE)
  | met (m : Mt) (a : IE) (es : IEs)
  | idx (a i : IE)
  | idn (a i : IE)
  | dnw
  | gtn (a : IE) (es : IEs)
  | rev (a : IE)
  | lr1 (tp : Bool) (a : IE)
  | lr2 (tp : Bool) (a b : IE)
  | srt (a : IE)
  | sset (a : IE)
  | dzp (a b : IE)
  | srk (f : Str) (a : IE)
  | dcp (kx vx : IE) (own : List Nat) (tg : List Nat) (tup : Bool) (it : II) (ifs : IEs)
  | slc (a : IE) (lo hi : IEs)
  | lc (elt : IE) (own : List Nat) (tg : List Nat) (tup : Bool) (it : II) (ifs : IEs)
  | lcc (elt : IE) (own : List Nat) (tg : List Nat) (tup : Bool) (it : II) (vs : List Nat) (tg1 : List Nat) (tup1 : Bool) (it1 : II)
  | dc2 (kx vx : IE) (own : List Nat) (tg : List Nat) (tup : Bool) (it : II) (vs : List Nat) (tg1 : List Nat) (tup1 : Bool) (it1 : II)
inductive IEs where
  | nil
  | cons (e : IE) (r : IEs)
  | star (e : IE) (r : IEs)
inductive II where
  | of (e : IE)
  | rng (es : IEs)
  | enu (e : IE)
  | zip (a b : IE)
  | dic (e : IE)
  | vls (e : IE)
end
mutual
inductive IS where
  | asg (tg : List Nat) (tup : Bool) (e : IE)
  | par (tg : List Nat) (es : IEs)
  | sto (o i e : IE)
  | stn (o i e : IE)
  | aug (i : Nat) (op : BOp) (e : IE)
  | agi (o i : IE) (op : BOp) (e : IE)
  | exp (e : IE)
  | iff (c : IE) (a b : ISs)
  | whl (c : IE) (b : ISs)
  | for_ (tg : List Nat) (tup : Bool) (it : II) (b : ISs)
  | ret (e : IE)
  | retN
  | brk
  | cnt
  | pas
  | rai (c : Str) (es : IEs)
inductive ISs where
  | nil
  | cons (s : IS) (r : ISs)
end

/-! ### what they ask -/
structure Src where
  items : List D
  ok : Sto → Prop
structure End where
  nx : Fr → Sto → Prop
  rt : KE
  bk : Fr → Sto → Prop := fun _ _ => False
  ct : Fr → Sto → Prop := fun _ _ => False
def wipeF (φ : Fr) : List Nat → Fr
  | [] => φ
  | v :: vs => (wipeF φ vs).set v none
def setF (φ : Fr) : List Nat → List D → Fr
  | i :: is, d :: ds => setF (φ.set i (some d)) is ds
  | _, _ => φ
/-- a target takes an item -/
def tgW (tg : List Nat) (tup : Bool) (d : D) (S : Sto) (φ : Fr) (q : Fr → Prop) : Prop :=
  if tup then ∃ xs, (d = .tup xs ∨ ∃ a, d = .ref a ∧ IsL S a xs) ∧ xs.length = tg.length ∧ q (setF φ tg xs) else ∃ i, tg = [i] ∧ q (φ.set i (some d))
def loopW {α : Type} (ok : Sto → Prop) (step : D → α → Sto → (α → Sto → Prop) → Prop) (fin : α → Sto → Prop) : List D → α → Sto → Prop
  | [], a, S => ok S ∧ fin a S
  | d :: r, a, S => ok S ∧ step d a S fun a1 S1 => loopW ok step fin r a1 S1
def whlW (c : Fr → Sto → KE → Prop) (b : End → Fr → Sto → Prop) (D : End) : Nat → Fr → Sto → Prop
  | 0, _, _ => False
  | n + 1, φ, S => c φ S fun d S1 => ∃ k, d = .bl k ∧ (if k = true then b { D with nx := whlW c b D n, ct := whlW c b D n, bk := D.nx } φ S1 else D.nx φ S1)
/-- what a for walks -/
def srcW (d : D) (S : Sto) (q : Src → Prop) : Prop :=
  match d with
  | .tup xs => q ⟨xs, fun _ => True⟩
  | .fls xs => q ⟨xs, fun _ => True⟩
  | .str z => q ⟨z.cps.toList.map fun c => .str ⟨#[c]⟩, fun _ => True⟩
  | .ref a => ∃ xs, IsL S a xs ∧ q ⟨xs, fun S' => IsL S' a xs⟩
  | _ => False
def seqW (d : D) (S : Sto) (q : List D → (Sto → Prop) → Prop) : Prop :=
  match d with
  | .tup xs => q xs fun _ => True
  | .ref a => ∃ xs, IsL S a xs ∧ q xs fun S' => IsL S' a xs
  | _ => False
def numbered : Nat → List D → List D
  | _, [] => []
  | n, x :: r => .tup [.int n, x] :: numbered (n + 1) r
def zipped (xs ys : List D) : List D := (xs.zip ys).map fun p => .tup [p.1, p.2]
def enuW (d : D) (S : Sto) (q : Src → Prop) : Prop :=
  match d with
  | .ref a => ∃ xs, IsL S a xs ∧ q ⟨numbered 0 xs, fun S' => IsL S' a xs⟩
  | .tup xs => q ⟨numbered 0 xs, fun _ => True⟩
  | _ => False
def zipW (d e : D) (S : Sto) (q : Src → Prop) : Prop :=
  match d, e with
  | .ref a, .ref b => ∃ xs ys, IsL S a xs ∧ IsL S b ys ∧ q ⟨zipped xs ys, fun S' => IsL S' a xs ∧ IsL S' b ys⟩
  | .tup xs, .tup ys => q ⟨zipped xs ys, fun _ => True⟩
  | .tup xs, .ref b => ∃ ys, IsL S b ys ∧ q ⟨zipped xs ys, fun S' => IsL S' b ys⟩
  | _, _ => False
def intsF (lo : Int) (n : Nat) : List D := (List.range n).map fun i => .int (lo + (i : Nat))
def Big (i : Int) : Prop := -(2 ^ 62) ≤ i ∧ i < 2 ^ 62
/-- a dict is walked: its keys -/
def dicW (d : D) (S : Sto) (q : Src → Prop) : Prop :=
  match d with
  | .ref a => ∃ kvs, S a = some (.dcn kvs) ∧ q ⟨kvs.map (·.1), fun S' => S' a = some (.dcn kvs)⟩
  | _ => False
/-- a dict's values are walked -/
def vlsW (d : D) (S : Sto) (q : Src → Prop) : Prop :=
  match d with
  | .ref a => ∃ kvs, S a = some (.dcn kvs) ∧ q ⟨kvs.map (·.2), fun S' => S' a = some (.dcn kvs)⟩
  | _ => False
/-- a list's items; a list's or tuple's items -/
def LsO (d : D) (S : Sto) (xs : List D) : Prop := ∃ a, d = .ref a ∧ IsL S a xs
def LsOf (d : D) (S : Sto) (xs : List D) : Prop := match d with
  | .tup ys => xs = ys
  | d => ∃ a, d = .ref a ∧ IsL S a xs
/-- all are tuples, or none is a tuple or None -/
def SrtOk (ds : List PyData) : Prop := PySem.W.Sortable ds ∨ ∀ d ∈ ds, ∃ xs, d = .tuple xs
/-- sorted(..) -/
def srtW (d : D) (S : Sto) (Q : KE) : Prop := ∃ xs ks, LsO d S xs ∧ PyOfs S xs ks ∧ PySem.W.AllAlike ks ∧ SrtOk ks ∧ (∀ k ∈ ks, k.depth ≤ 64) ∧ xs.length ≤ sizeLine ∧ ∀ p, S p = none → Q (.ref p) (put S p (.lst (srtD xs ks)))
/-- sorted(set(..)) of texts, of ints -/
def ssW (d : D) (S : Sto) (Q : KE) : Prop :=
  (∃ xs : List Str, LsOf d S (xs.map D.str) ∧ xs.length ≤ 4000 ∧ ∀ us : List Str, us.Nodup → (∀ x, x ∈ us ↔ x ∈ xs) → us.Pairwise (fun a b => PySem.W.dataLe false PyData.str a b = true) → ∀ p, S p = none → Q (.ref p) (put S p (.lst (us.map D.str)))) ∨
  (∃ xs : List Int, LsOf d S (xs.map D.int) ∧ xs.length ≤ 4000 ∧ ∀ us : List Int, us.Nodup → (∀ x, x ∈ us ↔ x ∈ xs) → us.Pairwise (fun a b => PySem.W.dataLe false PyData.int a b = true) → ∀ p, S p = none → Q (.ref p) (put S p (.lst (us.map D.int))))
/-- dict(zip(ks, ys)) of two lists, the keys texts, not more than there are values -/
def dzW (x y : D) (S : Sto) (Q : KE) : Prop := ∃ (a b : Nat) (ks : List Str) (ys : List D), x = .ref a ∧ y = .ref b ∧ IsL S a (ks.map D.str) ∧ IsL S b ys ∧ ks.length ≤ ys.length ∧ ks.length ≤ sizeLine ∧ ∀ p, S p = none → Q (.ref p) (put S p (.dct (dispK [] ks (ys.take ks.length))))
/-- sorted(.., key=f): f may be asked in any store that has grown from this one; it gives data without lists -/
def srkW (C : CallT) (f : Str) (d : D) (S : Sto) (Q : KE) : Prop := ∃ xs ks, LsOf d S xs ∧ xs.length = ks.length ∧
  (∀ p ∈ xs.zip ks, ∀ S', ExtS S S' → C f [p.1] S' (fun v S'' => ExtS S' S'' ∧ PyOf (fun _ => none) v p.2) fun _ _ _ => False) ∧ PySem.W.AllAlike ks ∧ PySem.W.Sortable ks ∧ (∀ k ∈ ks, k.depth ≤ 64) ∧ xs.length ≤ sizeLine ∧
  ∀ S', ExtS S S' → ∀ p, S' p = none → Q (.ref p) (put S' p (.lst (srtD xs ks)))
def rngW : List D → (Src → Prop) → Prop
  | [.int j], q => Big j ∧ q ⟨intsF 0 j.toNat, fun _ => True⟩
  | [.int i, .int j], q => (Big i ∧ Big j) ∧ q ⟨intsF i (j - i).toNat, fun _ => True⟩
  | _, _ => False
/-- list(range(i, j)), tuple(range(i, j)) -/
def rgnW (tp : Bool) (i j : Int) (S : Sto) (Q : KE) : Prop := L2.RgOk i j ∧ if tp = true then Q (.tup (intsF i (j - i).toNat)) S else ∀ p, S p = none → Q (.ref p) (put S p (.lst (intsF i (j - i).toNat)))
/-- the values of keywords, in the parameters' order -/
def arr (ks : List Str) (ds : List D) (rs : List Str) : List D := rs.map fun r => ((ks.zip ds).lookup r).getD .non
abbrev XF : XE := fun _ _ _ => False
mutual
def wE (C : CallT) : IE → Fr → Sto → KE → XE → Prop
  | .var i, φ, S, Q, _ => ∃ d, φ[i]? = some (some d) ∧ Q d S
  | .lit d, _, S, Q, _ => Q d S
  | .glo _ d, _, S, Q, _ => Q d S
  | .bin op a b, φ, S, Q, E => wE C a φ S (fun x S1 => wE C b φ S1 (fun y S2 => bopW op x y S2 Q) E) E
  | .neg a, φ, S, Q, E => wE C a φ S (fun x S1 => ∃ i, x = .int i ∧ Q (.int (-i)) S1) E
  | .cmp op a b, φ, S, Q, E => wE C a φ S (fun x S1 => wE C b φ S1 (fun y S2 => copW op x y S2 fun k => Q (.bl k) S2) E) E
  | .chn op op' a b c, φ, S, Q, E => wE C a φ S (fun x S1 => wE C b φ S1 (fun y S2 => copW op x y S2 fun k =>
      if k = true then wE C c φ S2 (fun z S3 => copW op' y z S3 fun k' => Q (.bl k') S3) E else Q (.bl false) S2) E) E
  | .inv a, φ, S, Q, E => wE C a φ S (fun x S1 => ∃ k, x = .bl k ∧ Q (.bl (!k)) S1) E
  | .boo k es, φ, S, Q, E => wB C k es φ S Q E
  | .ife t a b, φ, S, Q, E => wE C t φ S (fun x S1 => ∃ k, x = .bl k ∧ if k = true then wE C a φ S1 Q E else wE C b φ S1 Q E) E
  | .tup es, φ, S, Q, E => wL C es φ S (fun ds S1 => ds.length ≤ sizeLine ∧ Q (.tup ds) S1) E
  | .lst es, φ, S, Q, E => wL C es φ S (fun ds S1 => ds.length ≤ sizeLine ∧ ∀ p, S1 p = none → Q (.ref p) (put S1 p (.lst ds))) E
  | .dis ks es, φ, S, Q, E => wL C es φ S (fun ds S1 => ds.length = ks.length ∧ ∀ p, S1 p = none → Q (.ref p) (put S1 p (.dct (dispK [] ks ds)))) E
  | .cal f es, φ, S, Q, E => wL C es φ S (fun ds S1 => C f ds S1 Q E) E
  | .cak f es ks vs rs, φ, S, Q, E => wL C es φ S (fun ds S1 => wL C vs φ S1 (fun es S2 => es.length = ks.length ∧ C f (ds ++ arr ks es rs) S2 Q E) E) E
  | .bui b es, φ, S, Q, E => wL C es φ S (fun ds S1 => biW b ds S1 Q) E
  | .mxd a e, φ, S, Q, E => wE C a φ S (fun x S1 => wE C e φ S1 (fun y S2 => mxdW x y S2 Q) E) E
  | .isi a ts, φ, S, Q, E => wE C a φ S (fun x S1 => isiW x ts S1 fun k => Q (.bl k) S1) E
  | .iso a c ds, φ, S, Q, E => wE C a φ S (fun x S1 => isoW x c ds fun k => Q (.bl k) S1) E
  | .cau _ x cs e, φ, S, Q, _ => (∃ P, S P = some (.tab x)) ∧ wE C e φ S (fun _ S1 => Q .non S1) fun c _ S1 => c ∈ cs ∧ Q (.exc c) S1
  | .met m a es, φ, S, Q, E => wE C a φ S (fun x S1 => rcvW m x S1 ∧ wL C es φ S1 (fun ds S2 => mtW m x ds S2 Q) E) E
  | .idx a i, φ, S, Q, E => wE C a φ S (fun x S1 => wE C i φ S1 (fun y S2 => idxW x y S2 Q) E) E
  | .idn a i, φ, S, Q, E => wE C a φ S (fun x S1 => wE C i φ S1 (fun y S2 => idnW x y S2 Q) E) E
  | .gtn a es, φ, S, Q, E => wE C a φ S (fun x S1 => isDcn x S1 ∧ wL C es φ S1 (fun ds S2 => gtnW x ds S2 Q) E) E
  | .dnw, _, S, Q, _ => ∀ p, S p = none → Q (.ref p) (put S p (.dcn []))
  | .rev a, φ, S, Q, E => wE C a φ S (fun x S1 => revW x S1 Q) E
  | .lr1 tp a, φ, S, Q, E => wE C a φ S (fun x S1 => ∃ j, x = .int j ∧ rgnW tp 0 j S1 Q) E
  | .lr2 tp a b, φ, S, Q, E => wE C a φ S (fun x S1 => wE C b φ S1 (fun y S2 => ∃ i j, x = .int i ∧ y = .int j ∧ rgnW tp i j S2 Q) E) E
  | .srt a, φ, S, Q, E => wE C a φ S (fun x S1 => srtW x S1 Q) E
  | .sset a, φ, S, Q, E => wE C a φ S (fun x S1 => ssW x S1 Q) E
  | .dzp a b, φ, S, Q, E => wE C a φ S (fun x S1 => wE C b φ S1 (fun y S2 => dzW x y S2 Q) E) E
  | .srk f a, φ, S, Q, E => wE C a φ S (fun x S1 => srkW C f x S1 Q) E
  | .dcp kx vx own tg tup it ifs, φ, S, Q, E => wI C it φ S (fun src S1 => loopW src.ok (fun d acc S2 N => tgW tg tup d S2 (wipeF φ own) fun φ2 =>
        wB C true ifs φ2 S2 (fun x S3 => ∃ k, x = .bl k ∧ if k = true then wE C kx φ2 S3 (fun y S4 => wE C vx φ2 S4 (fun z S5 => KyB y ∧ acc.length < sizeLine ∧ N (setN acc y z) S5) XF) XF else N acc S3) XF)
      (fun acc S5 => ∀ p, S5 p = none → Q (.ref p) (put S5 p (.dcn acc))) src.items [] S1) E
  | .slc a lo hi, φ, S, Q, E => wE C a φ S (fun x S1 => wO C lo φ S1 (fun l S2 => wO C hi φ S2 (fun h S3 => slcW x l h S3 Q) E) E) E
  | .lc elt own tg tup it ifs, φ, S, Q, E => wI C it φ S (fun src S1 => loopW src.ok (fun d acc S2 N => tgW tg tup d S2 (wipeF φ own) fun φ2 =>
        wB C true ifs φ2 S2 (fun x S3 => ∃ k, x = .bl k ∧ if k = true then wE C elt φ2 S3 (fun y S4 => acc.length < sizeLine ∧ N (acc ++ [y]) S4) XF else N acc S3) XF)
      (fun acc S5 => ∀ p, S5 p = none → Q (.ref p) (put S5 p (.lst acc))) src.items [] S1) E
  | .lcc elt own tg tup it vs tg1 tup1 it1, φ, S, Q, E => wI C it φ S (fun src S1 => loopW src.ok (fun d acc S2 N => tgW tg tup d S2 (wipeF φ own) fun φ2 =>
        wI C it1 φ2 S2 (fun src1 S3 => loopW src1.ok (fun d1 acc S4 N1 => tgW tg1 tup1 d1 S4 (wipeF φ2 vs) fun φ3 => wE C elt φ3 S4 (fun y S5 => acc.length < sizeLine ∧ N1 (acc ++ [y]) S5) XF) N src1.items acc S3) XF)
      (fun acc S5 => ∀ p, S5 p = none → Q (.ref p) (put S5 p (.lst acc))) src.items [] S1) E
  | .dc2 kx vx own tg tup it vs tg1 tup1 it1, φ, S, Q, E => wI C it φ S (fun src S1 => loopW src.ok (fun d acc S2 N => tgW tg tup d S2 (wipeF φ own) fun φ2 =>
        wI C it1 φ2 S2 (fun src1 S3 => loopW src1.ok (fun d1 acc S4 N1 => tgW tg1 tup1 d1 S4 (wipeF φ2 vs) fun φ3 => wE C kx φ3 S4 (fun y S5 => wE C vx φ3 S5 (fun z S6 => KyB y ∧ acc.length < sizeLine ∧ N1 (setN acc y z) S6) XF) XF) N src1.items acc S3) XF)
      (fun acc S5 => ∀ p, S5 p = none → Q (.ref p) (put S5 p (.dcn acc))) src.items [] S1) E
def wL (C : CallT) : IEs → Fr → Sto → KL → XE → Prop
  | .nil, _, S, Q, _ => Q [] S
  | .cons e r, φ, S, Q, E => wE C e φ S (fun d S1 => wL C r φ S1 (fun ds S2 => Q (d :: ds) S2) E) E
  | .star e r, φ, S, Q, E => wE C e φ S (fun d S1 => seqW d S1 fun xs _ => wL C r φ S1 (fun ds S2 => Q (xs ++ ds) S2) E) E
/-- a part of a slice -/
def wO (C : CallT) : IEs → Fr → Sto → (Option Int → Sto → Prop) → XE → Prop
  | .nil, _, S, Q, _ => Q none S
  | .cons e _, φ, S, Q, E => wE C e φ S (fun d S1 => ∃ i, d = .int i ∧ Q (some i) S1) E
  | .star _ _, _, _, _, _ => False
/-- and, or; no part: True, False -/
def wB (C : CallT) (k : Bool) : IEs → Fr → Sto → KE → XE → Prop
  | .nil, _, S, Q, _ => Q (.bl k) S
  | .cons e .nil, φ, S, Q, E => wE C e φ S Q E
  | .cons e r, φ, S, Q, E => wE C e φ S (fun x S1 => ∃ c, x = .bl c ∧ if c = k then wB C k r φ S1 Q E else Q (.bl c) S1) E
  | .star _ _, _, _, _, _ => False
def wI (C : CallT) : II → Fr → Sto → (Src → Sto → Prop) → XE → Prop
  | .of e, φ, S, R, E => wE C e φ S (fun d S1 => srcW d S1 fun s => R s S1) E
  | .rng es, φ, S, R, E => wL C es φ S (fun ds S1 => rngW ds fun s => R s S1) E
  | .enu e, φ, S, R, E => wE C e φ S (fun d S1 => enuW d S1 fun s => R s S1) E
  | .dic e, φ, S, R, E => wE C e φ S (fun d S1 => dicW d S1 fun s => R s S1) E
  | .vls e, φ, S, R, E => wE C e φ S (fun d S1 => vlsW d S1 fun s => R s S1) E
  | .zip a b, φ, S, R, E => wE C a φ S (fun x S1 => wE C b φ S1 (fun y S2 => zipW x y S2 fun s => R s S2) E) E
end
abbrev XS := Str → D → Fr → Sto → Prop
mutual
def wS (C : CallT) : IS → End → XS → Fr → Sto → Prop
  | .asg tg tup e, D, E, φ, S => wE C e φ S (fun d S1 => tgW tg tup d S1 φ fun φ1 => D.nx φ1 S1) fun c a S1 => E c a φ S1
  | .par tg es, D, E, φ, S => wL C es φ S (fun ds S1 => ds.length = tg.length ∧ D.nx (setF φ tg ds) S1) fun c a S1 => E c a φ S1
  | .sto o i e, D, E, φ, S => wE C e φ S (fun v S1 => wE C o φ S1 (fun x S2 => wE C i φ S2 (fun y S3 => stoW x y v S3 fun S4 => D.nx φ S4) fun c a S' => E c a φ S') fun c a S' => E c a φ S') fun c a S' => E c a φ S'
  | .stn o i e, D, E, φ, S => wE C e φ S (fun v S1 => wE C o φ S1 (fun x S2 => wE C i φ S2 (fun y S3 => stnW x y v S3 fun S4 => D.nx φ S4) fun c a S' => E c a φ S') fun c a S' => E c a φ S') fun c a S' => E c a φ S'
  | .aug i op e, D, E, φ, S => ∃ x, φ[i]? = some (some x) ∧ wE C e φ S (fun y S1 => augW op x y fun z => D.nx (φ.set i (some z)) S1) fun c a S' => E c a φ S'
  | .agi o i op e, D, E, φ, S => wE C o φ S (fun x S1 => wE C i φ S1 (fun y S2 => idxL x y S2 fun z S3 => wE C e φ S3 (fun v S4 => augW op z v fun u => stoW x y u S4 fun S5 => D.nx φ S5) fun c a S' => E c a φ S') fun c a S' => E c a φ S') fun c a S' => E c a φ S'
  | .exp e, D, E, φ, S => wE C e φ S (fun _ S1 => D.nx φ S1) fun c a S' => E c a φ S'
  | .iff c a b, D, E, φ, S => wE C c φ S (fun d S1 => ∃ k, d = .bl k ∧ if k = true then wSs C a D E φ S1 else wSs C b D E φ S1) fun c a S' => E c a φ S'
  | .whl c b, D, E, φ, S => ∃ n, whlW (fun φ S Q => wE C c φ S Q fun c a S' => E c a φ S') (fun D φ S => wSs C b D E φ S) D n φ S
  | .for_ tg tup it b, D, E, φ, S => wI C it φ S (fun src S1 => loopW src.ok (fun d φ S2 N => tgW tg tup d S2 φ fun φ1 => wSs C b { D with nx := N, ct := N, bk := D.nx } E φ1 S2) D.nx src.items φ S1) fun c a S' => E c a φ S'
  | .ret e, D, E, φ, S => wE C e φ S D.rt fun c a S' => E c a φ S'
  | .retN, D, _, _, S => D.rt .non S
  | .brk, D, _, φ, S => D.bk φ S
  | .cnt, D, _, φ, S => D.ct φ S
  | .pas, D, _, φ, S => D.nx φ S
  | .rai c es, _, E, φ, S => wL C es φ S (fun ds S1 => ∃ x, ds = [.str x] ∧ E c (.str x) φ S1) fun c a S' => E c a φ S'
def wSs (C : CallT) : ISs → End → XS → Fr → Sto → Prop
  | .nil, D, _, φ, S => D.nx φ S
  | .cons s r, D, E, φ, S => wS C s { D with nx := fun φ1 S1 => wSs C r D E φ1 S1 } E φ S
end

/-- a def: how many slots, how many parameters, its body -/
structure FD where
  ps : List Str
  n : Nat
  body : ISs
abbrev Tab := List (Str × FD)
def startF (n : Nat) (ds : List D) : Fr := ds.map some ++ List.replicate (n - ds.length) none
def wC (Φ : Tab) : Nat → CallT
  | 0 => fun _ _ _ _ _ => False
  | k + 1 => fun f ds S Q E => ∃ fd, Φ.lookup f = some fd ∧ ds.length = fd.ps.length ∧ wSs (wC Φ k) fd.body { nx := fun _ S' => Q .non S', rt := Q } (fun c a _ S' => E c a S') (startF fd.n ds) S
end Pi

/-! PiMono: what is asked grows with what is wanted. -/
namespace Pi
open PySem
theorem eqW_mono {x y : D} {S : Sto} {q r : Bool → Prop} (h : ∀ b, q b → r b) (a : eqW x y S q) : eqW x y S r := by
  unfold eqW at a ⊢
  split at a <;> first
    | exact h _ a
    | (obtain ⟨d, e, h1, h2, h3, h4, h5⟩ := a; exact ⟨d, e, h1, h2, h3, h4, h _ h5⟩)
theorem ltW_mono {f : Int → Int → Bool} {x y : D} {q r : Bool → Prop} (h : ∀ b, q b → r b) (a : ltW f x y q) : ltW f x y r := by
  unfold ltW at a ⊢
  split at a
  · exact h _ a
  · exact a.elim
theorem ltdW_mono {x y : D} {S : Sto} {q r : Bool → Prop} (h : ∀ b, q b → r b) (a : ltdW x y S q) : ltdW x y S r := by
  unfold ltdW at a ⊢
  split at a
  · exact h _ a
  · obtain ⟨d, e, h1, h2, h3, h4, h5, h6⟩ := a; exact ⟨d, e, h1, h2, h3, h4, h5, h _ h6⟩
theorem inW_mono {x y : D} {S : Sto} {q r : Bool → Prop} (h : ∀ b, q b → r b) (a : inW x y S q) : inW x y S r := by
  unfold inW at a ⊢
  split at a
  · obtain ⟨n, h1, h2⟩ := a; exact ⟨n, h1, h _ h2⟩
  · rcases a with ⟨xs, d, ds, h1, h2, h3, h4, h5, h6⟩ | ⟨kvs, k, h1, h2, h3⟩
    · exact .inl ⟨xs, d, ds, h1, h2, h3, h4, h5, h _ h6⟩
    · exact .inr ⟨kvs, k, h1, h2, h _ h3⟩
  · obtain ⟨d, ds, h2, h3, h4, h5, h6⟩ := a; exact ⟨d, ds, h2, h3, h4, h5, h _ h6⟩
  · exact a.elim
theorem innW_mono {x y : D} {S : Sto} {q r : Bool → Prop} (h : ∀ b, q b → r b) (a : innW x y S q) : innW x y S r := by
  unfold innW at a ⊢
  split at a
  · obtain ⟨n, h1, h2, h3⟩ := a; exact ⟨n, h1, h2, h _ h3⟩
  · obtain ⟨d, ds, h2, h3, h4, h5, h6⟩ := a; exact ⟨d, ds, h2, h3, h4, h5, h _ h6⟩
  · exact a.elim
theorem copW_mono {op : COp} {x y : D} {S : Sto} {q r : Bool → Prop} (h : ∀ b, q b → r b) (a : copW op x y S q) : copW op x y S r := by
  cases op with
  | eq => exact eqW_mono h a
  | ne => exact eqW_mono (fun b z => h _ z) a
  | lt => exact ltdW_mono h a
  | le => exact ltW_mono h a
  | gt => exact ltW_mono h a
  | ge => exact ltW_mono h a
  | isin => exact inW_mono h a
  | notin => exact inW_mono (fun b z => h _ z) a
  | is_ => cases y <;> first | exact False.elim a | exact h _ a
  | isnt => cases y <;> first | exact False.elim a | exact h _ a
  | isn => exact innW_mono h a
  | ntn => exact innW_mono (fun b z => h _ z) a
end Pi

/-! PiErr: a caught exception that is kept as a value. -/
namespace Pi
open PySem L2 PyProof.Rows
/-- an exception's object, of the class cls, at a -/
def ErrO (cls : Value) (a : Addr) : HO := .ext fun h => ∃ (ob : Obj) (us : Array Value), h.get? a = some ob ∧ Zc cls none ob ∧ ob.data = .fields us
theorem errO_ok {P : Program} {w : World} {H : Hp} {h : Heap} {a : Addr} {cls : Value} {ob : Obj} {us : Array Value} (e : h.get? a = some ob) (z : Zc cls none ob) (d : ob.data = .fields us) : ObjOk P w H h a (ErrO cls a) :=
  ⟨⟨ob, us, e, z, d⟩, ⟨ob, e⟩, fun _ _ ⟨o, v, q, r⟩ k => ⟨o, v, k o q, r⟩⟩
section
variable {X : Cx} {pins : List (Addr × Obj)} {σ : L2.St} {H : Hp} {st : Shared}
/-- an exception's object that the def's run has made is tracked from here -/
theorem track {a : Addr} {ob : Obj} {us : Array Value} {cls : Value} (I : Inv X pins σ H st) (e : st.heap.get? a = some ob) (z : Zc cls none ob) (d : ob.data = .fields us) (na : H a = none) (fr : X.s_0.heap.get? a = none) (nL : a ≠ X.env.locals)
    (np : ∀ p ∈ X.pn ++ pins, p.1 ≠ a) : Inv X pins σ (upd H a (ErrO cls a)) st := by
  have keep : ∀ {b : Addr} {u : HO}, H b = some u → upd H a (ErrO cls a) b = some u := fun {b u} q => by rw [upd_ne (fun y => by rw [y, na] at q; cases q)]; exact q
  have none_ : ∀ {b : Addr}, b ≠ a → H b = none → upd H a (ErrO cls a) b = none := fun {b} ne q => by rw [upd_ne ne]; exact q
  have B := I.base
  exact
    { ok := I.ok, os := I.os, bare := I.bare, loc := I.loc, cell := I.cell, len := I.len
      base := { keep := B.keep, slot := B.slot, there := B.there, tups := fun b xs q => keep (B.tups b xs q), frzs := fun b o u q => keep (B.frzs b o u q)
                free := fun b o q n hx => none_ (fun y => by rw [y, fr] at q; cases q) (B.free b o q n hx)
                tbls := fun b ps q => let ⟨more, y⟩ := B.tbls b ps q; ⟨more, keep y⟩ }
      free := none_ nL.symm I.free
      freeC := fun y c hc => none_ (fun ec => by
        obtain ⟨v, o, ho, hd⟩ := I.cell y c hc
        rw [ec, e] at ho
        cases ho
        rw [d] at hd
        cases hd) (I.freeC y c hc)
      pin := fun p hp => let ⟨p1, p2, p3⟩ := I.pin p hp; ⟨p1, none_ (np p hp) p2, p3⟩
      hok := fun b u q => by
        by_cases y : b = a
        · subst y
          rw [upd_same] at q
          cases q
          exact errO_ok e z d
        · rw [upd_ne y] at q
          exact (I.hok b u q).stay (fun _ _ _ r => r) (fun _ r => keep r) fun _ _ r => keep r }
/-- a frame is no exception -/
theorem no_frame {h B : Heap} {l : List Env} {a : Addr} {o : Obj} {us : Array Value} (ff : h.FunFrames B l) (e : h.get? a = some o) (d : o.data = .fields us) : a ∉ frs l := fun m => by
  obtain ⟨_, o2, e2, no⟩ := ff.mem m
  rw [e] at e2
  cases e2
  exact no _ d
theorem sky_none {B : Heap} {l : List Env} {a L : Addr} {Z : Obj → Prop} {h : Heap} (k : Sky B l a Z L h) : B.get? a = none := by
  rcases k with k | k | k
  · exact k.2.1
  · exact k.2.1
  · exact k.2.1
variable {x n y : Str} {c : Value} {i j : Nat} {body : List Stmt} {np p1 p2 p3 pos' pos : Pos} {tb : WX → TS}
/-- what the catch wishes -/
def wErr (K : PySem.W.Frag) (c : Value) (i j n : Nat) (D : Ends) : WX := fun cls d σ H => d = none ∧ PySem.W.exmOne K cls c = some true ∧ ∀ a, H a = none → σ.length = n → D.nx (((σ.set i (some (.ref a))).set j (some (.ref a))).set i none) (upd H a (ErrO cls a))
theorem try_err (hs : X.stack = X.env :: X.outer) (hf : X.env.frame = some X.env.locals) (hex : X.ex = []) (hN : X.N.Nodup) (hi : X.N[i]? = some n) (hj : X.N[j]? = some y) (hln : X.env.kindOf n = some .local) (hly : X.env.kindOf y = some .local) (hc : Names X x c)
    (dn : (n == ("__debug__" : Str)) = false) (dn2 : (n == ("__classdict__" : Str)) = false)
    (hb : ∀ (W : WX) (pn : List (Addr × Obj)) (xe : Value → Shared → Prop), Takes (X.tr pn xe) W → PassesOwn (model X.prog X.w) X.A X.env xe → PSs (X.tr pn xe) body (tb W)) :
    PS X (.Try body [.ExceptHandler (some (.Name x np)) (some n) [.Assign [.Name y p1] (.Name n p2) p3] pos'] [] [] pos) (fun D σ H => tb (wErr X.K c i j X.N.length D) D σ H) := by
  refine ⟨fun pins st σ H D I h => wpAny_Try_except ?_⟩
  have ok := I.ok
  have afr : X.A.frames = some (X.env :: X.outer) := ok.frames.trans (congrArg some hs)
  refine wpAny_mono ((hb (wErr X.K c i j X.N.length D) (X.pn ++ pins) _ ?tk ?ps).run [] st σ H D (I.toTry _) h) (fun f s1 q => ?ok1) fun e s1 he => he
  case ps => exact PassesOwn.looking
  case ok1 =>
    cases f with
    | next => obtain ⟨φ, G, J, r⟩ := q; exact wpAny_execs_nil ⟨φ, G, J.ofTry ok, r⟩
    | brk => obtain ⟨φ, G, J, r⟩ := q; exact ⟨φ, G, J.ofTry ok, r⟩
    | cont => obtain ⟨φ, G, J, r⟩ := q; exact ⟨φ, G, J.ofTry ok, r⟩
    | ret u => obtain ⟨w, φ, G, J, rv, r⟩ := q; exact ⟨w, φ, G, J.ofTry ok, rv, r⟩
  case tk =>
    rintro u s2 ⟨a, B, sI, pins2, σ2, H2, cls, d, rfl, J0, ground, ups, sky, na, os, bare, dnone, hit, done⟩
    have J : Inv X pins σ2 H2 sI := J0.ofTry ok
    have skyX : Sky B (X.env :: X.outer) a (Zc cls d) X.env.locals s2.heap := hs ▸ sky
    subst dnone
    have nB := sky_none skyX
    show wpAny (model X.prog X.w) X.A (noteFrame (.ref a) X.env) _ _ _
    refine Sky.land Zc.steady afr hf skyX fun g1 fl1 up1 => ?_
    have J1 : Inv X pins σ2 H2 { s2 with heap := g1 } := J.landed ground fl1.1 (ups.trans up1) os bare
    obtain ⟨o1, us1, he1, hz1, hd1⟩ := fl1.there
    have nst := no_frame fl1.2.2.1 he1 hd1
    have nL : a ≠ X.env.locals := fun y => nst (List.mem_filterMap.mpr ⟨X.env, List.mem_cons_self, hf.trans (congrArg some y.symm)⟩)
    have nF : a ∉ X.fs := fun m => by
      obtain ⟨e, me, ee⟩ := List.mem_filterMap.mp m
      exact nst (List.mem_filterMap.mpr ⟨e, List.mem_cons_of_mem _ me, ee⟩)
    have notB : ∀ {o : Obj}, sI.heap.get? a = some o → False := fun {o} e => by
      have := ground a o e (by show a ∉ frs X.stack; rw [hs]; exact nst)
      rw [nB] at this
      cases this
    have fresh : X.s_0.heap.get? a = none := by
      cases q : X.s_0.heap.get? a with
      | none => rfl
      | some o =>
        obtain ⟨o', e'⟩ := J.base.there a o q (by rw [hex]; exact fun z => nomatch z)
        exact (notB e').elim
    have npin : ∀ p ∈ X.pn ++ pins, p.1 ≠ a := fun p hp y => notB (by have := (J.pin p hp).1; rw [y] at this; exact this)
    have K1 := J1.suite he1 hd1 na nL nF
    refine wpAny_handleBy_cons (codeAny_handlers_test ?_) (by intro z; cases z)
    have cl1 : PySem.W.Looks (model X.prog X.w) g1 (typeOf (.ref a)) cls := fun A Q E s k q => wpAny_typeOf_ref (k _ _ he1) (by rw [hz1.1]; exact q)
    have catch_ := PySem.W.exm_one (M := model X.prog X.w) J1.kIn cl1 hit
    have name_ : ∀ {Q : Value → Shared → Prop} {E : Value → Shared → Prop}, Q c { s2 with heap := g1 } → wpAny (model X.prog X.w) (X.A.mark (some (.ref a))) (eval (.Name x np) X.env) Q E { s2 with heap := g1 } := fun {Q E} q => by
      obtain ⟨gl, db, hm | ⟨hm, hv, nn⟩⟩ := hc
      · exact ld_glob (X := X.suite a ((a, o1) :: (X.pn ++ pins))) K1 gl hm q db
      · exact ld_blt (X := X.suite a ((a, o1) :: (X.pn ++ pins))) K1 gl hm hv q nn db
    refine name_ ?_
    refine catch_.here ?_
    refine codeAny_handlers_suite_as ?_
    refine HandSPX.lands_againZ fl1 fun g2 fl2 up2 => ?_
    have J2 : Inv X pins σ2 H2 { s2 with heap := g2 } := J.landed ground fl2.1 ((ups.trans up1).trans up2) os bare
    obtain ⟨o2, us2, he2, hz2, hd2⟩ := fl2.there
    have K2 := J2.suite he2 hd2 na nL nF
    refine store_ok (X := X.suite a ((a, o2) :: (X.pn ++ pins))) (v := .ref a) K2 hN hi (.inl hln) rfl (fun s5 K5 => ?_) (.inr hln)
    have body_ : PSs (X.suite a ((a, o2) :: (X.pn ++ pins))) [.Assign [.Name y p1] (.Name n p2) p3] (tAsg (tVar i) (gName j)) := pss_one (ps_set hN hj (.inl hly) (pe_var hi (.inl hln) dn dn2) rfl (.inr hly))
    have il : i < σ2.length := by rw [J2.len]; exact (List.getElem?_eq_some_iff.mp hi).1
    refine wpAny_mono (body_.run [] s5 _ H2 { nx := fun φ G => φ = (σ2.set i (some (.ref a))).set j (some (.ref a)) ∧ G = H2, rt := fun _ _ => False } K5 ⟨.ref a, List.getElem?_set_self il, rfl, rfl⟩) (fun f s6 fin => ?_) fun _ _ z => z.elim
    cases f with
    | next =>
      obtain ⟨φ, G, K6, e1, e2⟩ := fin
      subst e1 e2
      have he6 := (K6.pin (a, o2) (List.mem_append_left _ List.mem_cons_self)).1
      exact gone_ok (track (K6.unsuite ok) he6 hz2 hd2 na fresh nL npin) hN hi hln fun s7 K7 => ⟨_, _, K7, done a na J2.len⟩
    | brk => obtain ⟨_, _, _, z⟩ := fin; exact z.elim
    | cont => obtain ⟨_, _, _, z⟩ := fin; exact z.elim
    | ret u => obtain ⟨_, _, _, _, _, z⟩ := fin; exact z.elim
end
end Pi

/-! PiLam: f(lambda: e), f catching what e raises (guards told). -/
namespace Pi
open PySem L2 PyProof.Rows
section
variable {X : Cx} {pins : List (Addr × Obj)} {σ : L2.St} {H : Hp} {st : Shared}
theorem act_lam {CG : CXT} {EG : XK} {N2 : List Str} {q2 : Str} {sc2 : Scope} {g fl co : Addr} {cd2 md ct : Value} {prm : Arguments} {bd : Expr} {sco : Scope} {k i : Nat} {ar : Str} {pn : List (Addr × Obj)} {xe : Value → Shared → Prop} {W : WX} {E : XK} {tb : TE} {p1 p2 : Pos}
    (I : Inv X pins σ H st) (L : LamX.LamS X.env.scope sco) (at_ : st.heap.get? fl = some (PySem.W.kla_obj "<lambda>" (X.env.qual ++ "<lambda>") prm bd sco (cloFrom X.env.cells sco.names []) md co ct)) (nf : H fl = none) (nfr : fl ∉ frs X.stack)
    (bnd : bindArgs (PySem.W.kla_fn "<lambda>" (X.env.qual ++ "<lambda>") prm bd sco (cloFrom X.env.cells sco.names []) md (.ref co) ct) ⟨[], []⟩ = pure [])
    (tk : Takes ((cxOf CG X.prog X.w X.K X.mg X.base N2 q2 sc2 g cd2 X.A X.stack st H EG).tr pn xe) W) (hW : ∀ cls d φ G, E cls d G → W cls d φ G) (room : Room (k + 1) (X.A.deeper (envOfC q2 sc2 st.heap.objs.size g cd2))) (gu : X.A.guards = some [])
    (hb : ∀ (A : Around) (outer : List Env) (s' : Shared) (G : Hp), A.guards = some [] → Room k (A.deeper (LamX.lamEnv X sco s'.heap.objs.size fl co)) → PE (LamX.lamCx X A outer s' G E sco fl co) bd tb)
    (hN : N2[i]? = some ar) (hv : Vis sc2 ar) (n1 : (ar == ("__debug__" : Str)) = false) (n2 : (ar == ("__classdict__" : Str)) = false) :
    PE ((cxOf CG X.prog X.w X.K X.mg X.base N2 q2 sc2 g cd2 X.A X.stack st H EG).tr pn xe) (.Call (.Name ar p1) [] [] p2)
      (fun φ G Q => φ[i]? = some (some (.ref fl)) ∧ G co = some (LamX.CodeO co (X.env.qual ++ "<lambda>")) ∧ tb σ G Q) := by
  refine ⟨fun pz sz φ G Q IZ ⟨h1, h2, h3⟩ => wpAny_Call_Name_kw (thn ((pe_var (pos := p1) (i := i) hN hv n1 n2).run pz sz φ G (fun v G1 => v = .ref fl ∧ G1 = G) IZ ⟨.ref fl, h1, rfl, rfl⟩) fun u s1 hu => ?_)⟩
  obtain ⟨v, G1, I1, rel, rfl, rfl⟩ := hu
  have eu : u = Value.ref fl := rel
  subst eu
  have at1 : s1.heap.get? fl = some (PySem.W.kla_obj "<lambda>" (X.env.qual ++ "<lambda>") prm bd sco (cloFrom X.env.cells sco.names []) md co ct) := I1.base.keep fl _ at_ nf nfr (fun y => by cases (show fl ∈ ([] : List Addr) from y))
  have un1 : Un (frs X.stack) [] H G1 st.heap s1.heap := I1.base
  have held : ∃ (oc : Obj) (vs : Array Value) (tk : Tok), s1.heap.get? co = some oc ∧ oc.data = .fields vs ∧ vs[1]? = some (.str (X.env.qual ++ "<lambda>") tk) := (I1.hok co _ h2).1
  have runs : codeAny (model X.prog X.w) (X.A.deeper (envOfC q2 sc2 st.heap.objs.size g cd2)) (.call (.ref fl) ⟨[], []⟩) (CR (L2.CX X.prog X.w) (envOfC q2 sc2 st.heap.objs.size g cd2 :: X.stack) X.prog X.w G1 s1 Q E) s1 := by
    obtain ⟨oc, vs, tok, e1, e2, e3⟩ := held
    refine PySem.W.kla_callFunE room.depth at1 rfl L.co L.gen rfl ⟨co, oc, vs, tok, rfl, e1, e2, e3⟩ ?_
    rw [bnd]
    refine wpAny_pure (wpAny_newFunctionEnv (fun y hy => (L.own y hy).2) (fun y hy => (by cases hy)) (fun h2' ns2 but => ⟨I1.nolimit.fresh _ but, ?_⟩) L.kind)
    have same : ∀ b o, s1.heap.get? b = some o → h2'.get? b = some o := fun b o e => but.extBut b o (Nat.ne_of_lt (Heap.lt_size e)) (Heap.get?_push_of_some _ e)
    have J : Inv (LamX.lamCx X (X.A.deeper (envOfC q2 sc2 st.heap.objs.size g cd2)) (envOfC q2 sc2 st.heap.objs.size g cd2 :: X.stack) s1 G1 E sco fl co) [] σ G1 { s1 with heap := h2', toks := s1.toks + ([] : List (Str × Value)).length } :=
      LamX.lam_start2 I L I1.env0 room.hd un1 ns2 same
    show codeAny _ _ (.expr bd (LamX.lamEnv X sco s1.heap.objs.size fl co)) _ _
    refine PySem.W.kla_codeExpr (wpAny_mono ((hb (X.A.deeper (envOfC q2 sc2 st.heap.objs.size g cd2)) _ s1 G1 gu (room.deeper _)).run [] _ _ G1 Q J h3) (fun v s' hv => ?_) fun e s' he => he)
    obtain ⟨z, G', J', rz, qz⟩ := hv
    exact ⟨z, G', J'.os, J'.bare, J'.base, J'.hok, rz, qz⟩
  have out := passes_call (X := (cxOf CG X.prog X.w X.K X.mg X.base N2 q2 sc2 g cd2 X.A X.stack st H EG).tr pn xe) (E := E) tk hW
  refine PySem.W.callWith_F0 ⟨_, _, _, _, at1⟩ (wpAny_call (codeAny_mono runs fun r s' hq => ?_))
  match r, hq with
  | .error e, hq => exact out pz φ G1 s1 e s' I1 hq
  | .ok (.ret u), hq => exact I1.after hq
end
/-- the def that calls what it gets and gives back the error, if one comes -/
def caughtBody (ar v er ke : Str) (p1 p2 p3 p4 p5 p6 p7 p8 p9 p10 p11 p12 p13 p14 : Pos) (j1 : Nat) : List Stmt :=
  [.Assign [.Name v p1] (.Constant .none j1 p2) p3,
   .Try [.Expr (.Call (.Name ar p4) [] [] p5) p6] [.ExceptHandler (some (.Name ke p7)) (some er) [.Assign [.Name v p8] (.Name er p9) p10] p11] [] [] p12,
   .Return (some (.Name v p13)) p14]
section
variable {X : Cx}
/-- what the def gives back: None, or the error that the work raised -/
def givesErr (K : PySem.W.Frag) (CS : Addr) (tl : XK → Hp → VK → Prop) (H : Hp) (Q : VK) : Prop :=
  tl (fun cls d G => d = none ∧ PySem.W.exmOne K cls (.ref CS) = some true ∧ ∀ a, G a = none → Q (.ref a) (upd G a (ErrO cls a))) H fun _ G => Q .non G
structure CauS (sg : Scope) (ar v er ke : Str) : Prop where
  nd : [ar, v, er].Nodup
  l0 : sg.names.lookup ar = some .local
  l1 : sg.names.lookup v = some .local
  l2 : sg.names.lookup er = some .local
  lk : sg.names.lookup ke = some .globalImplicit
  b0 : (ke == ("__debug__" : Str)) = false
  b1 : (er == ("__debug__" : Str)) = false
  b2 : (er == ("__classdict__" : Str)) = false
  b3 : (v == ("__debug__" : Str)) = false
  b4 : (v == ("__classdict__" : Str)) = false
theorem caught_run {x ar v er ke q : Str} {sg : Scope} {g CS : Addr} {cdg : Value} {p1 p2 p3 p4 p5 p6 p7 p8 p9 p10 p11 p12 p13 p14 : Pos} {j1 : Nat} (S : CauS sg ar v er ke) (hm : X.mg ke = some (.ref CS)) {f co : Addr} {st : Shared} {H : Hp} {Q : VK} {tl : XK → Hp → VK → Prop}
    (act : ∀ (W : WX) (pn : List (Addr × Obj)) (xe : Value → Shared → Prop) (E : XK) (a1 a2 : Pos), Takes ((cxOf C8.CX0 X.prog X.w X.K X.mg X.base [ar, v, er] x sg g cdg X.A X.stack st H C8.E0).tr pn xe) W → (∀ cls d φ G, E cls d G → W cls d φ G) →
      PE ((cxOf C8.CX0 X.prog X.w X.K X.mg X.base [ar, v, er] x sg g cdg X.A X.stack st H C8.E0).tr pn xe) (.Call (.Name ar a1) [] [] a2) (fun φ G Q => φ[0]? = some (some (.ref f)) ∧ G co = some (LamX.CodeO co q) ∧ tl E G Q))
    (hco : H co = some (LamX.CodeO co q)) (h : givesErr X.K CS tl H Q) :
    ∃ t, PSs (cxOf C8.CX0 X.prog X.w X.K X.mg X.base [ar, v, er] x sg g cdg X.A X.stack st H C8.E0).nox (caughtBody ar v er ke p1 p2 p3 p4 p5 p6 p7 p8 p9 p10 p11 p12 p13 p14 j1) t ∧
      t { nx := fun _ G => Q .non G, rt := Q } (L2.start [ar, v, er] [.ref f]) H := by
  have glk : Gl (cxOf C8.CX0 X.prog X.w X.K X.mg X.base [ar, v, er] x sg g cdg X.A X.stack st H C8.E0).nox ke := S.lk
  have s1 := ps_set (X := (cxOf C8.CX0 X.prog X.w X.K X.mg X.base [ar, v, er] x sg g cdg X.A X.stack st H C8.E0).nox) (i := 1) (x := v) (pos' := p1) (pos := p3) S.nd rfl (.inl S.l1) (pe_non (j := j1) (pos := p2)) rfl (.inr S.l1)
  have s2 := try_err (X := (cxOf C8.CX0 X.prog X.w X.K X.mg X.base [ar, v, er] x sg g cdg X.A X.stack st H C8.E0).nox) (x := ke) (n := er) (y := v) (c := .ref CS) (i := 2) (j := 1) (np := p7) (p1 := p8) (p2 := p9) (p3 := p10) (pos' := p11) (pos := p12) (body := [.Expr (.Call (.Name ar p4) [] [] p5) p6])
    (tb := fun W D φ G => ∃ E : XK, (∀ cls d φ' G', E cls d G' → W cls d φ' G') ∧ φ[0]? = some (some (.ref f)) ∧ G co = some (LamX.CodeO co q) ∧ tl E G fun _ G' => D.nx φ G') rfl rfl rfl S.nd rfl rfl S.l2 S.l1 ⟨glk, S.b0, .inl hm⟩ S.b1 S.b2
    (fun W pn xe tk _ => ⟨fun pins s' φ G D I ⟨E, hW, h1, h2, h3⟩ => (pss_one (ps_expr (pos := p6) (act W pn xe E p4 p5 tk hW) rfl)).run pins s' φ G D I ⟨h1, h2, h3⟩⟩)
  have s3 := ps_ret (X := (cxOf C8.CX0 X.prog X.w X.K X.mg X.base [ar, v, er] x sg g cdg X.A X.stack st H C8.E0).nox) (pos := p14) (pe_var (i := 1) (x := v) (pos := p13) rfl (.inl S.l1) S.b3 S.b4)
  refine ⟨_, pss_cons s1 (pss_cons s2 (pss_one s3)), ?_⟩
  have e : (fun (_ : V) (G : Hp) => Q .non G) = fun (_ : V) (G : Hp) => ∃ z, (some (some V.non) : Option (Option V)) = some (some z) ∧ Q z G := by
    funext _ G
    apply propext
    exact ⟨fun y => ⟨_, rfl, y⟩, fun ⟨z, ez, y⟩ => by cases ez; exact y⟩
  unfold givesErr at h
  rw [e] at h
  refine ⟨_, ?_, rfl, hco, h⟩
  rintro cls d φ G ⟨h1, h2, h3⟩
  refine ⟨h1, h2, fun a na hl => ⟨.ref a, ?_, h3 a na⟩⟩
  rw [List.getElem?_set_ne (by decide), List.getElem?_set_self (by rw [List.length_set, hl]; exact (by decide : 1 < 3))]
/-- the tables that are told: those of Tb -/
def TabsP (Tb : Addr → Str → Prop) (H : Hp) : Prop := ∀ P q, Tb P q → LamX.TabS H P q
open Classical in
theorem tabs_list {pins : List (Addr × Obj)} {σ : L2.St} {H : Hp} {st : Shared} (I : Inv X pins σ H st) {Tb : Addr → Str → Prop} (one : ∀ P q q', Tb P q → Tb P q' → q = q') (hT : TabsP Tb H) :
    ∃ T : List (Addr × Str), (∀ p ∈ T, Tb p.1 p.2) ∧ ∀ P q, Tb P q → (P, q) ∈ T := by
  refine ⟨(List.range st.heap.objs.size).filterMap fun P => if h : ∃ q, Tb P q then some (P, Classical.choose h) else none, fun p hp => ?_, fun P q h => ?_⟩
  · obtain ⟨P, _, e⟩ := List.mem_filterMap.mp hp
    split at e
    · rename_i h
      cases e
      exact Classical.choose_spec h
    · cases e
  · obtain ⟨ps, e1, _⟩ := hT P q h
    have e2 : st.heap.get? P = some { cls := .none, data := .fields ps } := I.hok P _ e1
    refine List.mem_filterMap.mpr ⟨P, List.mem_range.mpr (Heap.lt_size e2), ?_⟩
    have hq : ∃ q, Tb P q := ⟨q, h⟩
    rw [dif_pos hq, one P q _ h (Classical.choose_spec hq)]
/-- f(lambda: body), f giving back the error -/
theorem pe_cau {x ar v er ke : Str} {g c P CS : Addr} {k : Nat} {pg : Arguments} {sg : Scope} {dV kV doc pm cdv ct oc : Value} {an od : Option Addr} {osl : Array (Option Value)} {q1 q2 q3 q4 q5 q6 q7 q8 q9 q10 q11 q12 q13 q14 : Pos} {j1 : Nat}
    {prm : Arguments} {bd : Expr} {sco : Scope} {t : XK → TE} {p lpos pos : Pos} (S : CauS sg ar v er ke) (hke : X.mg ke = some (.ref CS)) (hg : Gl X x) (hm : X.mg x = some (.ref g)) (hk : PySem.W.keepIn X.K (.ref g) = true)
    (lk : X.K.lookup g = some ⟨oc, od, .func (PySem.W.fnOf x x pg (caughtBody ar v er ke q1 q2 q3 q4 q5 q6 q7 q8 q9 q10 q11 q12 q13 q14 j1) sg dV kV doc pm an cdv ct), osl⟩) (hcg : PySem.W.codeIn X.K cdv x = true)
    (hb : ∀ u : Value, bindArgs (PySem.W.fnOf x x pg (caughtBody ar v er ke q1 q2 q3 q4 q5 q6 q7 q8 q9 q10 q11 q12 q13 q14 j1) sg dV kV doc pm an cdv ct) ⟨[u], []⟩ = pure [(ar, u)]) (Sg : FnScope [ar, v, er] [ar] sg)
    (TB : LamX.TabB X.base X.mg c P) (hcode : X.env.code = .ref c) (hr : Room (k + 2) X.A) (gu : X.A.guards = some []) (L : LamX.LamS X.env.scope sco) (hdef : defaultsOf prm X.env = ([], []))
    (hbind : ∀ (q : Str) (cl : List (Str × Addr)) (pm cv ctv : Value), bindArgs (PySem.W.kla_fn "<lambda>" q prm bd sco cl pm cv ctv) ⟨[], []⟩ = pure [])
    (hbody : ∀ (A : Around) (outer : List Env) (s : Shared) (H : Hp) (E : XK) (f c' : Addr), A.guards = some [] → Room k (A.deeper (LamX.lamEnv X sco s.heap.objs.size f c')) → PE (LamX.lamCx X A outer s H E sco f c') bd (t E))
    (hdb : (x == ("__debug__" : Str)) = false) (hd : (ar == ("__debug__" : Str)) = false) (hcd : (ar == ("__classdict__" : Str)) = false) :
    PE X (.Call (.Name x p) [.Lambda prm bd sco lpos] [] pos) (fun σ H Q => ∃ Tb : Addr → Str → Prop, TabsP Tb H ∧ Tb P (X.env.qual ++ "<lambda>") ∧ (∀ P q q', Tb P q → Tb P q' → q = q') ∧
      ∀ H1, LamX.ExtN H H1 → TabsP Tb H1 → givesErr X.K CS (fun E H' Q' => t E σ H' Q') H1 Q) := by
  refine ⟨fun pins st σ H Q I ⟨Tb, hT, hP, one, h⟩ => ?_⟩
  obtain ⟨T, T1, T2⟩ := tabs_list I one hT
  refine wpAny_Call_Name_kw (ld_glob I hg hm (PySem.W.callWith_K (h₀ := X.base) I.ok.mod.kin hk ?_ rfl rfl) hdb)
  show wpAny _ _ (spliced ((false, eval (.Lambda prm bd sco lpos) X.env) :: backTo pos (starEach [] X.env))) _ _ _
  refine Calls.spliced_cons (LamX.lam_make2 (T := T) I TB hcode (T2 _ _ hP) (fun y hy e => one _ _ _ (T1 y hy) (by rw [e]; exact hP)) (fun y hy => hT _ _ (T1 y hy)) hdef (L.has I.ok) fun fl co md ctv H1 st1 I1 grow tabs1 at_ nf nfr hco => ?_)
  refine Calls.spliced_nil ⟨I1.kIn, ?_⟩
  have runs : codeAny (model X.prog X.w) X.A (.call (.ref g) ⟨[.ref fl], []⟩) (CR C8.CX0 X.stack X.prog X.w H1 st1 Q C8.E0) st1 := by
    refine LamX.run_ofS (N := [ar, v, er]) (ps := [ar]) (us := [.ref fl]) (vs := [.ref fl]) lk hcg Sg hr I1.env0 (.of_eq (hb _)) (.cons rfl .nil) rfl fun room => ?_
    obtain ⟨t2, ht, hq⟩ := caught_run (X := X) (x := x) (f := fl) (co := co) (st := st1) (H := H1) (Q := Q) (g := g) (cdg := cdv) (q := X.env.qual ++ "<lambda>") (tl := fun E H' Q' => t E σ H' Q') (p1 := q1) (p2 := q2) (p3 := q3) (p4 := q4) (p5 := q5) (p6 := q6) (p7 := q7) (p8 := q8) (p9 := q9) (p10 := q10) (p11 := q11) (p12 := q12) (p13 := q13) (p14 := q14) (j1 := j1) S hke
      (fun W pn xe E a1 a2 tk hW => act_lam I1 L at_ nf nfr (hbind _ _ _ _ _) tk hW room gu (fun A outer s G g1 r1 => hbody A outer s G E fl co g1 r1) rfl (.inl S.l0) hd hcd) hco (h H1 grow fun P' q' hq' => tabs1 _ (T2 _ _ hq'))
    exact ⟨t2, ht.nox, hq⟩
  refine wpAny_call (codeAny_mono runs fun r s2 hr2 => ?_)
  match r, hr2 with
  | .error e, hr2 => exact (show False from hr2).elim
  | .ok (.ret u), hr2 => exact I1.after hr2
/-- isinstance of None, or of a caught error, for an own class -/
theorem call_iso : CallR X (.builtin "isinstance") (fun xs H Q => ∃ x C b, xs = [x, .ref C] ∧ ((x = .non ∧ PySem.W.kitOne X.K (.type "NoneType") (.ref C) = some b) ∨ ∃ a D, x = .ref a ∧ H a = some (ErrO (.ref D) a) ∧ ExcC X.K D ∧ PySem.W.kitOne X.K (.ref D) (.ref C) = some b) ∧ Q (.bl b) H) := by
  intro pins st σ H xs us Q I r ⟨x, C, b, e, hx, q⟩
  subst e
  rcases hx with ⟨rfl, hk⟩ | ⟨a, D, rfl, ha, Cl, hk⟩
  · exact call_isi pins st σ H _ us Q I r ⟨.non, .ref C, _, _, b, rfl, .own C, .base .non, hk, q⟩
  · obtain ⟨u1, u2, rfl, r1, r2⟩ := vals2 r
    have e1 : u1 = Value.ref a := r1
    have e2 : u2 = Value.ref C := r2
    subst e1 e2
    obtain ⟨ob, us', h1, h2, h3⟩ := (I.hok a _ ha).1
    obtain ⟨oc, od, dt, sl⟩ := ob
    obtain ⟨z1, z2⟩ := h2
    dsimp only at z1 z2 h3
    subst z1 z2 h3
    have J : PySem.W.InstAt st.heap a _ D none := ⟨h1, rfl, rfl, trivial⟩
    exact PySem.W.kia_one (PySem.W.handS_kitx_exc Cl.hg Cl.hk Cl.hs Cl.hd Cl.ha Cl.hn Cl.ht Cl.hm) I.kIn J hk (fun z => nomatch z) fun tk => ⟨.bl b, H, I.tok tk, rfl, q⟩
end
end Pi

/-! PiDict: dicts whose keys are numbers, texts, None and tuples of such (mixed, nested), in the raw heap. -/
namespace Pi
open PySem SeqAt
/-- a row: the key, the value that is the key, what stands there -/
abbrev NR := NestedKey × Value × Value
def NR.ent (w : World) (x : NR) : DictEntry := ⟨x.1.hash w, x.2.1, x.2.2⟩
def KOk (h : Heap) (k : NestedKey) (v : Value) : Prop := NestedIs h k v ∧ k.depth ≤ 8
/-- rows of different keys -/
def NRs (h : Heap) (xs : List NR) : Prop := (∀ x ∈ xs, KOk h x.1 x.2.1) ∧ (xs.map (·.1)).Nodup
/-- the dict at d has these rows; nothing was ever taken out -/
def NDict (w : World) (h : Heap) (d : Addr) (xs : List NR) : Prop := ∃ o es, h.get? d = some o ∧ o.ExactDict ∧ o.data = .dict es xs.length ∧ es.toList = xs.map (NR.ent w)
theorem NDict.typeIs {w : World} {s : Shared} {d : Addr} {xs : List NR} (h : NDict w s.heap d xs) : s.TypeIs (.ref d) "dict" := by
  obtain ⟨o, _, e, c, _⟩ := h
  exact ⟨o, e, c.1⟩
def ixN' (xs : List NR) (k : NestedKey) : Option Nat := xs.findIdx? fun x => decide (x.1 = k)
def valN (xs : List NR) (k : NestedKey) : Option Value := (xs.find? fun x => decide (x.1 = k)).map (·.2.2)
theorem ixN_some {xs : List NR} {k : NestedKey} {i : Nat} (h : ixN' xs k = some i) : ∃ p, xs[i]? = some (k, p) ∧ (∀ j, j < i → ∀ q, xs[j]? ≠ some (k, q)) ∧ valN xs k = some p.2 := by
  induction xs generalizing i with
  | nil => cases h
  | cons x xs ih =>
    unfold ixN' at h
    rw [List.findIdx?_cons] at h
    by_cases e : x.1 = k
    · rw [decide_eq_true e, if_pos rfl] at h
      cases h
      obtain ⟨a, b⟩ := x
      have e : a = k := e
      subst e
      exact ⟨b, rfl, fun j hj => absurd hj (Nat.not_lt_zero j), by simp [valN]⟩
    · rw [decide_eq_false e, if_neg Bool.false_ne_true] at h
      obtain ⟨j, hj, rfl⟩ := Option.map_eq_some_iff.mp h
      obtain ⟨p, h1, h2, h3⟩ := ih hj
      refine ⟨p, h1, fun m hm q hq => ?_, ?_⟩
      · cases m with
        | zero =>
          have hq : some x = some (k, q) := hq
          injection hq with hq
          exact e (by rw [hq])
        | succ m => exact h2 m (by omega) q hq
      · unfold valN at h3 ⊢
        rw [List.find?_cons, decide_eq_false e]
        exact h3
theorem ixN_none {xs : List NR} {k : NestedKey} (h : ixN' xs k = none) : (∀ x ∈ xs, x.1 ≠ k) ∧ valN xs k = none := by
  have h := List.findIdx?_eq_none_iff.mp h
  refine ⟨fun x hx e => by simpa [e] using h x hx, ?_⟩
  unfold valN
  rw [List.find?_eq_none.mpr fun x hx => by simpa using h x hx]
  rfl
section
variable {w : World}
theorem ents_get {es : Array DictEntry} {xs : List NR} (he : es.toList = xs.map (NR.ent w)) (i : Nat) : es[i]? = (xs[i]?).map (NR.ent w) := by
  rw [← Array.getElem?_toList, he, List.getElem?_map]
theorem ents_size {es : Array DictEntry} {xs : List NR} (he : es.toList = xs.map (NR.ent w)) : es.size = xs.length := by
  have := congrArg List.length he
  rwa [List.length_map, Array.length_toList] at this
theorem ents_mem {es : Array DictEntry} {xs : List NR} (he : es.toList = xs.map (NR.ent w)) {e : DictEntry} (h : e ∈ es) : ∃ x ∈ xs, e = x.ent w := by
  have q : e ∈ xs.map (NR.ent w) := by rw [← he]; exact Array.mem_toList_iff.mpr h
  obtain ⟨x, hx, e⟩ := List.mem_map.mp q
  exact ⟨x, hx, e.symm⟩
theorem find_filt {α : Type} {p q : α → Bool} (h : ∀ x, q x = true → p x = true) : ∀ {l : List α}, (l.filter p).find? q = l.find? q
  | [] => rfl
  | x :: l => by
    rw [List.filter_cons, List.find?_cons]
    cases e : q x with
    | true => rw [if_pos (h x e), List.find?_cons, e]
    | false =>
      split
      · rw [List.find?_cons, e]
        exact find_filt h
      · exact find_filt h
/-- the places of the same hash, searched for the key, are the whole searched -/
theorem places_find {es : Array DictEntry} {xs : List NR} (he : es.toList = xs.map (NR.ent w)) (k : NestedKey) :
    (placesWithHash es.size (fun i => es[i]?.map (·.hash)) (k.hash w)).find? (fun i => decide ((xs[i]?).map (·.1) = some k)) = ixN' xs k := by
  have hs := ents_size he
  have key : ∀ i : Nat, decide ((xs[i]?).map (·.1) = some k) = true → (es[i]?.map (·.hash) == some (k.hash w)) = true := fun i h => by
    have h := of_decide_eq_true h
    rw [ents_get he i]
    cases q : xs[i]? with
    | none => rw [q] at h; cases h
    | some x =>
      rw [q] at h
      have h : some x.1 = some k := h
      injection h with h
      show (some (x.1.hash w) == some (k.hash w)) = true
      rw [h]
      exact beq_self_eq_true _
  show ((List.range es.size).filter _).find? _ = _
  rw [find_filt (fun i h => key i h)]
  rw [hs]
  cases q : ixN' xs k with
  | none =>
    obtain ⟨n, _⟩ := ixN_none q
    refine List.find?_eq_none.mpr fun i _ z => ?_
    have z := of_decide_eq_true z
    cases r : xs[i]? with
    | none => rw [r] at z; cases z
    | some x =>
      rw [r] at z
      have z : some x.1 = some k := z
      injection z with z
      exact n x (List.mem_of_getElem? r) z
  | some i =>
    obtain ⟨p, h1, h2, _⟩ := ixN_some q
    refine List.find?_range_eq_some.mpr ⟨?_, List.mem_range.mpr (List.getElem?_eq_some_iff.mp h1).1, fun j hj => ?_⟩
    · rw [h1]; exact decide_eq_true rfl
    · cases r : xs[j]? with
      | none => rfl
      | some x =>
        have : x.1 ≠ k := fun e => h2 j hj x.2 (by rw [r, ← e])
        simp [this]
section
variable {prog : Program} {A : Around} {E : Value → Shared → Prop} {s : Shared} {k : NestedKey} {v : Value}
theorem key_eq {x y : NestedKey} {a b : Value} {Q : Bool → Shared → Prop} (hu : A.units + 8 < cLine) (hx : KOk s.heap x a) (hy : KOk s.heap y b) (h : Q (decide (x = y)) s) : wpAny (model prog w) A (eqBool a b) Q E s :=
  eqAt_key x y A s a b hx.1 hy.1 (by have := hx.2; have := Nat.min_le_left x.depth y.depth; omega) _ _ _ _ (by rw [← NestedKey.decide_eq]; exact h)
theorem key_hash {Q : Int → Shared → Prop} (hu : A.units + 8 < cLine) (hk : KOk s.heap k v) (h : Q (k.hash w) { s with toks := s.toks + k.draws }) : wpAny (model prog w) A (pyHash v) Q E s :=
  pyHash_key k v A s Q hk.1 (by have := hk.2; omega) h
/-- the search among places -/
theorem loop_n {xs : List NR} {pl : List Nat} {M : Model} {F : Nat → (Option (Option Nat) × Option Nat) → Sem (ForInStep (Option (Option Nat) × Option Nat))}
    (hF : ∀ (i : Nat) (x : NR) (hit : Option Nat) (R : ForInStep (Option (Option Nat) × Option Nat) → Shared → Prop), xs[i]? = some x → (x.1 = k → hit = none) → (x.1 = k → R (.yield (none, some i)) s ∧ R (.done (some (some i), hit)) s) → (x.1 ≠ k → R (.yield (none, hit)) s) → wpAny M A (F i (none, hit)) R E s)
    (hl : ∀ i ∈ pl, i < xs.length) (hnd : (xs.map (·.1)).Nodup) (hpl : pl.Nodup) :
    wpAny M A (forIn pl (none, none) F) (fun r s' => s' = s ∧ (r = (none, pl.find? fun i => decide ((xs[i]?).map (·.1) = some k)) ∨ r.1 = some (pl.find? fun i => decide ((xs[i]?).map (·.1) = some k)))) E s := by
  refine wpAny_forIn_list F (fun rest r s' => s' = s ∧ ∃ hit, r = (none, hit) ∧ (∀ i ∈ rest, i < xs.length) ∧ rest.Nodup ∧
    ((hit = none ∧ (rest.find? fun i => decide ((xs[i]?).map (·.1) = some k)) = pl.find? fun i => decide ((xs[i]?).map (·.1) = some k)) ∨
     ∃ j, hit = some j ∧ (pl.find? fun i => decide ((xs[i]?).map (·.1) = some k)) = some j ∧ ∀ i ∈ rest, (xs[i]?).map (·.1) ≠ some k)) _ ?_ ?_ _ _ ⟨rfl, none, rfl, hl, hpl, .inl ⟨rfl, rfl⟩⟩
  · rintro i rest r s' ⟨rfl, hit, rfl, hr, hn, hh⟩
    have hi := hr i List.mem_cons_self
    have hg : xs[i]? = some xs[i] := List.getElem?_eq_getElem hi
    have hr' : ∀ j ∈ rest, j < xs.length := fun j hj => hr j (List.mem_cons_of_mem _ hj)
    have hn' := List.nodup_cons.mp hn
    have other : xs[i].1 = k → ∀ j ∈ rest, (xs[j]?).map (·.1) ≠ some k := fun e j hj z => by
      have h1 : (xs.map (·.1))[i]? = some k := by rw [List.getElem?_map, hg]; exact congrArg some e
      have h2 : (xs.map (·.1))[j]? = some k := by rw [List.getElem?_map]; exact z
      have : i = j := (List.getElem?_inj (by rw [List.length_map]; exact hi) hnd).mp (h1.trans h2.symm)
      exact hn'.1 (this ▸ hj)
    refine hF i xs[i] hit _ hg (fun e => ?_) (fun e => ?_) fun e => ?_
    · rcases hh with ⟨h, _⟩ | ⟨j, _, _, h⟩
      · exact h
      · exact absurd (by rw [hg]; exact congrArg some e) (h i List.mem_cons_self)
    · have hf : pl.find? (fun i => decide ((xs[i]?).map (·.1) = some k)) = some i := by
        rcases hh with ⟨_, h⟩ | ⟨j, _, _, h⟩
        · rw [← h, List.find?_cons_of_pos]
          rw [hg]
          exact decide_eq_true (congrArg some e)
        · exact absurd (by rw [hg]; exact congrArg some e) (h i List.mem_cons_self)
      refine ⟨⟨rfl, some i, rfl, hr', hn'.2, .inr ⟨i, rfl, hf, other e⟩⟩, rfl, .inr ?_⟩
      rw [hf]
    · have ne : ¬ decide ((xs[i]?).map (·.1) = some k) = true := fun z => by
        have z := of_decide_eq_true z
        rw [hg] at z
        injection z with z
        exact e z
      refine ⟨rfl, hit, rfl, hr', hn'.2, ?_⟩
      rcases hh with ⟨h1, h2⟩ | ⟨j, h1, h2, h3⟩
      · rw [List.find?_cons, Bool.eq_false_iff.mpr ne] at h2
        exact .inl ⟨h1, h2⟩
      · exact .inr ⟨j, h1, h2, fun m hm => h3 m (List.mem_cons_of_mem _ hm)⟩
  · rintro r s' ⟨rfl, hit, rfl, _, _, hh⟩
    refine ⟨rfl, .inl ?_⟩
    rcases hh with ⟨h1, h2⟩ | ⟨j, h1, h2, _⟩
    · rw [h1, ← h2]; rfl
    · rw [h1, h2]
theorem plain_n {xs : List NR} {d : Addr} {o : Obj} {es : Array DictEntry} {ep : Nat} {pl : List Nat} {Q : Option Nat → Shared → Prop} (hu : A.units + 8 < cLine) (hk : KOk s.heap k v) (ho : s.heap.get? d = some o) (hd : o.data = .dict es ep) (he : es.toList = xs.map (NR.ent w)) (hr : NRs s.heap xs)
    (hl : ∀ i ∈ pl, i < xs.length) (hh : ∀ i ∈ pl, (es[i]?.map (·.hash)) = some (k.hash w)) (hQ : Q (pl.find? fun i => decide ((xs[i]?).map (·.1) = some k)) s) : wpAny (model prog w) A (dictWalkPlain d v (k.hash w) es pl) Q E s := by
  unfold dictWalkPlain
  refine wpAny_bind ?_
  refine wpAny_forIn_list _ (fun rest r s' => s' = s ∧ r = (none, ()) ∧ (∀ i ∈ rest, i ∈ pl) ∧ (rest.find? fun i => decide ((xs[i]?).map (·.1) = some k)) = pl.find? fun i => decide ((xs[i]?).map (·.1) = some k)) _ ?_ ?_ _ _ ⟨rfl, rfl, fun _ h => h, rfl⟩
  · rintro i rest r s' ⟨rfl, rfl, hm, hf⟩
    have hi := hl i (hm i List.mem_cons_self)
    have hg : xs[i]? = some xs[i] := List.getElem?_eq_getElem hi
    have hx := hr.1 _ (List.getElem_mem hi)
    have ge : es[i]? = some (NR.ent w xs[i]) := by rw [ents_get he, hg]; rfl
    have hs := hh i (hm i List.mem_cons_self)
    rw [ge] at hs
    have hs : some ((xs[i]).1.hash w) = some (k.hash w) := hs
    injection hs with hs
    rw [ge]
    dsimp only
    rw [if_pos (show ((NR.ent w xs[i]).hash == k.hash w) = true from by rw [← hs]; exact beq_self_eq_true _)]
    refine wpAny_bind (wpAny_dictEpoch ho hd (wpAny_bind (key_eq hu hx hk (wpAny_bind (wpAny_dictEpoch ho hd ?_)))))
    rw [if_neg (by simp)]
    by_cases e : (xs[i]).1 = k
    · rw [decide_eq_true e, if_pos rfl]
      have q : pl.find? (fun i => decide ((xs[i]?).map (·.1) = some k)) = some i := by
        rw [← hf, List.find?_cons, hg]
        simp [e]
      rw [q] at hQ
      exact wpAny_bind (wpAny_rule (wpAny_pure (wpAny_pure hQ)))
    · rw [decide_eq_false e, if_neg Bool.false_ne_true]
      refine wpAny_bind (wpAny_rule (wpAny_pure ⟨rfl, rfl, fun j hj => hm j (List.mem_cons_of_mem _ hj), ?_⟩))
      rw [← hf, List.find?_cons, hg]
      simp [e]
  · rintro r s' ⟨rfl, rfl, _, hf⟩
    rw [← hf] at hQ
    exact wpAny_pure hQ
theorem places_ok {es : Array DictEntry} {xs : List NR} (he : es.toList = xs.map (NR.ent w)) {h : Int} : (∀ i ∈ placesWithHash es.size (fun i => es[i]?.map (·.hash)) h, i < xs.length) ∧ (∀ i ∈ placesWithHash es.size (fun i => es[i]?.map (·.hash)) h, es[i]?.map (·.hash) = some h) ∧ (placesWithHash es.size (fun i => es[i]?.map (·.hash)) h).Nodup := by
  refine ⟨fun i hi => ?_, fun i hi => ?_, List.Pairwise.filter _ List.nodup_range⟩
  · have := List.mem_range.mp (List.mem_filter.mp hi).1
    rwa [ents_size he] at this
  · exact eq_of_beq (List.mem_filter.mp hi).2
theorem tell_n {xs : List NR} {es : Array DictEntry} {Q : Bool → Shared → Prop} {pl : List Nat} (hk : KOk s.heap k v) (he : es.toList = xs.map (NR.ent w)) (hr : NRs s.heap xs) (h : Q false s) : wpAny (model prog w) A (tableMayTell v (pl.filterMap fun i => es[i]?.map (·.key))) Q E s := by
  unfold tableMayTell
  split
  · exact wpAny_pure h
  · refine wpAny_bind (quiet_key k v 8 s hk.1 hk.2 A E _ ?_)
    rw [if_neg (by decide)]
    refine wpAny_bind ?_
    refine wpAny_forIn_list _ (fun rest r s' => s' = s ∧ r = (none, ()) ∧ ∀ u ∈ rest, ∃ x ∈ xs, u = x.2.1) _ ?_ ?_ _ _ ⟨rfl, rfl, fun u hm => ?_⟩
    · rintro u rest r s' ⟨rfl, rfl, hm⟩
      obtain ⟨x, hx, rfl⟩ := hm u List.mem_cons_self
      have kx := hr.1 x hx
      refine wpAny_bind (quiet_key x.1 x.2.1 8 s' kx.1 kx.2 A E _ ?_)
      rw [if_neg (by decide)]
      exact wpAny_pure ⟨rfl, rfl, fun y hy => hm y (List.mem_cons_of_mem _ hy)⟩
    · rintro r s' ⟨rfl, rfl, _⟩
      exact wpAny_pure h
    · obtain ⟨i, _, e⟩ := List.mem_filterMap.mp hm
      cases q : es[i]? with
      | none => rw [q] at e; cases e
      | some z =>
        rw [q] at e
        have e : some z.key = some u := e
        injection e with e
        obtain ⟨x, hx, rfl⟩ := ents_mem he (Array.mem_of_getElem? q)
        exact ⟨x, hx, e.symm⟩
theorem wp_ite {α : Type} {M : Model} {c : Prop} [Decidable c] {a b : Sem α} {Q : α → Shared → Prop} (h1 : c → wpAny M A a Q E s) (h2 : ¬ c → wpAny M A b Q E s) : wpAny M A (if c then a else b) Q E s := by
  by_cases h : c
  · rw [if_pos h]; exact h1 h
  · rw [if_neg h]; exact h2 h
theorem text_is {h : Heap} {x : NestedKey} {u : Value} {y : Str} (hx : KOk h x u) (hu : isExactStrKey u = true) : u.isStr y = decide (x = .text y) := by
  obtain ⟨hx, _⟩ := hx
  cases hx with
  | text z t =>
    by_cases e : z = y
    · subst e
      rw [decide_eq_true rfl]
      simp [Value.isStr]
    · rw [decide_eq_false fun q => e (by injection q)]
      simp [Value.isStr, e]
  | none => cases hu
  | bool => cases hu
  | int => cases hu
  | tup => cases hu
theorem find_n {xs : List NR} {d : Addr} {o : Obj} {es : Array DictEntry} {ep : Nat} {Q : Option Nat → Shared → Prop} (hu : A.units + 8 < cLine) (hk : KOk s.heap k v) (ho : s.heap.get? d = some o) (hd : o.data = .dict es ep) (he : es.toList = xs.map (NR.ent w)) (hr : NRs s.heap xs)
    (hQ : Q (ixN' xs k) s) : wpAny (model prog w) A (dictFind d v (k.hash w)) Q E s := by
  obtain ⟨p1, p2, p3⟩ := places_ok (w := w) he (h := k.hash w)
  have pf := places_find he k
  unfold dictFind
  refine wpAny_holding ?_
  refine wpAny_bind (wpAny_dictEntries ho hd ?_)
  dsimp only
  generalize hpl : placesWithHash es.size (fun i => es[i]?.map (·.hash)) (k.hash w) = pl at p1 p2 p3 pf ⊢
  have inj : ∀ x ∈ xs, x.2.1 = v → x.1 = k := fun x hx e => NestedIs.inj _ _ _ (e ▸ (hr.1 x hx).1) hk.1
  split
  case' h_1 y tk =>
    have ek : k = .text y := by
      obtain ⟨q, _⟩ := hk
      cases q
      rfl
    by_cases hall : (es.all fun e => isExactStrKey e.key) = true
    case' pos =>
      rw [if_pos hall]
      have ix : es.findIdx? (fun e => e.key.isStr y) = ixN' xs k := by
        have q : es.findIdx? (fun e => e.key.isStr y) = es.toList.findIdx? (fun e => e.key.isStr y) := by
          obtain ⟨l⟩ := es
          simp only [List.findIdx?_toArray]
        rw [q, he, List.findIdx?_map]
        unfold ixN'
        have cong : ∀ (l : List NR), (∀ x ∈ l, (x.2.1).isStr y = decide (x.1 = k)) → l.findIdx? ((fun e => e.key.isStr y) ∘ NR.ent w) = l.findIdx? fun x => decide (x.1 = k) := fun l hl => by
          induction l with
          | nil => rfl
          | cons x l ih =>
            rw [List.findIdx?_cons, List.findIdx?_cons, ih fun z hz => hl z (List.mem_cons_of_mem _ hz)]
            show (if (x.2.1).isStr y = true then _ else _) = _
            rw [hl x List.mem_cons_self]
        refine cong xs fun x hx => ?_
        rw [ek]
        refine text_is (hr.1 x hx) ?_
        have hm : NR.ent w x ∈ es := Array.mem_toList_iff.mp (by rw [he]; exact List.mem_map.mpr ⟨x, hx, rfl⟩)
        exact (Array.all_eq_true_iff_forall_mem.mp hall) _ hm
      unfold foundByValue
      rw [ix]
      cases q : ixN' xs k with
      | none =>
        rw [q] at hQ
        exact wpAny_pure hQ
      | some i =>
        rw [q] at hQ
        obtain ⟨p, g1, _, _⟩ := ixN_some q
        have ge : es[i]? = some (NR.ent w (k, p)) := by rw [ents_get he, g1]; rfl
        dsimp only
        rw [ge]
        dsimp only
        refine wpAny_bind (wpAny_dictEpoch ho hd (wpAny_bind (key_eq hu (hr.1 _ (List.mem_of_getElem? g1)) hk (wpAny_bind (wpAny_dictEpoch ho hd ?_)))))
        rw [if_neg (by simp), decide_eq_true rfl, if_pos rfl]
        exact wpAny_bind (wpAny_rule (wpAny_pure hQ))
    rw [if_neg hall]
  all_goals
    refine wp_ite (fun _ => plain_n hu hk ho hd he hr p1 p2 (by rw [pf]; exact hQ)) fun hnc => ?_
  case' h_2 nv =>
    cases v
    case' str => exact absurd rfl (nv _ _)
    case' ref a =>
      have na : ¬ (es.any fun e => e.key == Value.ref a && e.hash != k.hash w) = true := by
        rw [← Array.any_toList, List.any_eq_true]
        rintro ⟨e, hin, hc⟩
        obtain ⟨x, hx, rfl⟩ := ents_mem he (Array.mem_toList_iff.mp hin)
        rw [Bool.and_eq_true] at hc
        have := inj x hx (eq_of_beq hc.1)
        rw [bne_iff_ne] at hc
        exact hc.2 (congrArg (NestedKey.hash w) this)
      dsimp only
      rw [if_neg na]
  all_goals
    try dsimp only
    refine wp_ite (fun _ => wpAny_bind (wpAny_pure ?_)) (fun _ => wpAny_bind (tell_n hk he hr ?_))
  all_goals
    rw [if_neg (by simp)]
    refine wpAny_bind (wpAny_mono (loop_n (k := k) (xs := xs) (fun i x hit R hg h1 h2 h3 => ?_) p1 hr.2 p3) (fun r s' hq => ?_) fun _ _ e => e)
  all_goals
    first
      | (rw [pf] at hq
         obtain ⟨rfl, e | e⟩ := hq
         · subst e
           exact wpAny_pure hQ
         · rw [e]
           exact wpAny_pure hQ)
      | skip
  all_goals
    have ge : es[i]? = some (NR.ent w x) := by rw [ents_get he, hg]; rfl
    rw [ge]
    dsimp only
    refine wp_ite (fun hh => ?_) (fun hh => wpAny_pure (h3 fun e => hh (by rw [← e]; exact beq_self_eq_true _)))
    refine wpAny_bind (wpAny_dictEpoch ho hd (wpAny_bind (key_eq hu (hr.1 x (List.mem_of_getElem? hg)) hk (wpAny_bind (wpAny_dictEpoch ho hd ?_)))))
    rw [if_neg (by simp)]
    refine wp_ite (fun he1 => ?_) fun he1 => ?_
    · have e1 := of_decide_eq_true he1
      rw [h1 e1, if_neg (by decide)]
      refine wpAny_bind (wpAny_rule (wp_ite (fun _ => wpAny_pure ?_) fun _ => wpAny_pure ?_))
      · have := (h2 e1).2
        rwa [h1 e1] at this
      · exact (h2 e1).1
    · refine wpAny_bind (wpAny_rule ?_)
      rw [if_neg (by simp)]
      exact wpAny_pure (h3 fun e => he1 (decide_eq_true e))
/-- a dict stays where it is not touched -/
theorem NDict.at {h h' : Heap} {d : Addr} {xs : List NR} (x : NDict w h d xs) (k : ∀ o, h.get? d = some o → h'.get? d = some o) : NDict w h' d xs := by
  obtain ⟨o, es, e, r⟩ := x
  exact ⟨o, es, k o e, r⟩
def setN' (xs : List NR) (k : NestedKey) (v u : Value) : List NR := if (ixN' xs k).isSome = true then xs.map (fun x => if x.1 = k then (x.1, x.2.1, u) else x) else xs ++ [(k, v, u)]
theorem get_n {xs : List NR} {d : Addr} {Q : Option Value → Shared → Prop} (hu : A.units + 8 < cLine) (hk : KOk s.heap k v) (hd : NDict w s.heap d xs) (hr : NRs s.heap xs) (hQ : Q (valN xs k) { s with toks := s.toks + k.draws }) : wpAny (model prog w) A (dictGet d v) Q E s := by
  obtain ⟨o, es, ho, _, hdt, he⟩ := hd
  unfold dictGet
  refine wpAny_holding (wpAny_bind (key_hash hu hk (wpAny_bind (find_n (s := { s with toks := s.toks + k.draws }) hu hk ho hdt he hr ?_))))
  cases q : ixN' xs k with
  | none =>
    rw [(ixN_none q).2] at hQ
    exact wpAny_pure hQ
  | some i =>
    obtain ⟨p, g, _, e⟩ := ixN_some q
    rw [e] at hQ
    refine wpAny_bind (wpAny_dictEntries (s := { s with toks := s.toks + k.draws }) ho hdt ?_)
    rw [ents_get he, g]
    exact wpAny_pure hQ
theorem modify_n {xs : List NR} {u : Value} : ∀ {i : Nat} {p : Value × Value}, (xs.map (·.1)).Nodup → xs[i]? = some (k, p) → (xs.map (NR.ent w)).modify i (fun e => { e with val := u }) = (xs.map fun x => if x.1 = k then (x.1, x.2.1, u) else x).map (NR.ent w) := by
  induction xs with
  | nil => intro i p _ h; cases h
  | cons x xs ih =>
    intro i p hn h
    obtain ⟨n1, n2⟩ := List.nodup_cons.mp hn
    cases i with
    | zero =>
      have h : some x = some (k, p) := h
      injection h with h
      have no : xs.map (fun x => if x.1 = k then (x.1, x.2.1, u) else x) = xs := by
        refine (List.map_congr_left fun y hy => ?_).trans (List.map_id xs)
        rw [if_neg fun e => n1 (by rw [h]; exact List.mem_map.mpr ⟨y, hy, e⟩)]
        rfl
      rw [List.map_cons, List.map_cons, no, h, if_pos rfl]
      rfl
    | succ i =>
      have h : xs[i]? = some (k, p) := h
      have ne : ¬ x.1 = k := fun e => n1 (List.mem_map.mpr ⟨(k, p), List.mem_of_getElem? h, e.symm⟩)
      rw [List.map_cons, List.map_cons, if_neg ne, List.map_cons, ← ih n2 h]
      rfl
theorem set_n {xs : List NR} {d : Addr} {u : Value} {Q : Unit → Shared → Prop} (hu : A.units + 8 < cLine) (hk : KOk s.heap k v) (hd : NDict w s.heap d xs) (hr : NRs s.heap xs) (hz : xs.length ≤ sizeLine)
    (hQ : ∀ h', NDict w h' d (setN' xs k v u) → Heap.SameBut d s.heap h' → Q () { s with heap := h', toks := s.toks + k.draws }) : wpAny (model prog w) A (dictSet d v u) Q E s := by
  obtain ⟨o, es, ho, hc, hdt, he⟩ := hd
  have hes := ents_size he
  unfold dictSet
  refine wpAny_holding (wpAny_bind (key_hash hu hk ?_))
  unfold dictSetHashed
  refine wpAny_holding (wpAny_bind (find_n (s := { s with toks := s.toks + k.draws }) hu hk ho hdt he hr ?_))
  unfold setN' at hQ
  cases q : ixN' xs k with
  | none =>
    rw [q, if_neg (by decide)] at hQ
    refine wpAny_bind (wpAny_rule (wpAny_updateDictKeys (hz := by rw [hes]; exact hz) (s := { s with toks := s.toks + k.draws }) ho hdt (hQ _ ⟨_, es.push ⟨k.hash w, v, u⟩, Heap.get?_update_self _ ho (Obj.isFreed_of_dict (Obj.data_mapDictKeys hdt _)), hc.mapDictKeys _, ?_, ?_⟩ (Heap.SameBut.update ..))))
    · rw [List.length_append]
      exact Obj.data_mapDictKeys hdt _
    · rw [Array.toList_push, he, List.map_append]
      rfl
  | some i =>
    obtain ⟨p, g, _, _⟩ := ixN_some q
    rw [q, if_pos (show (some i).isSome = true from rfl)] at hQ
    refine wpAny_bind (wpAny_rule (wpAny_bind (wpAny_updateDict (s := { s with toks := s.toks + k.draws }) ho hdt (wpAny_point (hQ _ ⟨_, es.modify i (fun e => { e with val := u }), Heap.get?_update_self _ ho (Obj.isFreed_of_dict (Obj.data_mapDict hdt _)), hc.mapDict _, ?_, ?_⟩ (Heap.SameBut.update ..))))))
    · rw [List.length_map]
      exact Obj.data_mapDict hdt _
    · rw [Array.toList_modify, he, modify_n hr.2 g]
theorem has_n {xs : List NR} {d : Addr} {Q : Bool → Shared → Prop} (hu : A.units + 9 < cLine) (hk : KOk s.heap k v) (hs : (d == sysModules) = false) (hd : NDict w s.heap d xs) (hr : NRs s.heap xs)
    (hQ : Q (valN xs k).isSome { s with toks := s.toks + k.draws }) : wpAny (model prog w) A (contains (.ref d) v) Q E s := by
  have ty := hd.typeIs
  unfold contains
  refine wpAny_holding (wpAny_bind (wpAny_specialOf ty slot_dict_contains.lookup ?_))
  refine wp_ite (fun z => ?_) fun _ => ?_
  · rw [show (some (Value.builtin "dict.__contains__") == some Value.none) = false by decide] at z; cases z
  refine wpAny_bind (wpAny_callSpecialUnlessNone?_slot (name := Str.ofString "__contains__") ty slot_dict_contains (wpAny_call_entry slot_dict_contains ty entry_dict_contains ?_ (args_dict_contains _ _)))
  show wpAny _ _ (dictGet d v >>= _) _ _ s
  refine wpAny_bind (get_n (by show A.units + 1 + 8 < cLine; omega) hk hd hr ?_)
  cases q : valN xs k with
  | some u =>
    rw [q] at hQ
    exact wpAny_pure ⟨_, rfl, wpAny_truthy_bool hQ⟩
  | none =>
    rw [q] at hQ
    show wpAny _ _ (Builtin.Dict.pendingKey? d v >>= _) _ _ _
    exact wpAny_bind (wpAny_pendingKey_other hs (wpAny_pure ⟨_, rfl, wpAny_truthy_bool hQ⟩))
/-- k in d -/
theorem in_n {xs : List NR} {d : Addr} {Q : Value → Shared → Prop} (hu : A.units + 9 < cLine) (hk : KOk s.heap k v) (hs : (d == sysModules) = false) (hd : NDict w s.heap d xs) (hr : NRs s.heap xs)
    (hQ : Q (.bool (valN xs k).isSome) { s with toks := s.toks + k.draws }) : wpAny (model prog w) A (compareOp .In v (.ref d)) Q E s := by
  show wpAny _ _ (contains (.ref d) v >>= fun b => pure (.bool b)) Q E s
  exact wpAny_bind (has_n hu hk hs hd hr (wpAny_pure hQ))
theorem notin_n {xs : List NR} {d : Addr} {Q : Value → Shared → Prop} (hu : A.units + 9 < cLine) (hk : KOk s.heap k v) (hs : (d == sysModules) = false) (hd : NDict w s.heap d xs) (hr : NRs s.heap xs)
    (hQ : Q (.bool (!(valN xs k).isSome)) { s with toks := s.toks + k.draws }) : wpAny (model prog w) A (compareOp .NotIn v (.ref d)) Q E s := by
  show wpAny _ _ (contains (.ref d) v >>= fun b => pure (.bool (!b))) Q E s
  exact wpAny_bind (has_n hu hk hs hd hr (wpAny_pure hQ))
/-- d[k], the key there -/
theorem item_n {xs : List NR} {d : Addr} {u : Value} {Q : Value → Shared → Prop} (hu : A.units + 9 < cLine) (hk : KOk s.heap k v) (hd : NDict w s.heap d xs) (hr : NRs s.heap xs) (hv : valN xs k = some u)
    (hQ : Q u { s with toks := s.toks + k.draws }) : wpAny (model prog w) A (getItem (.ref d) v) Q E s := by
  have ty := hd.typeIs
  unfold getItem
  refine wpAny_holding (wpAny_bind (wpAny_sequenceKey ty (by decide) (wpAny_bind (wpAny_callSpecial?_slot (name := Str.ofString "__getitem__") ty slot_dict_getitem (wpAny_call_entry slot_dict_getitem ty entry_dict_getitem ?_ (args_dict_getitem _ _))))))
  show wpAny _ _ (dictGet d v >>= _) _ _ s
  refine wpAny_bind (get_n (by show A.units + 1 + 8 < cLine; omega) hk hd hr ?_)
  rw [hv]
  exact wpAny_pure ⟨u, rfl, wpAny_pure hQ⟩
/-- d[k] = u -/
theorem store_n {xs : List NR} {d : Addr} {u : Value} {Q : Unit → Shared → Prop} (hu : A.units + 9 < cLine) (hk : KOk s.heap k v) (hd : NDict w s.heap d xs) (hr : NRs s.heap xs) (hz : xs.length ≤ sizeLine)
    (hQ : ∀ h', NDict w h' d (setN' xs k v u) → Heap.SameBut d s.heap h' → Q () { s with heap := h', toks := s.toks + k.draws }) : wpAny (model prog w) A (setItem (.ref d) v u) Q E s := by
  have ty := hd.typeIs
  unfold setItem
  refine wpAny_holding (wpAny_bind (wpAny_sequenceKey ty (by decide) (wpAny_bind (wpAny_callSpecial?_slot (name := Str.ofString "__setitem__") ty slot_dict_setitem (wpAny_call_entry slot_dict_setitem ty entry_dict_setitem ?_ (args_dict_setitem _ _ _))))))
  show wpAny _ _ (Builtin.Dict.notOrdered "__setitem__" ⟨[.ref d, v, u], []⟩ >>= _) _ _ s
  refine wpAny_bind (wpAny_notOrdered_dict ty ?_)
  show wpAny _ _ (dictSet d v u >>= _) _ _ s
  exact wpAny_bind (set_n (by show A.units + 1 + 8 < cLine; omega) hk hd hr hz fun h' a b => wpAny_pure ⟨.none, rfl, wpAny_pure (hQ h' a b)⟩)
/-- d.get(k), d.get(k, z) -/
theorem meets_get1 (hs : (d == sysModules) = false) (v : Value) : MeetsIn prog w (Builtin.«dict.get» ⟨[.ref d, v], []⟩) (fun A R s => A.units + 9 < cLine ∧ ∃ k xs, KOk s.heap k v ∧ NDict w s.heap d xs ∧ NRs s.heap xs ∧
    R (.ok (.ret ((valN xs k).getD .none))) { s with toks := s.toks + k.draws }) := .of_wp fun A R s ⟨hu, k, xs, hk, hd, hr, h⟩ => by
  show wpAny _ _ (dictGet d v >>= _) _ _ s
  refine wpAny_bind (get_n (by show A.units + 1 + 8 < cLine; omega) hk hd hr ?_)
  cases q : valN xs k with
  | some u =>
    rw [q] at h
    exact wpAny_pure ⟨u, rfl, h⟩
  | none =>
    rw [q] at h
    show wpAny _ _ (Builtin.Dict.missed d v >>= _) _ _ _
    exact wpAny_bind (wpAny_missed_other hs (wpAny_pure ⟨.none, rfl, h⟩))
theorem meets_get2 (hs : (d == sysModules) = false) (v z : Value) : MeetsIn prog w (Builtin.«dict.get» ⟨[.ref d, v, z], []⟩) (fun A R s => A.units + 9 < cLine ∧ ∃ k xs, KOk s.heap k v ∧ NDict w s.heap d xs ∧ NRs s.heap xs ∧
    R (.ok (.ret ((valN xs k).getD z))) { s with toks := s.toks + k.draws }) := .of_wp fun A R s ⟨hu, k, xs, hk, hd, hr, h⟩ => by
  show wpAny _ _ (dictGet d v >>= _) _ _ s
  refine wpAny_bind (get_n (by show A.units + 1 + 8 < cLine; omega) hk hd hr ?_)
  cases q : valN xs k with
  | some u =>
    rw [q] at h
    exact wpAny_pure ⟨u, rfl, h⟩
  | none =>
    rw [q] at h
    show wpAny _ _ (Builtin.Dict.missed d v >>= _) _ _ _
    exact wpAny_bind (wpAny_missed_other hs (wpAny_pure ⟨z, rfl, h⟩))
end
end
end Pi

/-! PiRel: how the pure values and stores lie in the hand layer's heaps. -/
namespace Pi
open PySem L2
/-- the world, known to all -/
class WD where
  w : World
variable [WD]
/-- a dict with keys of any depth, over the layer: its rows -/
abbrev DnP (p : NestedKey × V × V) (q : NR) : Prop := p.1 = q.1 ∧ RelV p.2.1 q.2.1 ∧ RelV p.2.2 q.2.2
def DnF (w : World) (a : Addr) (rows : List (NestedKey × V × V)) (h : Heap) : Prop := (a == sysModules) = false ∧ rows.length ≤ sizeLine ∧ ∃ xs, Paired DnP rows xs ∧ NDict w h a xs
def DnO (w : World) (a : Addr) (rows : List (NestedKey × V × V)) : HO := .ext (DnF w a rows)
theorem DnF.at {w : World} {a : Addr} {rows : List (NestedKey × V × V)} {h h' : Heap} (x : DnF w a rows h) (k : ∀ o, h.get? a = some o → h'.get? a = some o) : DnF w a rows h' := by
  obtain ⟨x1, x2, xs, x3, x4⟩ := x
  exact ⟨x1, x2, xs, x3, x4.at k⟩
theorem dnO_ok {P : Program} {w w' : World} {H : Hp} {h : Heap} {a : Addr} {rows : List (NestedKey × V × V)} (x : DnF w a rows h) : ObjOk P w' H h a (DnO w a rows) := by
  refine ⟨x, ?_, fun h1 h2 y k => y.at k⟩
  obtain ⟨_, _, xs, _, o, es, e, _⟩ := x
  exact ⟨o, e⟩
/-- a list that is only read -/
def SqF (K : PySem.W.Frag) (H : Hp) (a : Addr) (vs : List V) : Prop := SqL K H a vs ∧ ((∃ o, H a = some (.frz o (.lst vs))) ∨ ∀ H', SqL K H' a vs)
/-- what stays as it is: code objects, caught errors -/
def FixO (u : HO) : Prop := (∃ c q, u = LamX.CodeO c q) ∨ ∃ cls a, u = ErrO cls a
theorem dn_fix {w : World} {a : Addr} {rows : List (NestedKey × V × V)} {h : Heap} (x : DnF w a rows h) : ¬ FixO (DnO w a rows) := by
  have key : ∀ (c : Addr) (φ : Heap → Prop), (∀ g : Heap, φ g → ∃ ob us, g.get? c = some ob ∧ ob.data = .fields us) → DnO w a rows ≠ .ext φ := fun c φ hφ e => by
    injection e with e
    by_cases ne : a = c
    · subst ne
      obtain ⟨ob, us, e1, e2⟩ := hφ h (by rw [← e]; exact x)
      obtain ⟨_, _, xs, _, o, es, f1, _, f2, _⟩ := x
      rw [e1] at f1
      cases f1
      rw [e2] at f2
      cases f2
    · have y : DnF w a rows (PySem.W.hideAll h [c]) := x.at fun o q => PySem.W.hideAll_get _ q (by simpa using ne)
      obtain ⟨ob, us, e1, _⟩ := hφ _ (by rw [← e]; exact y)
      rw [PySem.W.hideAll_none _ (List.mem_singleton.mpr rfl)] at e1
      cases e1
  rintro (⟨c, q, e⟩ | ⟨cls, c, e⟩)
  · exact key c _ (fun g ⟨oc, vs, t, e1, e2, _⟩ => ⟨oc, vs, e1, e2⟩) e
  · exact key c _ (fun g ⟨ob, us, e1, _, e2⟩ => ⟨ob, us, e1, e2⟩) e
section
variable (K : PySem.W.Frag) (mg : Str → Option Value)
mutual
inductive Rp (H : Hp) : V → D → Prop
  | non : Rp H .non .non
  | bl (b : Bool) : Rp H (.bl b) (.bl b)
  | int (i : Int) : Rp H (.int i) (.int i)
  | str (x : Str) : Rp H (.str x) (.str x)
  | tup {a : Addr} {vs : List V} {ds : List D} : SqT K H a vs → Rps H vs ds → Rp H (.ref a) (.tup ds)
  | ref (a : Addr) : Rp H (.ref a) (.ref a)
  | fn {x : Str} {f : Addr} : mg x = some (.ref f) → Rp H (.ref f) (.fn x)
  | cls {x : Str} {f : Addr} : mg x = some (.ref f) → Rp H (.ref f) (.cls x)
  | fls {a : Addr} {vs : List V} {ds : List D} : SqF K H a vs → Rps H vs ds → Rp H (.ref a) (.fls ds)
  | exc {x : Str} {a C : Addr} : H a = some (ErrO (.ref C) a) → mg x = some (.ref C) → Rp H (.ref a) (.exc x)
inductive Rps (H : Hp) : List V → List D → Prop
  | nil : Rps H [] []
  | cons {v : V} {vs : List V} {d : D} {ds : List D} : Rp H v d → Rps H vs ds → Rps H (v :: vs) (d :: ds)
end
def KVr (H : Hp) (kv : List (Key × V)) (kd : List (Str × D)) : Prop := Paired (fun p q => p.1 = Sum.inr q.1 ∧ Rp K mg H p.2 q.2) kv kd
abbrev DnR (H : Hp) (p : NestedKey × V × V) (q : D × D) : Prop := kyD q.1 = some p.1 ∧ p.1.depth ≤ 8 ∧ Rp K mg H p.2.1 q.1 ∧ Rp K mg H p.2.2 q.2
def SRo (H : Hp) (a : Addr) : O → Prop
  | .dcn kd => ∃ rows, H a = some (DnO WD.w a rows) ∧ ¬ FixO (DnO WD.w a rows) ∧ Paired (DnR K mg H) rows kd ∧ (rows.map (·.1)).Nodup
  | .lst ds => ∃ vs, H a = some (.lst vs) ∧ Rps K mg H vs ds
  | .dct kd => ∃ kv, H a = some (.dK kv) ∧ KVr K mg H kv kd
  | .tab x => LamX.TabS H a ((x ++ ".<locals>.") ++ "<lambda>") ∧ a = (He.cT K (x, none)).2
def SR (S : Sto) (H : Hp) : Prop := ∀ a o, S a = some o → SRo K mg H a o
/-- what is tracked and no part of the store stays, and stays so -/
def Ev (S : Sto) (H : Hp) (S' : Sto) (H' : Hp) : Prop := ∀ a o, H a = some o → (∀ ps, o ≠ .tbl ps) → S a = none → H' a = some o ∧ S' a = none
theorem FixO.ext {u : HO} (f : FixO u) : ∃ φ, u = .ext φ := by
  rcases f with ⟨c, q, rfl⟩ | ⟨cls, a, rfl⟩
  · exact ⟨_, rfl⟩
  · exact ⟨_, rfl⟩
theorem FixO.ne {u : HO} (f : FixO u) : ∀ ps, u ≠ .tbl ps := fun ps z => by
  obtain ⟨φ, e⟩ := f.ext
  rw [e] at z
  cases z
theorem Ev.refl {S : Sto} {H : Hp} : Ev S H S H := fun _ _ h _ s => ⟨h, s⟩
theorem Ev.trans {S S1 S2 : Sto} {H H1 H2 : Hp} (a : Ev S H S1 H1) (b : Ev S1 H1 S2 H2) : Ev S H S2 H2 := fun c o h n s => let ⟨h1, s1⟩ := a c o h n s; b c o h1 n s1
/-- tuples stay, and lists that are only read -/
def Tk (H H' : Hp) : Prop := (∀ a xs, SqT K H a xs → SqT K H' a xs) ∧ (∀ a xs, SqF K H a xs → SqF K H' a xs) ∧ ∀ a u, H a = some u → FixO u → H' a = some u
variable {K mg}
theorem Tk.refl {H : Hp} : Tk K H H := ⟨fun _ _ h => h, fun _ _ h => h, fun _ _ h _ => h⟩
theorem Tk.trans {H H1 H2 : Hp} (a : Tk K H H1) (b : Tk K H1 H2) : Tk K H H2 := ⟨fun c xs h => b.1 c xs (a.1 c xs h), fun c xs h => b.2.1 c xs (a.2.1 c xs h), fun c u h f => b.2.2 c u (a.2.2 c u h f) f⟩
mutual
theorem Rp.mono {H H' : Hp} (t : Tk K H H') : ∀ {d : D} {v : V}, Rp K mg H v d → Rp K mg H' v d
  | .non, _, h => by cases h; exact .non
  | .bl b, _, h => by cases h; exact .bl b
  | .int b, _, h => by cases h; exact .int b
  | .str b, _, h => by cases h; exact .str b
  | .tup ds, _, h => by cases h with | tup q r => exact .tup (t.1 _ _ q) (Rps.mono t r)
  | .ref a, _, h => by cases h; exact .ref a
  | .fn x, _, h => by cases h with | fn q => exact .fn q
  | .cls x, _, h => by cases h with | cls q => exact .cls q
  | .fls ds, _, h => by cases h with | fls q r => exact .fls (t.2.1 _ _ q) (Rps.mono t r)
  | .exc x, _, h => by cases h with | exc q r => exact .exc (t.2.2 _ _ q (.inr ⟨_, _, rfl⟩)) r
theorem Rps.mono {H H' : Hp} (t : Tk K H H') : ∀ {ds : List D} {vs : List V}, Rps K mg H vs ds → Rps K mg H' vs ds
  | [], _, h => by cases h; exact .nil
  | d :: ds, _, h => by cases h with | cons q r => exact .cons (Rp.mono t q) (Rps.mono t r)
end
theorem DnR.mono {H H' : Hp} (t : Tk K H H') {rows : List (NestedKey × V × V)} {kd : List (D × D)} (h : Paired (DnR K mg H) rows kd) : Paired (DnR K mg H') rows kd := Paired.mapP h fun _ _ z => ⟨z.1, z.2.1, z.2.2.1.mono t, z.2.2.2.mono t⟩
theorem KVr.mono {H H' : Hp} (t : Tk K H H') {kv : List (Key × V)} {kd : List (Str × D)} (h : KVr K mg H kv kd) : KVr K mg H' kv kd := Paired.mapP h fun _ _ z => ⟨z.1, z.2.mono t⟩
/-- no store's object -/
def NoS (H : Hp) (a : Addr) : Prop := (∃ xs, Rd H a (.tup xs)) ∨ (∃ o xs, H a = some (.frz o (.lst xs))) ∨ (∃ u, H a = some u ∧ FixO u) ∨ H a = none
theorem SR.noS {S : Sto} {H : Hp} (s : SR K mg S H) {a : Addr} (h : NoS H a) : S a = none := by
  cases e : S a with
  | none => rfl
  | some o =>
    exfalso
    have q := s a o e
    have dn : ∀ kd, o = .dcn kd → False := fun kd eo => by
      subst eo
      obtain ⟨rows, z, nf, _⟩ := q
      rcases h with ⟨xs, h | ⟨ob, h⟩⟩ | ⟨ob, xs, h⟩ | ⟨u, h, f⟩ | h
      · rw [h] at z; cases z
      · rw [h] at z; cases z
      · rw [h] at z; cases z
      · rw [h] at z; cases z; exact nf f
      · rw [h] at z; cases z
    have r : (∃ vs, H a = some (.lst vs)) ∨ (∃ kv, H a = some (.dK kv)) ∨ ∃ ps, H a = some (.tbl ps) := by
      cases o with
      | lst ds => obtain ⟨vs, z, _⟩ := q; exact .inl ⟨vs, z⟩
      | dct kd => obtain ⟨vs, z, _⟩ := q; exact .inr (.inl ⟨vs, z⟩)
      | tab x => obtain ⟨⟨ps, z, _⟩, _⟩ := q; exact .inr (.inr ⟨ps, z⟩)
      | dcn kd => exact (dn kd rfl).elim
    rcases h with ⟨xs, h | ⟨ob, h⟩⟩ | ⟨ob, xs, h⟩ | ⟨u, h, f⟩ | h
    · rcases r with ⟨_, r⟩ | ⟨_, r⟩ | ⟨_, r⟩ <;> (rw [h] at r; cases r)
    · rcases r with ⟨_, r⟩ | ⟨_, r⟩ | ⟨_, r⟩ <;> (rw [h] at r; cases r)
    · rcases r with ⟨_, r⟩ | ⟨_, r⟩ | ⟨_, r⟩ <;> (rw [h] at r; cases r)
    · obtain ⟨φ, rfl⟩ := f.ext
      rcases r with ⟨_, r⟩ | ⟨_, r⟩ | ⟨_, r⟩ <;> (rw [h] at r; cases r)
    · rcases r with ⟨_, r⟩ | ⟨_, r⟩ | ⟨_, r⟩ <;> (rw [h] at r; cases r)
theorem SR.free {S : Sto} {H : Hp} (s : SR K mg S H) {p : Addr} (h : H p = none) : S p = none := s.noS (.inr (.inr (.inr h)))
theorem Ev.tk {S S' : Sto} {H H' : Hp} (e : Ev S H S' H') (s : SR K mg S H) : Tk K H H' := by
  refine ⟨fun a xs h => ?_, fun a xs h => ?_, fun a u h f => (e a u h f.ne (s.noS (.inr (.inr (.inl ⟨u, h, f⟩))))).1⟩
  · rcases h with h | h
    · have n := s.noS (.inl ⟨xs, h⟩)
      rcases h with h | ⟨o, h⟩
      · exact .inl (.inl (e _ _ h (fun _ z => nomatch z) n).1)
      · exact .inl (.inr ⟨o, (e _ _ h (fun _ z => nomatch z) n).1⟩)
    · exact .inr h
  · obtain ⟨h1, h2⟩ := h
    rcases h2 with ⟨o, h2⟩ | h2
    · have n := s.noS (.inr (.inl ⟨o, xs, h2⟩))
      have z := (e _ _ h2 (fun _ z => nomatch z) n).1
      exact ⟨.inl (.inr ⟨o, z⟩), .inl ⟨o, z⟩⟩
    · exact ⟨h2 H', .inr h2⟩
/-- frames -/
def FR (K : PySem.W.Frag) (mg : Str → Option Value) (H : Hp) (σ : L2.St) (φ : Fr) : Prop := φ.length = σ.length ∧ ∀ (i : Nat) d, φ[i]? = some (some d) → ∃ v, σ[i]? = some (some v) ∧ Rp K mg H v d
theorem FR.mono {H H' : Hp} {σ : L2.St} {φ : Fr} (f : FR K mg H σ φ) (t : Tk K H H') : FR K mg H' σ φ := ⟨f.1, fun i d e => let ⟨v, h, r⟩ := f.2 i d e; ⟨v, h, r.mono t⟩⟩
theorem FR.set {H : Hp} {σ : L2.St} {φ : Fr} (f : FR K mg H σ φ) {i : Nat} {v : V} {d : D} (r : Rp K mg H v d) : FR K mg H (σ.set i (some v)) (φ.set i (some d)) := by
  refine ⟨by rw [List.length_set, List.length_set]; exact f.1, fun j e h => ?_⟩
  by_cases q : i = j
  · subst q
    by_cases l : i < φ.length
    · rw [List.getElem?_set_self l] at h
      cases h
      exact ⟨v, List.getElem?_set_self (by rw [← f.1]; exact l), r⟩
    · rw [List.getElem?_eq_none (by rw [List.length_set]; omega)] at h
      cases h
  · rw [List.getElem?_set_ne q] at h
    rw [List.getElem?_set_ne q]
    exact f.2 j e h
theorem FR.none {H : Hp} {σ : L2.St} {φ : Fr} (f : FR K mg H σ φ) {i : Nat} : FR K mg H (σ.set i Option.none) (φ.set i Option.none) := by
  refine ⟨by rw [List.length_set, List.length_set]; exact f.1, fun j e h => ?_⟩
  by_cases q : i = j
  · subst q
    by_cases l : i < φ.length
    · rw [List.getElem?_set_self l] at h
      cases h
    · rw [List.getElem?_eq_none (by rw [List.length_set]; omega)] at h
      cases h
  · rw [List.getElem?_set_ne q] at h
    rw [List.getElem?_set_ne q]
    exact f.2 j e h
theorem FR.wipe {H : Hp} {σ : L2.St} {φ : Fr} (f : FR K mg H σ φ) : ∀ vs : List Nat, FR K mg H (wipe σ vs) (wipeF φ vs)
  | [] => f
  | v :: vs => (FR.wipe f vs).none
theorem Rps.len {H : Hp} : ∀ {vs : List V} {ds : List D}, Rps K mg H vs ds → vs.length = ds.length
  | _, _, .nil => rfl
  | _, _, .cons _ t => by rw [List.length_cons, List.length_cons, Rps.len t]
theorem Rps.get {H : Hp} : ∀ {vs : List V} {ds : List D}, Rps K mg H vs ds → ∀ {i : Nat} {d : D}, ds[i]? = some d → ∃ v, vs[i]? = some v ∧ Rp K mg H v d
  | _, _, .nil, i, d, h => by simp at h
  | _, _, .cons r t, 0, d, h => by simp at h; subst h; exact ⟨_, rfl, r⟩
  | _, _, .cons r t, i + 1, d, h => by
    obtain ⟨v, q, z⟩ := Rps.get t (i := i) (by simpa using h)
    exact ⟨v, by simpa using q, z⟩
theorem Rps.app {H : Hp} : ∀ {vs : List V} {ds : List D} {ws : List V} {es : List D}, Rps K mg H vs ds → Rps K mg H ws es → Rps K mg H (vs ++ ws) (ds ++ es)
  | _, _, _, _, .nil, s => s
  | _, _, _, _, .cons r t, s => .cons r (Rps.app t s)
theorem Rps.take {H : Hp} : ∀ {vs : List V} {ds : List D} (n : Nat), Rps K mg H vs ds → Rps K mg H (vs.take n) (ds.take n)
  | _, _, 0, _ => by simp; exact .nil
  | _, _, n + 1, .nil => by simp; exact .nil
  | _, _, n + 1, .cons r t => .cons r (Rps.take n t)
theorem Rps.drop {H : Hp} : ∀ {vs : List V} {ds : List D} (n : Nat), Rps K mg H vs ds → Rps K mg H (vs.drop n) (ds.drop n)
  | _, _, 0, h => h
  | _, _, n + 1, .nil => .nil
  | _, _, n + 1, .cons _ t => Rps.drop n t
theorem Rps.set {H : Hp} {v : V} {d : D} (r : Rp K mg H v d) : ∀ {vs : List V} {ds : List D} (i : Nat), Rps K mg H vs ds → Rps K mg H (vs.set i v) (ds.set i d)
  | _, _, _, .nil => .nil
  | _, _, 0, .cons _ t => .cons r t
  | _, _, i + 1, .cons q t => .cons q (Rps.set r i t)
theorem Rps.erase {H : Hp} : ∀ {vs : List V} {ds : List D} (i : Nat), Rps K mg H vs ds → Rps K mg H (vs.eraseIdx i) (ds.eraseIdx i)
  | _, _, _, .nil => .nil
  | _, _, 0, .cons _ t => t
  | _, _, i + 1, .cons q t => .cons q (Rps.erase i t)
theorem Rps.dropLast {H : Hp} {vs : List V} {ds : List D} (h : Rps K mg H vs ds) : Rps K mg H vs.dropLast ds.dropLast := by
  rw [List.dropLast_eq_take, List.dropLast_eq_take, h.len]
  exact h.take _
theorem Rps.rep {H : Hp} {vs : List V} {ds : List D} (h : Rps K mg H vs ds) : ∀ n : Nat, Rps K mg H (List.replicate n vs).flatten (Pi.rep n ds)
  | 0 => .nil
  | n + 1 => by
    unfold Pi.rep
    rw [List.replicate_succ, List.replicate_succ, List.flatten_cons, List.flatten_cons]
    exact h.app (Rps.rep h n)
theorem Rps.cut {H : Hp} {vs : List V} {ds : List D} (h : Rps K mg H vs ds) (lo hi : Option Int) : Rps K mg H (cutV vs lo hi) (cutD ds lo hi) := by
  unfold cutV cutD
  rw [h.len]
  exact (h.drop _).take _
theorem Rps.atI {H : Hp} {vs : List V} {ds : List D} (h : Rps K mg H vs ds) {i : Int} {d : D} (e : L2.atI ds i = some d) : ∃ v, L2.atI vs i = some v ∧ Rp K mg H v d := by
  unfold L2.atI at e ⊢
  rw [h.len]
  cases q : ixN ds.length i with
  | none => rw [q] at e; cases e
  | some j =>
    rw [q] at e
    exact h.get (i := j) (by simpa using e)
/-- a store's list may be read -/
theorem SR.isL {S : Sto} {H : Hp} (s : SR K mg S H) {a : Addr} {xs : List D} (h : IsL S a xs) : ∃ vs, H a = some (.lst vs) ∧ Rps K mg H vs xs := s _ _ h
theorem tk_upd {H : Hp} {p : Addr} {o : HO} (h : ∀ xs, ¬ Rd H p (.tup xs)) (h2 : ∀ ob xs, H p ≠ some (.frz ob (.lst xs))) (h3 : ∀ u, H p = some u → ¬ FixO u) : Tk K H (upd H p o) := by
  refine ⟨fun a xs t => ?_, fun a xs t => ?_, fun a u q f => by rw [upd_ne (fun e => by subst e; exact h3 u q f)]; exact q⟩
  · rcases t with t | t
    · have ne : a ≠ p := fun e => by subst e; exact h _ t
      rcases t with t | ⟨ob, t⟩
      · exact .inl (.inl (by rw [upd_ne ne]; exact t))
      · exact .inl (.inr ⟨ob, by rw [upd_ne ne]; exact t⟩)
    · exact .inr t
  · obtain ⟨h1, q⟩ := t
    rcases q with ⟨ob, q⟩ | q
    · have ne : a ≠ p := fun e => by subst e; exact h2 _ _ q
      have z : upd H p o a = some (.frz ob (.lst xs)) := by rw [upd_ne ne]; exact q
      exact ⟨.inl (.inr ⟨ob, z⟩), .inl ⟨ob, z⟩⟩
    · exact ⟨q _, .inr q⟩
theorem tk_new {H : Hp} {p : Addr} {o : HO} (h : H p = none) : Tk K H (upd H p o) :=
  tk_upd (fun xs t => by rcases t with t | ⟨o, t⟩ <;> (rw [h] at t; cases t)) (fun ob xs t => by rw [h] at t; cases t) fun u q => by rw [h] at q; cases q
theorem SRo.mono {H H' : Hp} {a : Addr} {o : O} (q : SRo K mg H a o) (t : Tk K H H') (e : H' a = H a) : SRo K mg H' a o := by
  cases o with
  | lst ds => obtain ⟨vs, z, r⟩ := q; exact ⟨vs, by rw [e]; exact z, r.mono t⟩
  | dct ds => obtain ⟨vs, z, r⟩ := q; exact ⟨vs, by rw [e]; exact z, r.mono t⟩
  | dcn ds => obtain ⟨vs, z, nf, r, nd⟩ := q; exact ⟨vs, by rw [e]; exact z, nf, DnR.mono t r, nd⟩
  | tab x =>
    obtain ⟨⟨ps, z, h1, h2⟩, r⟩ := q
    refine ⟨⟨ps, by rw [e]; exact z, h1, fun pos cv hc => ?_⟩, r⟩
    obtain ⟨c, e1, e2⟩ := h2 pos cv hc
    exact ⟨c, e1, t.2.2 _ _ e2 (.inl ⟨_, _, rfl⟩)⟩
/-- something new, no part of the store -/
theorem SR.new {S : Sto} {H : Hp} (s : SR K mg S H) {p : Addr} {o : HO} (h : H p = none) : SR K mg S (upd H p o) ∧ Ev S H S (upd H p o) := by
  have n := s.free h
  refine ⟨fun a u e => ?_, fun a u e _ f => ⟨?_, f⟩⟩
  · have ne : a ≠ p := fun z => by subst z; rw [n] at e; cases e
    exact (s a u e).mono (tk_new h) (upd_ne ne)
  · have ne : a ≠ p := fun z => by subst z; rw [h] at e; cases e
    rw [upd_ne ne]; exact e
/-- something new of the store -/
theorem SR.alloc {S : Sto} {H : Hp} (s : SR K mg S H) {p : Addr} {o : HO} {u : O} (h : H p = none) (q : SRo K mg (upd H p o) p u) : SR K mg (put S p u) (upd H p o) ∧ Ev S H (put S p u) (upd H p o) := by
  refine ⟨fun a w e => ?_, fun a w e _ f => ?_⟩
  · by_cases z : a = p
    · subst z
      rw [put_same] at e
      cases e
      exact q
    · rw [put_ne z] at e
      exact (s a w e).mono (tk_new h) (upd_ne z)
  · have ne : a ≠ p := fun z => by subst z; rw [h] at e; cases e
    rw [upd_ne ne, put_ne ne]
    exact ⟨e, f⟩
/-- the store's own object changes -/
theorem SR.write {S : Sto} {H : Hp} (s : SR K mg S H) {p : Addr} {o : HO} {u0 u : O} (h : S p = some u0) (q : Tk K H (upd H p o) → SRo K mg (upd H p o) p u) : SR K mg (put S p u) (upd H p o) ∧ Ev S H (put S p u) (upd H p o) ∧ Tk K H (upd H p o) := by
  have t : Tk K H (upd H p o) := tk_upd (fun xs z => by rw [s.noS (.inl ⟨xs, z⟩)] at h; cases h) (fun ob xs z => by rw [s.noS (.inr (.inl ⟨ob, xs, z⟩))] at h; cases h) fun u q f => by rw [s.noS (.inr (.inr (.inl ⟨u, q, f⟩)))] at h; cases h
  refine ⟨fun a w e => ?_, fun a w e _ f => ?_, t⟩
  · by_cases z : a = p
    · subst z
      rw [put_same] at e
      cases e
      exact q t
    · rw [put_ne z] at e
      exact (s a w e).mono t (upd_ne z)
  · have ne : a ≠ p := fun z => by subst z; rw [h] at f; cases f
    rw [upd_ne ne, put_ne ne]
    exact ⟨e, f⟩
end
end Pi

/-! PiMul: tuple * int, also nothing and once. -/
namespace Pi
open PySem L2 PyProof.Rows
open AutoSeq1 (wpAny_loadPart')
abbrev tupO (ws : Array Value) (n : Nat) (dd : Option Addr) (sl : Array (Option Value)) : Obj := ⟨.type "tuple", dd, .seq ws n, sl⟩
theorem mul_same (t : Addr) (ws : Array Value) (n : Nat) (dd : Option Addr) (sl : Array (Option Value)) (i : Int) (u : Tok) (h0 : (decide (i < -(2 ^ 63)) || decide (i ≥ 2 ^ 63)) = false) (h1 : (ws.isEmpty || i == 1) = true) :
    Meets (Builtin.«tuple.__mul__» ⟨[.ref t, .int i u], []⟩) (fun _ R st => st.heap.get? t = some (tupO ws n dd sl) ∧ R (.ok (.ret (.ref t))) st) :=
  .of_wp fun prog w A R st hyp => by
    obtain ⟨hp, g, d, tk, os⟩ := st
    obtain ⟨at_, goal⟩ := hyp
    have f1 := AutoSeq1.idx_int
    wp_walk using wpAny_loadPart' at_
    repeat (first
      | (refine wpAny_ite_false (decide_eq_false (by rw [h0]; decide)) ?_; wp_walk using wpAny_loadPart' at_)
      | (refine wpAny_ite_true (decide_eq_true (by rw [h1])) ?_; wp_walk using wpAny_loadPart' at_))
    exact ⟨_, rfl, goal⟩
theorem mul_none (t : Addr) (ws : Array Value) (n : Nat) (dd : Option Addr) (sl : Array (Option Value)) (i : Int) (u : Tok) (h0 : (decide (i < -(2 ^ 63)) || decide (i ≥ 2 ^ 63)) = false) (h1 : (ws.isEmpty || i == 1) = false) (h2 : (decide (i ≤ 0) || ws.isEmpty) = true) :
    Meets (Builtin.«tuple.__mul__» ⟨[.ref t, .int i u], []⟩) (fun _ R st => st.heap.get? t = some (tupO ws n dd sl) ∧ R (.ok (.ret (.ref st.heap.objs.size))) { st with heap := st.heap.push { cls := .type "tuple", data := .seq #[] } }) :=
  .of_wp fun prog w A R st hyp => by
    obtain ⟨hp, g, d, tk, os⟩ := st
    obtain ⟨at_, goal⟩ := hyp
    have f1 := AutoSeq1.idx_int
    wp_walk using wpAny_loadPart' at_
    repeat (first
      | (refine wpAny_ite_false (decide_eq_false (by rw [h0]; decide)) ?_; wp_walk using wpAny_loadPart' at_)
      | (refine wpAny_ite_false (decide_eq_false (by rw [h1]; decide)) ?_; wp_walk using wpAny_loadPart' at_)
      | (refine wpAny_ite_true (decide_eq_true (by rw [h2])) ?_; wp_walk using wpAny_loadPart' at_))
    exact ⟨_, rfl, goal⟩
section
variable {X : Cx}
theorem op_repS {pins : List (Addr × Obj)} {s : Shared} {σ : L2.St} {H : Hp} {l : Addr} {i : Int} {v u : Value} {Q : VK} {xs : List V} (I : Inv X pins σ H s) (rx : RelV (.ref l) v) (ry : RelV (.int i) u) (hT : SqT X.K H l xs) (i0 : -(2 ^ 63) ≤ i) (i1 : i < 2 ^ 63)
    (hq1 : xs = [] ∨ i = 1 → Q (.ref l) H) (hq0 : xs ≠ [] → i ≤ 0 → ∀ p, H p = none → Q (.ref p) (upd H p (.tup []))) (hs : xs = [] ∨ i ≤ 1) : wpAny (model X.prog X.w) X.A (binaryOp .Mult v u) (EP X pins σ Q) X.xe s := by
  cases rx
  obtain ⟨t, rfl⟩ := ry
  obtain ⟨its, r, ⟨⟨cls, dd, data, sl⟩, ho, hc, n, hd⟩, hz⟩ := I.tuple hT
  simp only at hc hd
  subst hc hd
  have hle : its.length = xs.length := r.length.symm
  have c0 : (decide (i < -(2 ^ 63)) || decide (i ≥ 2 ^ 63)) = false := by
    rw [decide_eq_false (by omega), decide_eq_false (by omega)]
    rfl
  have emp : its.toArray.isEmpty = true ↔ xs = [] := by
    cases its with
    | nil => exact ⟨fun _ => List.eq_nil_of_length_eq_zero hle.symm, fun _ => rfl⟩
    | cons a b => exact ⟨fun z => (nomatch z), fun z => by rw [z] at hle; cases hle⟩
  refine wpAny_binaryOp_repeat_ref (T := "tuple") (U := "int") (by decide) ⟨_, ho, rfl⟩ (fun s' => typeIs_int s' i t) noFill_tuple_mul F.fills_int_mul F.slot_int_rmul repeat_tuple F.slot_int_index.lookup ?_
  refine call_meets F.slot_int_rmul (typeIs_int s i t) F.entry_int_rmul (F.args_int_rmul_2 _ _) (int_rmul_tuple i t l its.toArray n dd sl) ⟨ho, rfl, ⟨_, ho, rfl⟩, ?_⟩
  by_cases one : xs = [] ∨ i = 1
  · have c1 : (its.toArray.isEmpty || i == 1) = true := by
      rcases one with h | h
      · rw [emp.mpr h]; rfl
      · rw [h, Bool.or_eq_true]; exact .inr rfl
    exact call_meets F.slot_tuple_mul ⟨_, ho, rfl⟩ F.entry_tuple_mul (F.args_tuple_mul_2 _ _) (mul_same l its.toArray n dd sl i t c0 c1) ⟨ho, .ref l, H, I, rfl, hq1 one⟩
  · have ne : xs ≠ [] := fun h => one (.inl h)
    have e0 : its.toArray.isEmpty = false := by
      cases q : its.toArray.isEmpty with
      | false => rfl
      | true => exact absurd (emp.mp q) ne
    have c1 : (its.toArray.isEmpty || i == 1) = false := by
      rw [e0, Bool.false_or]
      exact beq_eq_false_iff_ne.mpr fun h => one (.inr h)
    have le : i ≤ 0 := by
      rcases hs with h | h
      · exact absurd h ne
      · have : i ≠ 1 := fun h => one (.inr h)
        omega
    have c2 : (decide (i ≤ 0) || its.toArray.isEmpty) = true := by rw [decide_eq_true le]; rfl
    refine call_meets F.slot_tuple_mul ⟨_, ho, rfl⟩ F.entry_tuple_mul (F.args_tuple_mul_2 _ _) (mul_none l its.toArray n dd sl i t c0 c1 c2) ⟨ho, ?_⟩
    refine ⟨.ref s.heap.objs.size, _, I.laid (t' := s.toks) (o := .tup []) (fun b ob q => Heap.get?_push_of_some _ q) (Nat.le_refl _) ?_, rfl, hq0 ne le _ (I.hok.fresh (Nat.le_refl _))⟩
    exact ⟨Nat.zero_le _, [], .nil, IsTup.new _ _⟩
end
end Pi

/-! PiOps: the operators and built-ins by values: what the pure side asks is what the hand layer's rules ask. -/
namespace Pi
open PySem L2
variable [WD]
section
variable (K : PySem.W.Frag) (mg : Str → Option Value)
/-- how what is wanted on the pure side leads to what is wanted -/
def Lk (S : Sto) (H : Hp) (q : KE) (Q : VK) : Prop := ∀ z S' v H', q z S' → Ev S H S' H' → SR K mg S' H' → Rp K mg H' v z → Q v H'
def rD2 (w : D → D → Sto → KE → Prop) : R2 := fun x y H Q => ∃ S d e q, SR K mg S H ∧ Rp K mg H x d ∧ Rp K mg H y e ∧ w d e S q ∧ Lk K mg S H q Q
def rD1 (w : List D → Sto → KE → Prop) : List V → Hp → VK → Prop := fun xs H Q => ∃ S ds q, SR K mg S H ∧ Rps K mg H xs ds ∧ w ds S q ∧ Lk K mg S H q Q
def rDm (w : D → List D → Sto → KE → Prop) : V → List V → Hp → VK → Prop := fun x xs H Q => ∃ S d ds q, SR K mg S H ∧ Rp K mg H x d ∧ Rps K mg H xs ds ∧ w d ds S q ∧ Lk K mg S H q Q
variable {K mg}
theorem Lk.here {S : Sto} {H : Hp} {q : KE} {Q : VK} (l : Lk K mg S H q Q) (s : SR K mg S H) {z : D} {v : V} (h : q z S) (r : Rp K mg H v z) : Q v H := l z S v H h Ev.refl s r
/-- a new list -/
theorem Lk.newL {S : Sto} {H : Hp} {q : KE} {Q : VK} (l : Lk K mg S H q Q) (s : SR K mg S H) {xs : List D} {vs : List V} (h : ∀ p, S p = none → q (.ref p) (put S p (.lst xs))) (r : Rps K mg H vs xs) : ∀ p, H p = none → Q (.ref p) (upd H p (.lst vs)) := fun p hp => by
  obtain ⟨s1, e1⟩ := s.alloc (u := .lst xs) (o := .lst vs) hp ⟨vs, upd_same, r.mono (tk_new hp)⟩
  exact l _ _ _ _ (h p (s.free hp)) e1 s1 (.ref p)
/-- a new tuple -/
theorem Lk.newT {S : Sto} {H : Hp} {q : KE} {Q : VK} (l : Lk K mg S H q Q) (s : SR K mg S H) {xs : List D} {vs : List V} (h : q (.tup xs) S) (r : Rps K mg H vs xs) : ∀ p, H p = none → Q (.ref p) (upd H p (.tup vs)) := fun p hp => by
  obtain ⟨s1, e1⟩ := s.new (o := .tup vs) hp
  exact l _ _ _ _ h e1 s1 (.tup (.inl (.inl upd_same)) (r.mono (tk_new hp)))
/-- a store's list is changed -/
theorem Lk.setL {S : Sto} {H : Hp} {q : KE} {Q : VK} (l : Lk K mg S H q Q) (s : SR K mg S H) {p : Addr} {u0 : O} {xs : List D} {vs : List V} {z : D} {v : V} (h0 : S p = some u0) (h : q z (put S p (.lst xs))) (r : Rps K mg H vs xs) (rz : Rp K mg H v z) : Q v (upd H p (.lst vs)) := by
  obtain ⟨s1, e1, t1⟩ := s.write (u := .lst xs) (o := .lst vs) h0 fun t => ⟨vs, upd_same, r.mono t⟩
  exact l _ _ _ _ h e1 s1 (rz.mono t1)
def BOp.py : BOp → Operator
  | .add => .Add | .sub => .Sub | .mul => .Mult | .fdv => .FloorDiv | .mod => .Mod | .pow => .Pow
def COp.py : COp → CmpOp
  | .eq => .Eq | .ne => .NotEq | .lt => .Lt | .le => .LtE | .gt => .Gt | .ge => .GtE | .isin => .In | .notin => .NotIn | .is_ => .Is | .isnt => .IsNot | .isn => .In | .ntn => .NotIn
end
section
variable {X : Cx}
theorem Rps.ne {K : PySem.W.Frag} {mg : Str → Option Value} {H : Hp} {vs : List V} {ds : List D} (r : Rps K mg H vs ds) : ds = [] ↔ vs = [] := by
  cases r with
  | nil => simp
  | cons _ _ => simp
theorem fold_len (c : Array Nat) : ∀ (k : Nat) (acc : Array Nat), ((List.replicate k c).foldl (· ++ ·) acc).size = acc.size + k * c.size
  | 0, acc => by simp
  | k + 1, acc => by
    rw [List.replicate_succ, List.foldl_cons, fold_len c k, Array.size_append, Nat.add_mul, Nat.one_mul]
    omega
theorem mulS_len (x : Str) (k : Nat) : (mulS k x).length = k * x.length := by
  show ((List.replicate k x.cps).foldl (· ++ ·) #[]).size = k * x.cps.size
  rw [fold_len]
  exact Nat.zero_add _
theorem op_bop (op : BOp) : OpR X (binaryOp op.py) (rD2 X.K X.mg (bopW op)) := by
  intro pins s σ H x y v u Q I rx ry ⟨S, d, e, q, sr, rd, re, hb, l⟩
  unfold bopW at hb
  split at hb
  · cases rd; cases re
    exact op_add pins s σ H _ _ v u Q I rx ry ⟨_, _, rfl, rfl, l.here sr hb (.int _)⟩
  · cases rd; cases re
    exact op_add_str pins s σ H _ _ v u Q I rx ry ⟨_, _, rfl, rfl, hb.1, l.here sr hb.2 (.str _)⟩
  · cases rd; cases re
    obtain ⟨xs, ys, ha, hb1, hz, hq⟩ := hb
    obtain ⟨vs, h1, r1⟩ := sr.isL ha
    obtain ⟨ws, h2, r2⟩ := sr.isL hb1
    exact op_cat pins s σ H _ _ v u Q I rx ry ⟨_, _, vs, ws, rfl, rfl, h1, h2, by rw [r1.len, r2.len]; exact hz, l.newL sr hq (r1.app r2)⟩
  · cases rd with
    | tup h1 r1 =>
      cases re with
      | tup h2 r2 =>
        obtain ⟨hz, hq⟩ := hb
        refine op_catA pins s σ H _ _ v u Q I rx ry ⟨_, _, _, _, rfl, rfl, h1, h2, by rw [r1.len, r2.len]; exact hz, fun n => ?_, fun n1 n2 => ?_, fun n1 n2 => l.newT sr hq (r1.app r2)⟩
        · rw [r1.ne.mpr n, List.nil_append] at hq
          exact l.here sr hq (.tup h2 r2)
        · rw [r2.ne.mpr n2, List.append_nil] at hq
          exact l.here sr hq (.tup h1 r1)
  · cases rd; cases re
    exact op_sub pins s σ H _ _ v u Q I rx ry ⟨_, _, rfl, rfl, l.here sr hb (.int _)⟩
  · cases rd; cases re
    rcases hb.1 with h | h | h
    · exact op_mul pins s σ H _ _ v u Q I rx ry ⟨_, _, rfl, rfl, .inl h, l.here sr hb.2 (.int _)⟩
    · exact op_mul pins s σ H _ _ v u Q I rx ry ⟨_, _, rfl, rfl, .inr h, l.here sr hb.2 (.int _)⟩
    · exact op_mulW pins s σ H _ _ v u Q I rx ry ⟨_, _, rfl, rfl, h, l.here sr hb.2 (.int _)⟩
  · cases rd with
    | tup h1 r1 =>
      cases re
      obtain ⟨n2, n3, n4, hq⟩ := hb
      rename_i ds k a vs
      by_cases few : vs = [] ∨ k ≤ 1
      · refine op_repS I rx ry h1 n2 (by omega) (fun e => ?_) (fun ne le => ?_) few
        · have eq : rep k.toNat ds = ds := by
            rcases e with e | e
            · rw [r1.ne.mpr e]
              unfold rep
              induction k.toNat with
              | zero => rfl
              | succ n ih => rw [List.replicate_succ, List.flatten_cons, ih]; rfl
            · rw [e]
              show (List.replicate 1 ds).flatten = ds
              simp
          rw [eq] at hq
          exact l.here sr hq (.tup h1 r1)
        · have eq : rep k.toNat ds = [] := by
            rw [show k.toNat = 0 by omega]
            rfl
          rw [eq] at hq
          exact l.newT sr hq .nil
      · exact op_repT pins s σ H _ _ v u Q I rx ry ⟨_, _, _, rfl, rfl, h1, fun n => few (.inl n), by omega, n3, by rw [r1.len]; exact n4, l.newT sr hq (r1.rep _)⟩
  · cases rd; cases re
    obtain ⟨xs, ha, n1, n2, n3, hq⟩ := hb
    obtain ⟨vs, h1, r1⟩ := sr.isL ha
    exact op_rep pins s σ H _ _ v u Q I rx ry ⟨_, _, vs, rfl, rfl, h1, n1, n2, by rw [r1.len]; exact n3, l.newL sr hq (r1.rep _)⟩
  · cases rd; cases re
    rcases hb.1.2 with h | h
    · exact op_fdiv pins s σ H _ _ v u Q I rx ry ⟨_, _, rfl, rfl, ⟨hb.1.1, h⟩, l.here sr hb.2 (.int _)⟩
    · exact op_fdivW pins s σ H _ _ v u Q I rx ry ⟨_, _, rfl, rfl, ⟨hb.1.1, h⟩, l.here sr hb.2 (.int _)⟩
  · cases rd; cases re
    exact op_mod pins s σ H _ _ v u Q I rx ry ⟨_, _, rfl, rfl, hb.1, l.here sr hb.2 (.int _)⟩
  · cases rd; cases re
    exact op_pow pins s σ H _ _ v u Q I rx ry ⟨_, _, rfl, rfl, hb.1, l.here sr hb.2 (.int _)⟩
  · cases rd; cases re
    rename_i x k
    obtain ⟨k1, k2, x1, x2, hq⟩ := hb
    obtain ⟨tx, rfl⟩ := rx
    obtain ⟨tk, rfl⟩ := ry
    have hm : x.length * k.toNat ≤ 1000 * 1000 := Nat.mul_le_mul x2 (by omega)
    refine PySem.P.mul_str (by rw [decide_eq_false (by omega), decide_eq_false (by omega)]; rfl) (fun _ _ => ?_) (fun _ _ => ?_) ?_
    · have h1 : (x.length : Int) ≤ (2 ^ 63 - 1) / k := by
        rw [Int.le_ediv_iff_mul_le (by omega)]
        have h2 : ((x.length * k.toNat : Nat) : Int) ≤ 1000 * 1000 := by exact_mod_cast hm
        rw [Int.natCast_mul, Int.toNat_of_nonneg (by omega)] at h2
        omega
      omega
    · refine decide_eq_false ?_
      show ¬ (x.length * k.toNat > sizeLine)
      rw [sizeLine_eq]
      omega
    · rw [if_neg (by omega)]
      by_cases e1 : k = 1
      · subst e1
        have ex : mulS (1 : Int).toNat x = x := by
          show (⟨#[] ++ x.cps⟩ : Str) = x
          rw [Array.empty_append]
        rw [ex] at hq
        rw [if_pos (by rfl)]
        exact ⟨.str x, H, I, ⟨tx, rfl⟩, l.here sr hq (.str _)⟩
      · have hc : (k == 1 || x.length == 0) = false := by
          rw [beq_eq_false_iff_ne.mpr e1, Bool.false_or]
          exact beq_eq_false_iff_ne.mpr (by omega)
        rw [hc, if_neg (by decide)]
        refine ⟨?_, .str _, H, I.tok _, ⟨_, rfl⟩, l.here sr hq (.str _)⟩
        have h3 := mulS_len x k.toNat
        rw [sizeLine_eq]
        show (mulS k.toNat x).length ≤ _
        rw [h3, Nat.mul_comm]
        omega
  · exact hb.elim
/-! ### comparisons -/
mutual
theorem PyOf.dp {K : PySem.W.Frag} {mg : Str → Option Value} {S : Sto} {H : Hp} (s : SR K mg S H) : ∀ {p : PyData} {d : D} {v : V}, PyOf S d p → Rp K mg H v d → Dp K H v p
  | .none, _, _, h, r => by cases h; cases r; exact .non
  | .bool b, _, _, h, r => by cases h; cases r; exact .bl b
  | .int b, _, _, h, r => by cases h; cases r; exact .int b
  | .str b, _, _, h, r => by cases h; cases r; exact .str b
  | .tuple ps, _, _, h, r => by
    cases h with
    | tup h =>
      cases r with
      | tup q r => exact .tup q (PyOfs.dp s h r)
  | .list ps, _, _, h, r => by
    cases h with
    | lst hl h =>
      cases r
      obtain ⟨vs, q, r⟩ := s.isL hl
      exact .lst (SqL.of q) (PyOfs.dp s h r)
  | .dict _, _, _, h, _ => by cases h
theorem PyOfs.dp {K : PySem.W.Frag} {mg : Str → Option Value} {S : Sto} {H : Hp} (s : SR K mg S H) : ∀ {ps : List PyData} {ds : List D} {vs : List V}, PyOfs S ds ps → Rps K mg H vs ds → DpAll K H vs ps
  | [], _, _, h, r => by cases h; cases r; exact .nil
  | p :: ps, _, _, h, r => by
    cases h with
    | cons h1 h2 =>
      cases r with
      | cons r1 r2 => exact .cons (PyOf.dp s h1 r1) (PyOfs.dp s h2 r2)
end
theorem op_eqP (hu : X.A.units + 64 < cLine) : OpR X (compareOp .Eq) (rD2 X.K X.mg fun d e S q => eqW d e S fun k => q (.bl k) S) := by
  intro pins s σ H x y v u Q I rx ry ⟨S, d, e, q, sr, rd, re, hb, l⟩
  have sc : ∀ {k : Bool}, q (.bl k) S → scal x y = true → decide (x = y) = k → wpAny (model X.prog X.w) X.A (compareOp .Eq v u) (EP X pins σ Q) X.xe s := fun {k} h1 h2 h3 => by
    subst h3
    exact op_eq pins s σ H x y v u Q I rx ry ⟨h2, l.here sr h1 (.bl _)⟩
  dsimp only at hb
  unfold eqW at hb
  split at hb
  · cases rd; cases re; exact sc hb rfl (by simp)
  · cases rd; cases re; exact sc hb rfl (by simp)
  · cases rd; cases re; exact sc hb rfl (by simp)
  · cases rd; cases re; exact sc hb rfl (by simp)
  · cases rd; cases re; exact sc hb rfl (by simp)
  · cases rd; cases re; exact sc hb rfl (by simp)
  · cases rd; cases re; exact sc hb rfl (by simp)
  · cases rd; cases re; exact sc hb rfl (by simp)
  · cases rd; cases re; exact sc hb rfl (by simp)
  · cases rd; cases re; exact sc hb rfl (by simp)
  · cases rd; cases re; exact sc hb rfl (by simp)
  · cases rd; cases re; exact sc hb rfl (by simp)
  · cases rd; cases re; exact sc hb rfl (by simp)
  · cases rd; cases re; exact sc hb rfl (by simp)
  · obtain ⟨a, b, h1, h2, h3, h4, hq⟩ := hb
    exact op_eqD hu pins s σ H x y v u Q I rx ry ⟨a, b, h1.dp sr rd, h2.dp sr re, h3, h4, l.here sr hq (.bl _)⟩
theorem op_neP (hu : X.A.units + 64 < cLine) : OpR X (compareOp .NotEq) (rD2 X.K X.mg fun d e S q => eqW d e S fun k => q (.bl (!k)) S) := by
  intro pins s σ H x y v u Q I rx ry ⟨S, d, e, q, sr, rd, re, hb, l⟩
  have sc : ∀ {k : Bool}, q (.bl (!k)) S → scal x y = true → decide (x = y) = k → wpAny (model X.prog X.w) X.A (compareOp .NotEq v u) (EP X pins σ Q) X.xe s := fun {k} h1 h2 h3 => by
    subst h3
    exact op_ne pins s σ H x y v u Q I rx ry ⟨h2, l.here sr h1 (.bl _)⟩
  dsimp only at hb
  unfold eqW at hb
  split at hb
  · cases rd; cases re; exact sc hb rfl (by simp)
  · cases rd; cases re; exact sc hb rfl (by simp)
  · cases rd; cases re; exact sc hb rfl (by simp)
  · cases rd; cases re; exact sc (k := true) hb rfl (by simp)
  · cases rd; cases re; exact sc (k := false) hb rfl (by simp)
  · cases rd; cases re; exact sc (k := false) hb rfl (by simp)
  · cases rd; cases re; exact sc (k := false) hb rfl (by simp)
  · cases rd; cases re; exact sc (k := false) hb rfl (by simp)
  · cases rd; cases re; exact sc (k := false) hb rfl (by simp)
  · cases rd; cases re; exact sc (k := false) hb rfl (by simp)
  · cases rd; cases re; exact sc (k := false) hb rfl (by simp)
  · cases rd; cases re; exact sc (k := false) hb rfl (by simp)
  · cases rd; cases re; exact sc (k := false) hb rfl (by simp)
  · cases rd; cases re; exact sc (k := false) hb rfl (by simp)
  · obtain ⟨a, b, h1, h2, h3, h4, hq⟩ := hb
    exact op_neD hu pins s σ H x y v u Q I rx ry ⟨a, b, h1.dp sr rd, h2.dp sr re, h3, h4, l.here sr hq (.bl _)⟩
theorem op_ltP {op : CmpOp} {f : Int → Int → Bool} (ho : OpR X (compareOp op) (rI0 fun i j => .bl (f i j))) : OpR X (compareOp op) (rD2 X.K X.mg fun d e S q => ltW f d e fun k => q (.bl k) S) := by
  intro pins s σ H x y v u Q I rx ry ⟨S, d, e, q, sr, rd, re, hb, l⟩
  dsimp only at hb
  unfold ltW at hb
  split at hb
  · cases rd; cases re
    exact ho pins s σ H _ _ v u Q I rx ry ⟨_, _, rfl, rfl, l.here sr hb (.bl _)⟩
  · exact hb.elim
end
end Pi

/-! PiDn: dicts with keys of any depth: the operators. -/
namespace Pi
open PySem L2 PyProof.Rows
variable [WD]
section
variable {K : PySem.W.Frag} {mg : Str → Option Value} {H : Hp}
theorem rps1 {xs : List V} {d : D} (r : Rps K mg H xs [d]) : ∃ x, xs = [x] ∧ Rp K mg H x d := by
  cases r with
  | cons a b => cases b; exact ⟨_, rfl, a⟩
theorem rps0 {xs : List V} (r : Rps K mg H xs []) : xs = [] := by cases r; rfl
theorem rps2 {xs : List V} {d e : D} (r : Rps K mg H xs [d, e]) : ∃ x y, xs = [x, y] ∧ Rp K mg H x d ∧ Rp K mg H y e := by
  cases r with
  | cons a b =>
    cases b with
    | cons b c => cases c; exact ⟨_, _, rfl, a, b⟩
end
section
variable {X : Cx} {pins : List (Addr × Obj)} {σ : L2.St} {H : Hp} {s : Shared}
mutual
theorem Rp.key (I : Inv X pins σ H s) : ∀ {d : D} {v : V} {u : Value} {k : NestedKey}, Rp X.K X.mg H v d → RelV v u → kyD d = some k → NestedIs s.heap k u
  | .non, _, u, k, r, e, h => by
    cases r
    obtain rfl : u = Value.none := e
    injection h with h
    subst h
    exact .none
  | .bl b, _, u, k, r, e, h => by
    cases r
    obtain rfl : u = Value.bool b := e
    injection h with h
    subst h
    exact .bool rfl
  | .int i, _, u, k, r, e, h => by
    cases r
    obtain ⟨t, rfl⟩ : ∃ t, u = Value.int i t := e
    injection h with h
    subst h
    exact .int i t
  | .str x, _, u, k, r, e, h => by
    cases r
    obtain ⟨t, rfl⟩ : ∃ t, u = Value.str x t := e
    injection h with h
    subst h
    exact .text x t
  | .tup xs, _, u, k, r, e, h => by
    cases r with
    | @tup a vs ds g rs =>
      obtain rfl : u = Value.ref a := e
      have h : (kyDs xs).map NestedKey.tup = some k := h
      obtain ⟨ks, hk, rfl⟩ := Option.map_eq_some_iff.mp h
      obtain ⟨its, rv, ⟨o, e1, e2, n, e3⟩, _⟩ := I.tuple g
      exact .tup e1 e2 e3 (by simpa using Rps.keys I rs rv hk)
  | .ref _, _, _, _, _, _, h => nomatch h
  | .fn _, _, _, _, _, _, h => nomatch h
  | .cls _, _, _, _, _, _, h => nomatch h
  | .fls _, _, _, _, _, _, h => nomatch h
  | .exc _, _, _, _, _, _, h => nomatch h
theorem Rps.keys (I : Inv X pins σ H s) : ∀ {ds : List D} {vs : List V} {us : List Value} {ks : List NestedKey}, Rps X.K X.mg H vs ds → Vals vs us → kyDs ds = some ks → NestedAll s.heap ks us
  | [], _, us, ks, r, e, h => by
    cases r
    cases e
    injection h with h
    subst h
    exact .nil
  | d :: ds, _, us, ks, r, e, h => by
    cases r with
    | cons r1 r2 =>
      cases e with
      | cons e1 e2 =>
        unfold kyDs at h
        cases a : kyD d with
        | none => rw [a] at h; cases h
        | some k =>
          cases b : kyDs ds with
          | none => rw [a, b] at h; cases h
          | some ks' =>
            rw [a, b] at h
            injection h with h
            subst h
            exact .cons (Rp.key I r1 e1 a) (Rps.keys I r2 e2 b)
end
theorem Rp.kok (I : Inv X pins σ H s) {d : D} {v : V} {u : Value} {k : NestedKey} (r : Rp X.K X.mg H v d) (e : RelV v u) (h : kyD d = some k) (hd : k.depth ≤ 8) : KOk s.heap k u := ⟨Rp.key I r e h, hd⟩
/-- the dict's rows in the heap -/
theorem dn_rows (hw : X.w = WD.w) (I : Inv X pins σ H s) {a : Addr} {kd : List (D × D)} (g : SRo X.K X.mg H a (.dcn kd)) :
    ∃ rows xs, H a = some (DnO WD.w a rows) ∧ Paired (DnR X.K X.mg H) rows kd ∧ Paired DnP rows xs ∧ (rows.map (·.1)).Nodup ∧ NDict X.w s.heap a xs ∧ NRs s.heap xs ∧ (a == sysModules) = false ∧ rows.length ≤ sizeLine := by
  obtain ⟨rows, h1, hnf, h2, h3⟩ := g
  obtain ⟨⟨f1, f2, xs, f3, f4⟩, hst⟩ := I.hok _ _ h1
  rw [← hw] at f4
  refine ⟨rows, xs, h1, h2, f3, h3, f4, ⟨?_, ?_⟩, f1, f2⟩
  · clear h1 h3 f4 f2 hnf hst
    induction f3 generalizing kd with
    | nil => intro x hx; cases hx
    | @cons p q ps qs r t ih =>
      cases h2 with
      | cons r2 t2 =>
        intro x hx
        rcases List.mem_cons.mp hx with e | hx
        · subst e
          have := Rp.kok I r2.2.2.1 r.2.1 r2.1 r2.2.1
          rw [r.1] at this
          exact this
        · exact ih t2 x hx
  · have e : xs.map (·.1) = rows.map (·.1) := by
      clear h1 h2 h3 f4 f2 hnf hst
      induction f3 with
      | nil => rfl
      | cons r t ih => rw [List.map_cons, List.map_cons, ih, r.1]
    rw [e]
    exact h3
end
section
variable {K : PySem.W.Frag} {mg : Str → Option Value} {H : Hp}
theorem dn_val {rows : List (NestedKey × V × V)} {kd : List (D × D)} {xs : List NR} {d : D} {k : NestedKey} (h1 : Paired (DnR K mg H) rows kd) (h2 : Paired DnP rows xs) (hk : kyD d = some k) :
    (∀ z, getN kd d = some z → ∃ v u, valN xs k = some u ∧ Rp K mg H v z ∧ RelV v u) ∧ (valN xs k).isSome = (getN kd d).isSome := by
  induction h1 generalizing xs with
  | nil => cases h2; exact ⟨(fun z h => nomatch h), rfl⟩
  | @cons p q ps qs r t ih =>
    cases h2 with
    | @cons _ x _ xs r2 t2 =>
      have e1 : getN (q :: qs) d = if p.1 = k then some q.2 else getN qs d := by
        unfold getN
        rw [List.find?_cons, r.1, hk]
        by_cases e : p.1 = k
        · rw [if_pos e, decide_eq_true (congrArg some e)]; rfl
        · rw [if_neg e, decide_eq_false fun z => e (by injection z)]
      have e2 : valN (x :: xs) k = if p.1 = k then some x.2.2 else valN xs k := by
        unfold valN
        rw [List.find?_cons, ← r2.1]
        by_cases e : p.1 = k
        · rw [if_pos e, decide_eq_true e]; rfl
        · rw [if_neg e, decide_eq_false e]
      rw [e1, e2]
      by_cases e : p.1 = k
      · rw [if_pos e, if_pos e]
        refine ⟨fun z h => ?_, rfl⟩
        injection h with h
        subst h
        exact ⟨_, _, rfl, r.2.2.2, r2.2.2⟩
      · rw [if_neg e, if_neg e]
        exact ih t2
def setR (rows : List (NestedKey × V × V)) (k : NestedKey) (kv z : V) : List (NestedKey × V × V) := if (rows.any fun p => decide (p.1 = k)) = true then rows.map (fun p => if p.1 = k then (p.1, p.2.1, z) else p) else rows ++ [(k, kv, z)]
theorem setR_len (rows : List (NestedKey × V × V)) (k : NestedKey) (kv z : V) : (setR rows k kv z).length ≤ rows.length + 1 := by
  unfold setR
  split
  · rw [List.length_map]; omega
  · rw [List.length_append]; exact Nat.le_refl _
theorem setR_nd {rows : List (NestedKey × V × V)} {k : NestedKey} {kv z : V} (h : (rows.map (·.1)).Nodup) : ((setR rows k kv z).map (·.1)).Nodup := by
  unfold setR
  split
  · have e : (rows.map fun p => if p.1 = k then (p.1, p.2.1, z) else p).map (·.1) = rows.map (·.1) := by
      rw [List.map_map]
      refine List.map_congr_left fun p _ => ?_
      show (if p.1 = k then (p.1, p.2.1, z) else p).1 = p.1
      split <;> rfl
    rw [e]
    exact h
  · rename_i q
    rw [List.map_append, List.nodup_append]
    refine ⟨h, by simp, fun a ha b hb e => ?_⟩
    rw [List.map_singleton, List.mem_singleton] at hb
    obtain ⟨p, hp, rfl⟩ := List.mem_map.mp ha
    exact q (List.any_eq_true.mpr ⟨p, hp, decide_eq_true (e.trans hb)⟩)
theorem set_kd {rows : List (NestedKey × V × V)} {kd : List (D × D)} {d z : D} {k : NestedKey} {kv zv : V} (h1 : Paired (DnR K mg H) rows kd) (hk : kyD d = some k) (hd : k.depth ≤ 8) (rk : Rp K mg H kv d) (rz : Rp K mg H zv z) : Paired (DnR K mg H) (setR rows k kv zv) (setN kd d z) := by
  have any : ∀ {rows : List (NestedKey × V × V)} {kd : List (D × D)}, Paired (DnR K mg H) rows kd → (rows.any fun p => decide (p.1 = k)) = kd.any fun p => decide (kyD p.1 = kyD d) := fun {rows kd} h => by
    induction h with
    | nil => rfl
    | @cons p q ps qs r t ih =>
      rw [List.any_cons, List.any_cons, ih, r.1, hk]
      by_cases e : p.1 = k
      · rw [decide_eq_true e, decide_eq_true (congrArg some e)]
      · rw [decide_eq_false e, decide_eq_false fun z => e (by injection z)]
  unfold setR setN
  rw [← any h1]
  split
  · clear any
    induction h1 with
    | nil => exact .nil
    | @cons p q ps qs r t ih =>
      rename_i hh
      rw [List.map_cons, List.map_cons]
      have tl : Paired (DnR K mg H) (ps.map fun p => if p.1 = k then (p.1, p.2.1, zv) else p) (qs.map fun p => if kyD p.1 = kyD d then (p.1, z) else p) := by
        clear ih hh
        induction t with
        | nil => exact .nil
        | @cons p q ps qs r t ih =>
          rw [List.map_cons, List.map_cons]
          refine .cons ?_ ih
          rw [r.1, hk]
          by_cases e : p.1 = k
          · rw [if_pos e, if_pos (congrArg some e)]
            exact ⟨r.1, r.2.1, r.2.2.1, rz⟩
          · rw [if_neg e, if_neg fun z => e (by injection z)]
            exact r
      refine .cons ?_ tl
      rw [r.1, hk]
      by_cases e : p.1 = k
      · rw [if_pos e, if_pos (congrArg some e)]
        exact ⟨r.1, r.2.1, r.2.2.1, rz⟩
      · rw [if_neg e, if_neg fun z => e (by injection z)]
        exact r
  · exact Paired.snoc h1 ⟨hk, hd, rk, rz⟩
theorem set_xs {rows : List (NestedKey × V × V)} {xs : List NR} {k : NestedKey} {kv zv : V} {u uz : Value} (h1 : Paired DnP rows xs) (rk : RelV kv u) (rz : RelV zv uz) : Paired DnP (setR rows k kv zv) (setN' xs k u uz) := by
  have any : ∀ {rows : List (NestedKey × V × V)} {xs : List NR}, Paired DnP rows xs → (rows.any fun p => decide (p.1 = k)) = (ixN' xs k).isSome := fun {rows xs} h => by
    unfold ixN'
    induction h with
    | nil => rfl
    | @cons p q ps qs r t ih =>
      rw [List.any_cons, List.findIdx?_cons, ih, ← r.1]
      by_cases e : p.1 = k
      · rw [decide_eq_true e, if_pos rfl]; rfl
      · rw [decide_eq_false e, if_neg Bool.false_ne_true, Bool.false_or, Option.isSome_map]
  have tl : ∀ {rows : List (NestedKey × V × V)} {xs : List NR}, Paired DnP rows xs → Paired DnP (rows.map fun p => if p.1 = k then (p.1, p.2.1, zv) else p) (xs.map fun x => if x.1 = k then (x.1, x.2.1, uz) else x) := fun {rows xs} h => by
    induction h with
    | nil => exact .nil
    | @cons p q ps qs r t ih =>
      rw [List.map_cons, List.map_cons]
      refine .cons ?_ ih
      rw [← r.1]
      by_cases e : p.1 = k
      · rw [if_pos e, if_pos e]
        exact ⟨rfl, r.2.1, rz⟩
      · rw [if_neg e, if_neg e]
        exact r
  unfold setR setN'
  rw [any h1]
  split
  · exact tl h1
  · exact Paired.snoc h1 ⟨rfl, rk, rz⟩
end
section
variable {X : Cx}
theorem op_isn (hw : X.w = WD.w) (hu : X.A.units + 65 < cLine) : OpR X (compareOp .In) (rD2 X.K X.mg fun d e S q => innW d e S fun k => q (.bl k) S) := by
  intro pins s σ H x y v u Q I rx ry ⟨S, d, e, q, sr, rd, re, hb, l⟩
  dsimp only at hb
  unfold innW at hb
  split at hb
  · obtain ⟨kvs, h1, ⟨k, hk, hd⟩, hq⟩ := hb
    cases re
    obtain rfl : u = Value.ref _ := ry
    obtain ⟨rows, xs, g, a1, a2, a3, a4, a5, a6, a7⟩ := dn_rows hw I (sr _ _ h1)
    refine in_n (by omega) (Rp.kok I rd rx hk hd) a6 a4 a5 ?_
    rw [(dn_val a1 a2 hk).2]
    exact ⟨V.bl _, H, I.tok _, rfl, l.here sr hq (.bl _)⟩
  · obtain ⟨p, ps, h1, h2, h3, h4, hq⟩ := hb
    obtain ⟨as, r1⟩ := Dp.reads I p x v (h1.dp sr rd) rx
    cases re with
    | tup g r =>
      obtain ⟨bs, r2⟩ := Dp.reads I (.tuple ps) _ u (.tup g (h2.dp sr r)) ry
      exact SeqAt.in_tuple_reads r2 r1 (SeqAt.canLay_of_shaped h4) (SeqAt.canLay_of_shaped h3) (room_in_shaped h3 hu) ⟨.bl _, H, I, rfl, l.here sr hq (.bl _)⟩
  · exact hb.elim
theorem op_ntn (hw : X.w = WD.w) (hu : X.A.units + 65 < cLine) : OpR X (compareOp .NotIn) (rD2 X.K X.mg fun d e S q => innW d e S fun k => q (.bl (!k)) S) := by
  intro pins s σ H x y v u Q I rx ry ⟨S, d, e, q, sr, rd, re, hb, l⟩
  dsimp only at hb
  unfold innW at hb
  split at hb
  · obtain ⟨kvs, h1, ⟨k, hk, hd⟩, hq⟩ := hb
    cases re
    obtain rfl : u = Value.ref _ := ry
    obtain ⟨rows, xs, g, a1, a2, a3, a4, a5, a6, a7⟩ := dn_rows hw I (sr _ _ h1)
    refine notin_n (by omega) (Rp.kok I rd rx hk hd) a6 a4 a5 ?_
    rw [(dn_val a1 a2 hk).2]
    exact ⟨V.bl _, H, I.tok _, rfl, l.here sr hq (.bl _)⟩
  · obtain ⟨p, ps, h1, h2, h3, h4, hq⟩ := hb
    obtain ⟨as, r1⟩ := Dp.reads I p x v (h1.dp sr rd) rx
    cases re with
    | tup g r =>
      obtain ⟨bs, r2⟩ := Dp.reads I (.tuple ps) _ u (.tup g (h2.dp sr r)) ry
      exact SeqAt.notIn_tuple_reads r2 r1 (SeqAt.canLay_of_shaped h4) (SeqAt.canLay_of_shaped h3) (room_in_shaped h3 hu) ⟨.bl _, H, I, rfl, l.here sr hq (.bl _)⟩
  · exact hb.elim
theorem ix_n (hw : X.w = WD.w) (hu : X.A.units + 65 < cLine) : IxR X (rD2 X.K X.mg idnW) := by
  intro value slice pins s σ H x y v u Q I rx ry ⟨S, d, e, q, sr, rd, re, hb, l⟩ hs
  unfold idnW at hb
  split at hb
  · obtain ⟨kvs, z, h1, ⟨k, hk, hd⟩, h2, hq⟩ := hb
    cases rd
    obtain rfl : v = Value.ref _ := rx
    obtain ⟨rows, xs, g, a1, a2, a3, a4, a5, a6, a7⟩ := dn_rows hw I (sr _ _ h1)
    obtain ⟨zv, zu, b1, b2, b3⟩ := (dn_val a1 a2 hk).1 _ h2
    exact tail_any a4.typeIs PySem.F.slot_dict_getitem.lookup (item_n (by omega) (Rp.kok I re ry hk hd) a4 a5 b1 ⟨zv, H, I.tok _, b3, l.here sr hq b2⟩) hs
  · exact hb.elim
/-- the dict at a is given another content -/
theorem dn_write {pins : List (Addr × Obj)} {σ : L2.St} {H : Hp} {s : Shared} {h' : Heap} {t' : Nat} {S : Sto} {a : Addr} {kd kd' : List (D × D)} {rows rows' : List (NestedKey × V × V)} {xs' : List NR} (hw : X.w = WD.w) (I : Inv X pins σ H s) (sr : SR X.K X.mg S H) (h1 : S a = some (.dcn kd))
    (g : H a = some (DnO WD.w a rows)) (hs : (a == sysModules) = false) (hz : rows'.length ≤ sizeLine) (r1 : Paired (DnR X.K X.mg H) rows' kd') (r2 : Paired DnP rows' xs') (nd : (rows'.map (·.1)).Nodup) (hd : NDict X.w h' a xs') (sb : Heap.SameBut a s.heap h') :
    Inv X pins σ (upd H a (DnO WD.w a rows')) { s with heap := h', toks := t' } ∧ SR X.K X.mg (Pi.put S a (.dcn kd')) (upd H a (DnO WD.w a rows')) ∧ Ev S H (Pi.put S a (.dcn kd')) (upd H a (DnO WD.w a rows')) ∧ Tk X.K H (upd H a (DnO WD.w a rows')) := by
  have f : DnF WD.w a rows' h' := ⟨hs, hz, xs', r2, by rw [← hw]; exact hd⟩
  refine ⟨I.write (x := a) (e := a) (by rw [g]; exact True.intro) (.inl rfl) (fun b o ne e => (sb.2 b ne).trans e) ?_ (dnO_ok f), ?_⟩
  · obtain ⟨o, _, e, _⟩ := hd
    exact ⟨o, e⟩
  · exact sr.write (u := .dcn kd') (o := DnO WD.w a rows') h1 fun t => ⟨rows', upd_same, dn_fix f, DnR.mono t r1, nd⟩
def rStn (K : PySem.W.Frag) (mg : Str → Option Value) : V → V → V → Hp → (Hp → Prop) → Prop := fun o i v H Q => ∃ S d e z q, SR K mg S H ∧ Rp K mg H o d ∧ Rp K mg H i e ∧ Rp K mg H v z ∧ stnW d e z S q ∧ ∀ S' H', q S' → Ev S H S' H' → SR K mg S' H' → Q H'
theorem set_nP (hw : X.w = WD.w) (hu : X.A.units + 65 < cLine) : PSet X (rStn X.K X.mg) := by
  intro pins s σ H o i v ov iv u Q I ro ri rv ⟨S, d, e, z, q, sr, rd, re, rz, hb, l⟩
  unfold stnW at hb
  split at hb
  · obtain ⟨kvs, h1, ⟨k, hk, hd⟩, hz, hq⟩ := hb
    cases rd
    obtain rfl : ov = Value.ref _ := ro
    obtain ⟨rows, xs, g, a1, a2, a3, a4, a5, a6, a7⟩ := dn_rows hw I (sr _ _ h1)
    have len : rows.length = kvs.length := Paired.length a1
    have len2 : rows.length = xs.length := Paired.length a2
    refine store_n (by omega) (Rp.kok I re ri hk hd) a4 a5 (by omega) fun h' n1 sb => ?_
    obtain ⟨I', s1, e1, t1⟩ := dn_write (t' := s.toks + k.draws) hw I sr h1 g a6 (Nat.le_trans (setR_len rows k i v) (by omega)) (set_kd a1 hk hd re rz) (set_xs a2 ri rv) (setR_nd a3) n1 sb
    exact ⟨_, I', l _ _ hq e1 s1⟩
  · exact hb.elim
theorem mt_getn (hw : X.w = WD.w) (hu : X.A.units + 65 < cLine) : MtR X "dict.get" (rDm X.K X.mg gtnW) := by
  intro pins s σ H x ys v us Q I rx ry ⟨S, d, ds, q, sr, rd, rs, hb, l⟩
  unfold gtnW at hb
  split at hb
  any_goals exact hb.elim
  all_goals
    obtain ⟨kvs, h1, ⟨k, hk, hd⟩, hq⟩ := hb
    cases rd
    obtain rfl : v = Value.ref _ := rx
    obtain ⟨rows, xs, g, a1, a2, a3, a4, a5, a6, a7⟩ := dn_rows hw I (sr _ _ h1)
    obtain ⟨b1, b2⟩ := dn_val a1 a2 hk
  · obtain ⟨y, rfl, ry'⟩ := rps1 rs
    obtain ⟨u, rfl, ru⟩ := vals1 ry
    refine call_meetsIn PySem.F.slot_dict_get a4.typeIs PySem.F.entry_dict_get (PySem.F.args_dict_get_2 _ _) (meets_get1 a6 u) ⟨by omega, k, xs, Rp.kok I ry' ru hk hd, a4, a5, ?_⟩
    cases e : getN kvs ‹D› with
    | none =>
      rw [e] at hq b2
      cases e2 : valN xs k with
      | some z => rw [e2] at b2; cases b2
      | none => exact ⟨V.non, H, I.tok _, rfl, l.here sr hq .non⟩
    | some z =>
      rw [e] at hq
      obtain ⟨zv, zu, c1, c2, c3⟩ := b1 z e
      rw [c1]
      exact ⟨zv, H, I.tok _, c3, l.here sr hq c2⟩
  · obtain ⟨y, y2, rfl, ry', ry2⟩ := rps2 rs
    obtain ⟨u, u2, rfl, ru, ru2⟩ := vals2 ry
    refine call_meetsIn PySem.F.slot_dict_get a4.typeIs PySem.F.entry_dict_get (PySem.F.args_dict_get_3 _ _ _) (meets_get2 a6 u u2) ⟨by omega, k, xs, Rp.kok I ry' ru hk hd, a4, a5, ?_⟩
    rename_i kd zd
    cases e : getN kvs kd with
    | none =>
      rw [e] at hq b2
      cases e2 : valN xs k with
      | some z => rw [e2] at b2; cases b2
      | none => exact ⟨y2, H, I.tok _, ru2, l.here sr hq ry2⟩
    | some z =>
      rw [e] at hq
      obtain ⟨zv, zu, c1, c2, c3⟩ := b1 z e
      rw [c1]
      exact ⟨zv, H, I.tok _, c3, l.here sr hq c2⟩
end
end Pi

/-! PiDnIt: dicts with keys of any depth: made, measured, walked, listed. -/
namespace Pi
open PySem L2 PyProof.Rows
variable [WD]
section
variable {X : Cx} {pins : List (Addr × Obj)} {σ : L2.St} {H : Hp} {s : Shared}
/-- the dict in the raw heap -/
theorem dn_raw {w : World} {h : Heap} {a : Addr} {xs : List NR} (d : NDict w h a xs) : ∃ es, h.DictRaw a es xs.length ∧ es.size = xs.length ∧ es.toList = xs.map (NR.ent w) := by
  obtain ⟨o, es, e1, e2, e3, e4⟩ := d
  exact ⟨es, ⟨o, e1, e2, e3⟩, ents_size e4, e4⟩
theorem len_nP (hw : X.w = WD.w) : CallR X (.builtin "len") (fun vs H Q => ∃ S a kvs q, vs = [V.ref a] ∧ SR X.K X.mg S H ∧ S a = some (.dcn kvs) ∧ q (.int kvs.length) S ∧ Lk X.K X.mg S H q Q) := by
  intro pins s σ H vs us Q I r ⟨S, a, kvs, q, e, sr, h1, hq, l⟩
  subst e
  obtain ⟨u, rfl, ru⟩ := vals1 r
  obtain rfl : u = Value.ref a := ru
  obtain ⟨rows, xs, g, a1, a2, a3, a4, a5, a6, a7⟩ := dn_rows hw I (sr _ _ h1)
  have n1 : rows.length = kvs.length := Paired.length a1
  have n2 : rows.length = xs.length := Paired.length a2
  obtain ⟨es, raw, sz, _⟩ := dn_raw a4
  have zl := sizeLine_eq
  refine Calls.call_function_entry kind_len plain_len entry_len (args_len1 _) ?_
  unfold Builtin.«len»
  refine wpAny_bind (m := oneArg "len" _) (wpAny_pure ?_)
  refine wpAny_bind (m := callSpecial? (.ref a) (Str.ofString "__len__")) (wpAny_callSpecial?_slot (name := Str.ofString "__len__") a4.typeIs PySem.F.slot_dict_len (call_len_raw a6 raw ?_))
  show wpAny _ _ _ _ _ { s with toks := s.toks + 1 }
  refine wpAny_bind (wpAny_holding (wpAny_pure (wpAny_bind (wpAny_letGo ?_))))
  refine wp_ite (fun z => ?_) fun _ => wp_ite (fun z => ?_) fun _ => ?_
  · exact absurd z (by show ¬ ((es.size : Nat) : Int) < 0; omega)
  · exact absurd z (by show ¬ ((es.size : Nat) : Int) ≥ 2 ^ 63; omega)
  · refine wpAny_bind (wpAny_mkInt (wpAny_pure ⟨_, rfl, .int kvs.length, H, I.tok _, ⟨s.toks + 1, ?_⟩, l.here sr hq (.int _)⟩))
    rw [← n1, n2, ← sz]
theorem list_nP (hw : X.w = WD.w) (hc : X.calm = true) : CallR X (.type "list") (fun vs H Q => ∃ S a kvs q, vs = [V.ref a] ∧ SR X.K X.mg S H ∧ S a = some (.dcn kvs) ∧ (∀ p, S p = none → q (.ref p) (Pi.put S p (.lst (kvs.map (·.1))))) ∧ Lk X.K X.mg S H q Q) := by
  intro pins s σ H vs us Q I r ⟨S, a, kvs, q, e, sr, h1, hq, l⟩
  subst e
  obtain ⟨u, rfl, ru⟩ := vals1 r
  obtain rfl : u = Value.ref a := ru
  obtain ⟨rows, xs, g, a1, a2, a3, a4, a5, a6, a7⟩ := dn_rows hw I (sr _ _ h1)
  have n1 : rows.length = kvs.length := Paired.length a1
  have n2 : rows.length = xs.length := Paired.length a2
  obtain ⟨es, raw, sz, el⟩ := dn_raw a4
  have zl := sizeLine_eq
  refine PySem.W.kdl_call (PySem.KdlSrc.rawDict (prog := X.prog) (w := X.w) (es := es) (ep := xs.length) a6) (I.ok.hd hc) raw (by omega) fun h' tk acc c hk hS hacc => ?_
  have vr : Vals (rows.map (·.2.1)) acc.toList := by
    refine vals_of_at (by have := hacc.1; rw [List.length_map, show acc.toList.length = acc.size from Array.length_toList]; omega) fun j x u g1 g2 => ?_
    rw [List.getElem?_map] at g1
    obtain ⟨p, hp, e⟩ := Option.map_eq_some_iff.mp g1
    subst e
    obtain ⟨hi, ev⟩ := hacc.2 j u (by simpa using g2)
    obtain ⟨y, hy, rel⟩ := paired_get a2 hp
    have ge : es[j]? = some (NR.ent X.w y) := by rw [ents_get el, hy]; rfl
    rw [Array.getElem?_eq_getElem hi] at ge
    injection ge with ge
    rw [ev, ge]
    exact rel.2.1
  have rk : Rps X.K X.mg H (rows.map (·.2.1)) (kvs.map (·.1)) := by
    clear h1 g a2 a3 n1 n2 vr hq a7
    induction a1 with
    | nil => exact .nil
    | cons r t ih => exact .cons r.2.2.1 ih
  have hn : H s.heap.objs.size = none := I.hok.fresh (Nat.le_refl _)
  have I1 := I.laid (o := .lst (rows.map (·.2.1))) (t' := tk) hk (Nat.le_refl _) ⟨by rw [List.length_map]; exact a7, acc.toList, c, vr, hS⟩
  exact ⟨.ref _, _, I1, rfl, l.newL sr hq rk _ hn⟩
end
/-- the keys of the dict at a, of n rows -/
def Itn (w : World) (a : Addr) (n : Nat) : It :=
  ⟨fun i H => ∃ rows, H a = some (DnO w a rows) ∧ rows.length = n ∧ i < n, fun i H x H' => H' = H ∧ ∀ rows, H a = some (DnO w a rows) → ∃ r, rows[i]? = some r ∧ x = r.2.1, fun i H => ∃ rows, H a = some (DnO w a rows) ∧ rows.length = n ∧ n ≤ i⟩
def bV : Value → V
  | .none => .non
  | .bool b => .bl b
  | .int i _ => .int i
  | .str x _ => .str x
  | .bytes b _ => .byt b
  | .float b _ => .flt b
  | .ref a => .ref a
  | .type n => .ty n
  | _ => .non
omit [WD] in
theorem bV_of {x : V} {u : Value} (h : L2.RelV x u) : bV u = x := by
  cases x with
  | non => have h : u = Value.none := h; subst h; rfl
  | bl b => have h : u = Value.bool b := h; subst h; rfl
  | int i => obtain ⟨t, h⟩ : ∃ t, u = Value.int i t := h; subst h; rfl
  | str i => obtain ⟨t, h⟩ : ∃ t, u = Value.str i t := h; subst h; rfl
  | byt i => obtain ⟨t, h⟩ : ∃ t, u = Value.bytes i t := h; subst h; rfl
  | flt i => obtain ⟨t, h⟩ : ∃ t, u = Value.float i t := h; subst h; rfl
  | ref a => have h : u = Value.ref a := h; subst h; rfl
  | ty n => have h : u = Value.type n := h; subst h; rfl
theorem turn_dn {P : Program} {w : World} {K : PySem.W.Frag} {tg : Expr} (hw : w = WD.w) (a it : Addr) (n : Nat) : Turn P w K tg (Itn WD.w a n) [it] it (fun i h => h.IsKeyIter it a i n n) where
  mem := List.mem_singleton.mpr rfl
  obj := fun i h st b hb => by
    obtain rfl := List.mem_singleton.mp hb
    obtain ⟨o, e, c, d⟩ := st
    exact ⟨o, e, fun v z => by rw [d] at z; cases z⟩
  keep := fun i h h' st k => st.at fun o e => k it (List.mem_singleton.mpr rfl) o e
  item := by
    rintro X rfl rfl rfl hc i pins s σ H E I hf st ⟨rows, g, hn, hi⟩
    obtain ⟨⟨f1, f2, xs, f3, f4⟩, _⟩ := I.hok _ _ g
    have n2 : rows.length = xs.length := Paired.length f3
    obtain ⟨es, raw, sz, el⟩ := dn_raw f4
    obtain ⟨i0, i1, i2, i3, i4, i5⟩ := hf it (List.mem_singleton.mpr rfl)
    have e1 : es.size = n := by omega
    have e2 : xs.length = n := by omega
    rw [e2] at raw
    have hlt : i < es.size := by omega
    refine PySem.wpAny_pyNext_keys_item_raw (es := es) (by rw [e1]; exact st) raw hlt fun h' st' sb => ?_
    have I1 : Inv X pins σ H { s with heap := h' } := I.turned (t' := s.toks) (fun b o hb e => (sb.2 b hb).trans e) i0 i1 i3 i4 i5
    obtain ⟨o, e, c, d⟩ := id st'
    have hr : rows[i]? = some rows[i] := List.getElem?_eq_getElem (by omega)
    have same : ∀ {rs : List (NestedKey × V × V)} {p : NestedKey × V × V}, H a = some (DnO WD.w a rs) → rs[i]? = some p → L2.RelV p.2.1 es[i].key := fun {rs p} g' hp => by
      obtain ⟨⟨_, _, ys, q3, q4⟩, _⟩ := I.hok _ _ g'
      obtain ⟨es', raw', sz', el'⟩ := dn_raw q4
      have ee : es' = es := by
        obtain ⟨o1, u1, _, u2⟩ := raw
        obtain ⟨o2, w1, _, w2⟩ := raw'
        rw [u1] at w1
        cases w1
        rw [u2] at w2
        injection w2 with w2
        exact w2.symm
      subst ee
      obtain ⟨y, hy, rel⟩ := paired_get q3 hp
      have ge : es'[i]? = some (NR.ent WD.w y) := by rw [ents_get el', hy]; rfl
      rw [Array.getElem?_eq_getElem hlt] at ge
      injection ge with ge
      rw [ge]
      exact rel.2.1
    refine ⟨es[i].key, rfl, go_of (s := { s with heap := h' }) e c d (by decide) ⟨rows[i].2.1, H, I1, same g hr, ⟨rfl, fun rs g' => ?_⟩, by rw [← e1]; exact (by rw [e1] at st' ⊢; exact st'), fun b hb => (hf b hb).1⟩⟩
    have l2 : rs.length = n := by
      obtain ⟨⟨_, _, ys, q3, q4⟩, _⟩ := I.hok _ _ g'
      obtain ⟨es', raw', sz', el'⟩ := dn_raw q4
      obtain ⟨o1, u1, _, u2⟩ := raw
      obtain ⟨o2, w1, _, w2⟩ := raw'
      rw [u1] at w1
      cases w1
      rw [u2] at w2
      injection w2 with _ w2
      have := Paired.length q3
      omega
    have hp : rs[i]? = some rs[i] := List.getElem?_eq_getElem (by omega)
    exact ⟨_, hp, by rw [← bV_of (same g hr), bV_of (same g' hp)]⟩
  done := by
    rintro X rfl rfl rfl hc i pins s σ H E I hf st ⟨rows, g, hn, hi⟩
    obtain ⟨⟨f1, f2, xs, f3, f4⟩, _⟩ := I.hok _ _ g
    have n2 : rows.length = xs.length := Paired.length f3
    obtain ⟨es, raw, sz, el⟩ := dn_raw f4
    obtain ⟨i0, i1, i2, i3, i4, i5⟩ := hf it (List.mem_singleton.mpr rfl)
    have e1 : es.size = n := by omega
    have e2 : xs.length = n := by omega
    rw [e2] at raw
    exact PySem.wpAny_pyNext_keys_end_raw (es := es) (I.ok.hd hc) (by rw [e1]; exact st) raw (by omega) fun h' eb => ⟨rfl, I.turned (t' := s.toks) (fun b o hb e => eb b o hb e) i0 i1 i3 i4 i5⟩
  self := fun _ _ _ _ _ st h => wpAny_pyIter_keyiter st h
theorem pi_dn {X : Cx} {tg e : Expr} {te : TE} (hw : X.w = WD.w) (he : PE X e te) : PI X tg e (fun σ H R => te σ H fun x H1 => ∃ a rows, x = .ref a ∧ H1 a = some (DnO WD.w a rows) ∧ R (Itn WD.w a rows.length) H1) := by
  refine ⟨fun pins s σ H R I h => thn (he.run pins s σ H _ I h) fun v s1 ⟨x, H1, I1, r1, a, rows, ex, g, q⟩ => ?_⟩
  subst ex
  obtain rfl : v = Value.ref a := r1
  obtain ⟨⟨f1, f2, xs, f3, f4⟩, _⟩ := I1.hok _ _ g
  have n2 : rows.length = xs.length := Paired.length f3
  obtain ⟨es, raw, sz, el⟩ := dn_raw f4
  have e1 : es.size = rows.length := by omega
  rw [← n2] at raw
  refine PySem.wpAny_pyIter_dict_raw f1 raw ?_
  refine ⟨s1.heap.objs.size, [s1.heap.objs.size], _, _, H1, rfl, I1.kept (t' := s1.toks) fun b o e => Heap.get?_push_of_some _ e, turn_dn hw a _ rows.length, ⟨_, Heap.get?_push_size _ rfl, rfl, by rw [e1]; rfl⟩, fun b hb => ?_, q⟩
  obtain rfl := List.mem_singleton.mp hb
  exact I1.fpOk (Nat.le_refl _) (I1.hok.fresh (Nat.le_refl _))
/-- a new empty dict -/
theorem dn_empty {w : World} (h : Heap) (hb : sysModules < h.objs.size) : DnF w h.objs.size [] (h.push { cls := .type "dict", data := .dict #[] }) := by
  refine ⟨?_, Nat.zero_le _, [], .nil, _, #[], Heap.get?_push_size _ rfl, ⟨rfl, rfl, rfl⟩, rfl, rfl⟩
  exact beq_eq_false_iff_ne.mpr (Nat.ne_of_gt hb)
/-- {} -/
theorem pe_dnw {X : Cx} {pos : Pos} (hw : X.w = WD.w) : PE X (.Dict [] [] pos) (fun σ H Q => ∀ p, H p = none → ¬ FixO (DnO WD.w p []) → Q (.ref p) (upd H p (DnO WD.w p []))) :=
  ⟨fun pins s σ H Q I h => wpAny_Dict_empty ⟨.ref s.heap.objs.size, _, I.laid (a := s.heap.objs.size) (t' := s.toks) (fun _ _ q => Heap.get?_push_of_some _ q) (Nat.le_refl _) (dnO_ok (dn_empty s.heap I.big)), rfl, h _ (I.hok.fresh (Nat.le_refl _)) (dn_fix (dn_empty s.heap I.big))⟩⟩
end Pi

/-! PiLt: < of data. -/
namespace Pi
open PySem L2 PyProof.Rows PySem.W PySem.SeqAt
variable [WD]
section
variable {X : Cx}
/-- < of ints, of alike data -/
theorem op_ltdP (hu : X.A.units + 65 < cLine) : OpR X (compareOp .Lt) (rD2 X.K X.mg fun d e S q => ltdW d e S fun k => q (.bl k) S) := by
  intro pins s σ H x y v u Q I rx ry ⟨S, d, e, q, sr, rd, re, hb, l⟩
  dsimp only at hb
  unfold ltdW at hb
  split at hb
  · cases rd; cases re
    exact op_lt pins s σ H _ _ v u Q I rx ry ⟨_, _, rfl, rfl, l.here sr hb (.bl _)⟩
  · obtain ⟨a, b, h1, h2, h3, h4, h5, hq⟩ := hb
    obtain ⟨as, r1⟩ := Dp.reads I a x v (h1.dp sr rd) rx
    obtain ⟨bs, r2⟩ := Dp.reads I b y u (h2.dp sr re) ry
    exact PySem.W.lt_data r1 r2 h3 h4 (by omega) ⟨.bl _, H, I, rfl, l.here sr hq (.bl _)⟩
end
end Pi

/-! PiOps2: in, is, subscripts, stores, built-in functions and methods by values. -/
namespace Pi
open PySem L2 PyProof.Rows
variable [WD]
section
variable {K : PySem.W.Frag} {mg : Str → Option Value}
theorem KVr.get {H : Hp} {kv : List (Key × V)} {kd : List (Str × D)} (h : KVr K mg H kv kd) (k : Str) : (∀ d, getK kd k = some d → ∃ v, valV kv (Sum.inr k) = some v ∧ Rp K mg H v d) ∧ (valV kv (Sum.inr k)).isSome = (getK kd k).isSome := by
  unfold KVr at h
  induction h with
  | nil => exact ⟨fun d e => (by simp [getK] at e), rfl⟩
  | @cons p q ps qs r t ih =>
    by_cases e : q.1 = k
    · have e1 : p.1 = Sum.inr k := by rw [r.1, e]
      have g : getK (q :: qs) k = some q.2 := by simp [getK, List.find?_cons, e]
      refine ⟨fun d h => ⟨p.2, valV_pos e1, ?_⟩, by rw [valV_pos e1, g]; rfl⟩
      rw [g] at h; cases h
      exact r.2
    · have e1 : ¬ p.1 = Sum.inr k := fun z => e (by rw [r.1] at z; exact Sum.inr.inj z)
      have g : getK (q :: qs) k = getK qs k := by simp [getK, List.find?_cons, e]
      rw [valV_neg e1, g]
      exact ih
theorem KVr.len {H : Hp} {kv : List (Key × V)} {kd : List (Str × D)} (h : KVr K mg H kv kd) : kv.length = kd.length := Paired.length h
theorem KVr.any {H : Hp} {kv : List (Key × V)} {kd : List (Str × D)} (h : KVr K mg H kv kd) (k : Str) : (kv.any fun p => decide (p.1 = Sum.inr k)) = kd.any fun p => decide (p.1 = k) := by
  unfold KVr at h
  induction h with
  | nil => rfl
  | @cons p q ps qs r t ih =>
    rw [List.any_cons, List.any_cons, ih]
    congr 1
    rw [r.1]
    exact key_rr _ _
theorem KVr.put {H : Hp} {kv : List (Key × V)} {kd : List (Str × D)} (h : KVr K mg H kv kd) (k : Str) {v : V} {d : D} (r : Rp K mg H v d) : KVr K mg H (putK kv (Sum.inr k) v) (setK kd k d) := by
  unfold putK setK
  rw [h.any k]
  generalize (kd.any fun p => decide (p.1 = k)) = c
  cases c with
  | true =>
    rw [if_pos rfl, if_pos rfl]
    unfold KVr at h ⊢
    induction h with
    | nil => exact .nil
    | @cons p q ps qs rr t ih =>
      refine .cons ?_ ih
      dsimp only
      by_cases e : q.1 = k
      · rw [if_pos (show p.1 = Sum.inr k by rw [rr.1, e]), if_pos e]
        exact ⟨rr.1, r⟩
      · rw [if_neg (show ¬ p.1 = Sum.inr k from fun z => e (by rw [rr.1] at z; exact Sum.inr.inj z)), if_neg e]
        exact rr
  | false =>
    rw [if_neg Bool.false_ne_true, if_neg Bool.false_ne_true]
    unfold KVr at h ⊢
    induction h with
    | nil => exact .cons ⟨rfl, r⟩ .nil
    | cons rr t ih => exact .cons rr ih
theorem Lk.setD {S : Sto} {H : Hp} {p : Addr} {u0 : O} {kd : List (Str × D)} {kv : List (Key × V)} (s : SR K mg S H) (h0 : S p = some u0) (r : KVr K mg H kv kd) :
    SR K mg (Pi.put S p (.dct kd)) (upd H p (.dK kv)) ∧ Ev S H (Pi.put S p (.dct kd)) (upd H p (.dK kv)) ∧ Tk K H (upd H p (.dK kv)) := s.write (u := .dct kd) (o := .dK kv) h0 fun t => ⟨kv, upd_same, r.mono t⟩
end
section
variable {X : Cx}
theorem op_inP (hu : X.A.units + 65 < cLine) : OpR X (compareOp .In) (rD2 X.K X.mg fun d e S q => inW d e S fun k => q (.bl k) S) := by
  intro pins s σ H x y v u Q I rx ry ⟨S, d, e, q, sr, rd, re, hb, l⟩
  dsimp only at hb
  unfold inW at hb
  split at hb
  · cases rd; cases re
    obtain ⟨n, rfl, hq⟩ := hb
    exact op_in_sign pins s σ H _ _ v u Q I rx ry ⟨_, _, rfl, rfl, l.here sr hq (.bl _)⟩
  · cases re
    rcases hb with ⟨xs, p, ps, hl, h1, h2, h3, h4, hq⟩ | ⟨kvs, k, h1, rfl, hq⟩
    · obtain ⟨vs, g, r⟩ := sr.isL hl
      exact op_inD hu pins s σ H _ _ v u Q I rx ry ⟨p, ps, h1.dp sr rd, .lst (SqL.of g) (h2.dp sr r), h3, h4, l.here sr hq (.bl _)⟩
    · cases rd
      obtain ⟨kv, g, r⟩ := sr _ _ h1
      have hq' := l.here sr hq (.bl _)
      rw [← (r.get k).2] at hq'
      obtain rfl : u = Value.ref _ := ry
      exact d_in (by omega) I (DGet.k (k := Sum.inr k) g) rx fun s1 I1 => ⟨.bl (valV kv (Sum.inr k : Key)).isSome, H, I1, rfl, hq'⟩
  · obtain ⟨p, ps, h1, h2, h3, h4, hq⟩ := hb
    obtain ⟨as, r1⟩ := Dp.reads I p x v (h1.dp sr rd) rx
    cases re with
    | tup g r =>
      obtain ⟨bs, r2⟩ := Dp.reads I (.tuple ps) _ u (.tup g (h2.dp sr r)) ry
      exact SeqAt.in_tuple_reads r2 r1 (SeqAt.canLay_of_shaped h4) (SeqAt.canLay_of_shaped h3) (room_in_shaped h3 hu) ⟨.bl _, H, I, rfl, l.here sr hq (.bl _)⟩
  · exact hb.elim
theorem op_notinP (hu : X.A.units + 65 < cLine) : OpR X (compareOp .NotIn) (rD2 X.K X.mg fun d e S q => inW d e S fun k => q (.bl (!k)) S) := by
  intro pins s σ H x y v u Q I rx ry ⟨S, d, e, q, sr, rd, re, hb, l⟩
  dsimp only at hb
  unfold inW at hb
  split at hb
  · cases rd; cases re
    obtain ⟨n, rfl, hq⟩ := hb
    exact op_notIn_sign pins s σ H _ _ v u Q I rx ry ⟨_, _, rfl, rfl, l.here sr hq (.bl _)⟩
  · cases re
    rcases hb with ⟨xs, p, ps, hl, h1, h2, h3, h4, hq⟩ | ⟨kvs, k, h1, rfl, hq⟩
    · obtain ⟨vs, g, r⟩ := sr.isL hl
      exact op_notInD hu pins s σ H _ _ v u Q I rx ry ⟨p, ps, h1.dp sr rd, .lst (SqL.of g) (h2.dp sr r), h3, h4, l.here sr hq (.bl _)⟩
    · cases rd
      obtain ⟨kv, g, r⟩ := sr _ _ h1
      have hq' := l.here sr hq (.bl _)
      rw [← (r.get k).2] at hq'
      obtain rfl : u = Value.ref _ := ry
      exact d_notIn (by omega) I (DGet.k (k := Sum.inr k) g) rx fun s1 I1 => ⟨.bl (!(valV kv (Sum.inr k : Key)).isSome), H, I1, rfl, hq'⟩
  · obtain ⟨p, ps, h1, h2, h3, h4, hq⟩ := hb
    obtain ⟨as, r1⟩ := Dp.reads I p x v (h1.dp sr rd) rx
    cases re with
    | tup g r =>
      obtain ⟨bs, r2⟩ := Dp.reads I (.tuple ps) _ u (.tup g (h2.dp sr r)) ry
      exact SeqAt.notIn_tuple_reads r2 r1 (SeqAt.canLay_of_shaped h4) (SeqAt.canLay_of_shaped h3) (room_in_shaped h3 hu) ⟨.bl _, H, I, rfl, l.here sr hq (.bl _)⟩
  · exact hb.elim
theorem op_isP : OpR X (compareOp .Is) (rD2 X.K X.mg fun d e S q => copW .is_ d e S fun k => q (.bl k) S) := by
  intro pins s σ H x y v u Q I rx ry ⟨S, d, e, q, sr, rd, re, hb, l⟩
  cases e <;> first | exact False.elim hb | skip
  cases re
  have hb : q (.bl (isNon d)) S := hb
  refine op_isN pins s σ H _ _ v u Q I rx ry ⟨rfl, ?_⟩
  have e : (decide (x = .non)) = isNon d := by cases rd <;> simp [isNon]
  rw [e]
  exact l.here sr hb (.bl _)
theorem op_isntP : OpR X (compareOp .IsNot) (rD2 X.K X.mg fun d e S q => copW .isnt d e S fun k => q (.bl k) S) := by
  intro pins s σ H x y v u Q I rx ry ⟨S, d, e, q, sr, rd, re, hb, l⟩
  cases e <;> first | exact False.elim hb | skip
  cases re
  have hb : q (.bl (!isNon d)) S := hb
  refine op_notN pins s σ H _ _ v u Q I rx ry ⟨rfl, ?_⟩
  have e : (decide (x = .non)) = isNon d := by cases rd <;> simp [isNon]
  rw [e]
  exact l.here sr hb (.bl _)
theorem op_cop (op : COp) (hw : X.w = WD.w) (hu : X.A.units + 65 < cLine) : OpR X (compareOp op.py) (rD2 X.K X.mg fun d e S q => copW op d e S fun k => q (.bl k) S) := by
  have hu' : X.A.units + 64 < cLine := by omega
  cases op with
  | eq => exact op_eqP hu'
  | ne => exact op_neP hu'
  | lt => exact op_ltdP hu
  | le => exact op_ltP op_le
  | gt => exact op_ltP op_gt
  | ge => exact op_ltP op_ge
  | isin => exact op_inP hu
  | notin => exact op_notinP hu
  | is_ => exact op_isP
  | isnt => exact op_isntP
  | isn => exact op_isn hw hu
  | ntn => exact op_ntn hw hu
/-! ### subscripts -/
theorem ix_P (hu : X.A.units + 1 < cLine) : IxR X (rD2 X.K X.mg idxW) := by
  intro value slice pins s σ H x y v u Q I rx ry ⟨S, d, e, q, sr, rd, re, hb, l⟩ hs
  unfold idxW at hb
  split at hb
  · cases re
    cases rd with
    | tup g r =>
      obtain ⟨z, h1, hq⟩ := hb
      obtain ⟨w, h2, rw'⟩ := r.atI h1
      exact ix_tup value slice pins s σ H _ _ v u Q I rx ry ⟨_, _, _, w, rfl, rfl, g, h2, l.here sr hq rw'⟩ hs
  · cases re; cases rd
    obtain ⟨xs, z, h0, h1, hq⟩ := hb
    obtain ⟨vs, g, r⟩ := sr.isL h0
    obtain ⟨w, h2, rw'⟩ := r.atI h1
    exact ix_list value slice pins s σ H _ _ v u Q I rx ry ⟨_, _, _, w, rfl, rfl, SqL.of g, h2, l.here sr hq rw'⟩ hs
  · rename_i a k
    cases re; cases rd
    obtain ⟨kvs, z, h0, h1, hq⟩ := hb
    obtain ⟨kv, g, r⟩ := sr _ _ h0
    obtain ⟨w, h2, rw'⟩ := (r.get _).1 _ h1
    obtain rfl : v = Value.ref _ := rx
    have dg := DGet.k (k := (Sum.inr k : Key)) g
    rw [h2] at dg
    exact tail_any (dict_typeIs I dg) PySem.F.slot_dict_getitem.lookup (d_getItem hu I dg ry fun w' s3 I3 r3 => ⟨w, H, I3, r3, l.here sr hq rw'⟩) hs
  · cases re; cases rd
    obtain ⟨hz, c, h1, hq⟩ := hb
    exact ix_str value slice pins s σ H _ _ v u Q I rx ry ⟨_, _, c, rfl, rfl, hz, h1, l.here sr hq (.str _)⟩ hs
  · exact hb.elim
def rSl (K : PySem.W.Frag) (mg : Str → Option Value) : V → Option Int → Option Int → Hp → VK → Prop := fun x lo hi H Q => ∃ S d q, SR K mg S H ∧ Rp K mg H x d ∧ slcW d lo hi S q ∧ Lk K mg S H q Q
theorem cutD_whole {xs : List D} {lo hi : Option Int} (h : HT.sIx xs.length 0 lo = 0 ∧ HT.sIx xs.length xs.length hi = xs.length) : cutD xs lo hi = xs := by
  unfold cutD
  rw [h.1, h.2]
  simp
theorem sl_P : SlR X (rSl X.K X.mg) := by
  intro pins s σ H x v vl vu lo hi sl Q I rx hs pl pu ⟨S, d, q, sr, rd, hb, l⟩
  unfold slcW at hb
  split at hb
  · cases rd with
    | tup g r =>
      refine sl_tupA pins s σ H _ v vl vu lo hi sl Q I rx hs pl pu ⟨_, _, rfl, g, fun hw => ?_, fun _ => l.newT sr hb (r.cut lo hi)⟩
      rw [r.len] at hw
      rw [cutD_whole hw] at hb
      exact l.here sr hb (.tup g r)
  · cases rd
    obtain ⟨xs, h0, hq⟩ := hb
    obtain ⟨vs, g, r⟩ := sr.isL h0
    exact sl_list pins s σ H _ v vl vu lo hi sl Q I rx hs pl pu ⟨_, vs, rfl, SqL.of g, l.newL sr hq (r.cut lo hi)⟩
  · cases rd
    exact sl_str pins s σ H _ v vl vu lo hi sl Q I rx hs pl pu ⟨_, rfl, hb.1, l.here sr hb.2 (.str _)⟩
  · exact hb.elim
/-- o[i] = v -/
def rSto (K : PySem.W.Frag) (mg : Str → Option Value) : V → V → V → Hp → (Hp → Prop) → Prop := fun o i v H Q => ∃ S d e z q, SR K mg S H ∧ Rp K mg H o d ∧ Rp K mg H i e ∧ Rp K mg H v z ∧ stoW d e z S q ∧ ∀ S' H', q S' → Ev S H S' H' → SR K mg S' H' → Q H'
theorem set_P (hu : X.A.units + 1 < cLine) : PSet X (rSto X.K X.mg) := by
  intro pins s σ H o i v ov iv u Q I ro ri rv ⟨S, d, e, z, q, sr, rd, re, rz, hb, l⟩
  unfold stoW at hb
  split at hb
  · cases rd; cases re
    obtain ⟨kvs, h0, hn, hq⟩ := hb
    obtain ⟨kv, g, r⟩ := sr _ _ h0
    obtain rfl : ov = Value.ref _ := ro
    obtain ⟨s1, e1, t1⟩ := Lk.setD sr h0 (r.put _ rz)
    exact d_setItem hu I (DPut.k (k := Sum.inr _) g (by rw [r.len]; exact small1000 (by omega))) ri rv fun s3 I3 => ⟨_, I3, l _ _ hq e1 s1⟩
  · cases rd; cases re
    obtain ⟨xs, j, h0, h1, hq⟩ := hb
    obtain ⟨vs, g, r⟩ := sr.isL h0
    obtain ⟨s1, e1, t1⟩ := sr.write (u := .lst (xs.set j z)) (o := .lst (vs.set j v)) h0 fun t => ⟨_, upd_same, (r.set rz j).mono t⟩
    exact set_list pins s σ H _ _ _ ov iv u _ I ro ri rv ⟨_, vs, _, j, rfl, rfl, g, by rw [r.len]; exact h1, l _ _ hq e1 s1⟩
  · exact hb.elim
end
end Pi

/-! PiIdx: how often, where something stands in a list; < of data; an item of a list, by values. -/
namespace Pi
open PySem L2 PyProof.Rows PySem.W PySem.SeqAt
variable [WD]
section
variable {X : Cx}
def rCountD (K : PySem.W.Frag) : V → List V → Hp → VK → Prop := fun x xs H Q => ∃ (a : Addr) (y : V) (d : PyData) (ds : List PyData), x = V.ref a ∧ xs = [y] ∧ Dp K H (V.ref a) (.list ds) ∧ Dp K H y d ∧
  SeqAt.shaped (.list ds) = true ∧ SeqAt.shaped d = true ∧ Q (.int (ds.countP fun z => PyData.eqv z d : Nat)) H
theorem mt_countD (hu : X.A.units + 65 < cLine) : MtR X "list.count" (rCountD X.K) := by
  intro pins s σ H x xs v us Q I rx rxs h
  obtain ⟨a, y, d, ds, rfl, rfl, hl, hy, sl, sd, q⟩ := h
  cases rx
  cases rxs with
  | cons ry rt =>
    rename_i uy ut
    cases rt
    obtain ⟨bs, r1⟩ := Dp.reads I d y uy hy ry
    have hxs : PyData.canLayAll0 ds = true := SeqAt.canLay_of_shaped sl
    have hroom : X.A.units + 1 + min (PyData.depthAll ds) d.depth < cLine := room_in_shaped sd hu
    cases hl with
    | lst hs ha =>
      obtain ⟨its, rv, ⟨⟨cls, dd, data, sls⟩, n, ho, hc, hdn, hdt⟩, hlen⟩ := I.list hs
      simp only at hc hdt
      subst hc hdt
      obtain ⟨as, h4⟩ := Dp.readsAll I ds _ its ha rv
      have hmap : its.map (SeqAt.readOf s.heap) = ds := SeqAt.readsAll_map ds its as hxs h4
      refine call_meets PySem.F.slot_list_count ⟨_, ho, rfl⟩ PySem.F.entry_list_count (PySem.F.args_list_count_2 _ _)
        (SeqAt.list_countAt a its.toArray n dd sls uy (fun u => PyData.eqv (SeqAt.readOf s.heap u) d)) ⟨ho, SeqAt.items_eqAt (vs := its.toArray) (show ReadsAll s.heap its.toArray.toList ds as from h4) r1 hxs (SeqAt.canLay_of_shaped sd) hroom, ?_⟩
      have ec : its.toArray.toList.countP (fun u => PyData.eqv (SeqAt.readOf s.heap u) d) = ds.countP fun z => PyData.eqv z d := by
        rw [← hmap, List.countP_map]
        rfl
      refine ⟨.int (ds.countP (fun z => PyData.eqv z d) : Nat), H, I.tok _, ⟨s.toks, ?_⟩, q⟩
      show Value.int ((its.toArray.toList.countP (fun u => PyData.eqv (SeqAt.readOf s.heap u) d) : Nat) : Int) s.toks = Value.int ((ds.countP (fun z => PyData.eqv z d) : Nat) : Int) s.toks
      rw [ec]
/-- an item of a list, by values -/
theorem pg_list : PGet X (rD2 X.K X.mg idxL) := by
  intro pins s σ H o i v u Q I ro ri ⟨S, d, e, q, sr, rd, re, hb, l⟩
  unfold idxL at hb
  split at hb
  · cases rd; cases re
    obtain ⟨xs, z, h0, h1, h2, hq⟩ := hb
    obtain ⟨vs, g, r⟩ := sr.isL h0
    obtain ⟨w, e2, rw'⟩ := r.get h2
    obtain ⟨its, rv, pl, hz⟩ := I.list (SqL.of g)
    cases ro
    obtain ⟨t, rfl⟩ := ri
    obtain ⟨y, e3, ry⟩ := Vals.get rv e2
    have hl := (List.getElem?_eq_some_iff.mp e3).1
    have hn := line63
    have := rv.length
    refine wpAny_getItem_list pl.isList h1 (by omega) (by simpa using e3) ⟨w, H, I, ry, l.here sr hq rw'⟩
  · exact hb.elim
end
end Pi

/-! PiOps3: built-in functions, isinstance, methods by values. -/
namespace Pi
open PySem L2 PyProof.Rows
variable [WD]
section
variable {K : PySem.W.Frag} {mg : Str → Option Value} {H : Hp}
theorem rps_ints : ∀ {ds : List D} {ns : List Int} {vs : List V}, intsB ds = some ns → Rps K mg H vs ds → vs = ns.map V.int
  | [], ns, vs, e, r => by simp [intsB] at e; subst e; cases r; rfl
  | .int i :: ds, ns, vs, e, r => by
    simp only [intsB, Option.map_eq_some_iff] at e
    obtain ⟨ms, h1, rfl⟩ := e
    cases r with
    | cons a b =>
      cases a
      rw [List.map_cons, rps_ints h1 b]
  | .non :: _, _, _, e, _ => by cases e
  | .bl _ :: _, _, _, e, _ => by cases e
  | .str _ :: _, _, _, e, _ => by cases e
  | .tup _ :: _, _, _, e, _ => by cases e
  | .ref _ :: _, _, _, e, _ => by cases e
  | .fn _ :: _, _, _, e, _ => by cases e
  | .cls _ :: _, _, _, e, _ => by cases e
  | .fls _ :: _, _, _, e, _ => by cases e
theorem rps_texts : ∀ {ds : List D} {ns : List Str} {vs : List V}, textsB ds = some ns → Rps K mg H vs ds → vs = ns.map V.str
  | [], ns, vs, e, r => by simp [textsB] at e; subst e; cases r; rfl
  | .str i :: ds, ns, vs, e, r => by
    simp only [textsB, Option.map_eq_some_iff] at e
    obtain ⟨ms, h1, rfl⟩ := e
    cases r with
    | cons a b =>
      cases a
      rw [List.map_cons, rps_texts h1 b]
  | .non :: _, _, _, e, _ => by cases e
  | .bl _ :: _, _, _, e, _ => by cases e
  | .int _ :: _, _, _, e, _ => by cases e
  | .tup _ :: _, _, _, e, _ => by cases e
  | .ref _ :: _, _, _, e, _ => by cases e
  | .fn _ :: _, _, _, e, _ => by cases e
  | .cls _ :: _, _, _, e, _ => by cases e
  | .fls _ :: _, _, _, e, _ => by cases e
theorem rps_all : ∀ {ds : List D} {b : Bool} {vs : List V}, allB ds = some b → Rps K mg H vs ds → ∃ bs : List Bool, vs = bs.map V.bl ∧ bs.all id = b
  | [], b, vs, e, r => by simp [allB] at e; subst e; cases r; exact ⟨[], rfl, rfl⟩
  | .bl i :: ds, b, vs, e, r => by
    simp only [allB, Option.map_eq_some_iff] at e
    obtain ⟨c, h1, rfl⟩ := e
    cases r with
    | cons a b =>
      cases a
      obtain ⟨bs, h2, h3⟩ := rps_all h1 b
      exact ⟨i :: bs, by rw [h2]; rfl, by rw [List.all_cons, h3]; rfl⟩
  | .non :: _, _, _, e, _ => by cases e
  | .int _ :: _, _, _, e, _ => by cases e
  | .str _ :: _, _, _, e, _ => by cases e
  | .tup _ :: _, _, _, e, _ => by cases e
  | .ref _ :: _, _, _, e, _ => by cases e
  | .fn _ :: _, _, _, e, _ => by cases e
  | .cls _ :: _, _, _, e, _ => by cases e
  | .fls _ :: _, _, _, e, _ => by cases e
theorem rps_any : ∀ {ds : List D} {b : Bool} {vs : List V}, anyB ds = some b → Rps K mg H vs ds → ∃ bs : List Bool, vs = bs.map V.bl ∧ bs.any id = b
  | [], b, vs, e, r => by simp [anyB] at e; subst e; cases r; exact ⟨[], rfl, rfl⟩
  | .bl i :: ds, b, vs, e, r => by
    simp only [anyB, Option.map_eq_some_iff] at e
    obtain ⟨c, h1, rfl⟩ := e
    cases r with
    | cons a b =>
      cases a
      obtain ⟨bs, h2, h3⟩ := rps_any h1 b
      exact ⟨i :: bs, by rw [h2]; rfl, by rw [List.any_cons, h3]; rfl⟩
  | .non :: _, _, _, e, _ => by cases e
  | .int _ :: _, _, _, e, _ => by cases e
  | .str _ :: _, _, _, e, _ => by cases e
  | .tup _ :: _, _, _, e, _ => by cases e
  | .ref _ :: _, _, _, e, _ => by cases e
  | .fn _ :: _, _, _, e, _ => by cases e
  | .cls _ :: _, _, _, e, _ => by cases e
  | .fls _ :: _, _, _, e, _ => by cases e
theorem rps_signs (z : List Nat) : Rps K mg H (z.map fun c => V.str ⟨#[c]⟩) (z.map fun c => D.str ⟨#[c]⟩) := by
  induction z with
  | nil => exact .nil
  | cons c r ih => exact .cons (.str _) ih
end
def Bi.val : Bi → Value
  | .len => .builtin "len" | .int => .type "int" | .abs => .builtin "abs" | .max => .builtin "max" | .min => .builtin "min" | .tuple => .type "tuple" | .list => .type "list"
  | .all => .builtin "all" | .any => .builtin "any" | .sum => .builtin "sum" | .repr => .builtin "repr" | .lrange => .type "range" | .dict => .type "dict" | .lenD => .builtin "len" | .listD => .type "list"
def Bi.nm : Bi → Str
  | .len => "len" | .int => "int" | .abs => "abs" | .max => "max" | .min => "min" | .tuple => "tuple" | .list => "list"
  | .all => "all" | .any => "any" | .sum => "sum" | .repr => "repr" | .lrange => "range" | .dict => "dict" | .lenD => "len" | .listD => "list"
theorem Bi.boot (b : Bi) : bootBuiltins b.nm = some b.val := by
  cases b <;> decide +kernel
section
variable {X : Cx}
theorem call_listS (hc : X.calm = true) : CallR X (.type "list") (fun xs H Q => ∃ z : Str, xs = [.str z] ∧ z.length ≤ sizeLine ∧ ∀ p, H p = none → Q (.ref p) (upd H p (.lst (z.cps.toList.map fun c => .str ⟨#[c]⟩)))) := by
  intro pins s σ H xs us Q I r ⟨z, e, hz, q⟩
  subst e
  obtain ⟨u, rfl, t, rfl⟩ := Vals.one r
  refine call_list_str (I.ok.hd hc) z t (fun h' tk acc' c' hk hS hacc => ?_) hz
  have hf : H s.heap.objs.size = none := I.hok.fresh (Nat.le_refl _)
  refine ⟨.ref s.heap.objs.size, _, I.laid (a := s.heap.objs.size) (t' := tk) hk (Nat.le_refl _) ?_, rfl, q _ hf⟩
  refine ⟨by rw [List.length_map, Array.length_toList]; exact hz, acc'.toList, c', ?_, by simpa using hS⟩
  have hl : acc'.toList.length = z.cps.toList.length := by rw [Array.length_toList, Array.length_toList]; exact hacc.1
  refine vals_of_at (by rw [List.length_map, hl]) fun j x u h1 h2 => ?_
  obtain ⟨c, t, e1, rfl⟩ := hacc.2 j u (by simpa using h2)
  rw [List.getElem?_map] at h1
  rw [show z.cps.toList[j]? = z.cps[j]? by simp, e1] at h1
  cases h1
  exact ⟨t, rfl⟩
theorem disp_rel {K : PySem.W.Frag} {mg : Str → Option Value} {H : Hp} : ∀ {ks : List Str} {vs : List V} {ds : List D} {kv : List (Key × V)} {kd : List (Str × D)}, KVr K mg H kv kd → Rps K mg H vs ds →
    KVr K mg H (mergeK kv ((ks.zip vs).map fun p => (Sum.inr p.1, p.2))) (dispK kd ks ds)
  | [], vs, ds, kv, kd, h, r => by simpa [mergeK, dispK] using h
  | k :: ks, [], ds, kv, kd, h, r => by cases r; simpa [mergeK, dispK] using h
  | k :: ks, v :: vs, [], kv, kd, h, r => by cases r
  | k :: ks, v :: vs, d :: ds, kv, kd, h, r => by
    cases r with
    | cons r rs =>
      have q := disp_rel (ks := ks) (h.put k r) rs
      exact q
theorem pairs_rel {K : PySem.W.Frag} {mg : Str → Option Value} {H : Hp} : ∀ {vs : List V} {xs : List D} {kvs : List (Str × D)}, Rps K mg H vs xs → pairsB xs = some kvs →
    ∃ (ps : List Addr) (ws : List V), vs = ps.map V.ref ∧ ws.length = kvs.length ∧ Paired (fun p kv => SqT K H p [kV kv.1, kv.2]) ps (((kvs.map (·.1)).zip ws).map fun p => ((Sum.inr p.1 : Key), p.2)) ∧ Rps K mg H ws (kvs.map (·.2))
  | _, _, _, .nil, h => by cases h; exact ⟨[], [], rfl, rfl, .nil, .nil⟩
  | _, _, _, @Rps.cons _ _ _ v vs d xs r rs, h => by
    cases d with
    | tup ys =>
      match ys, h with
      | [.str k, w], h =>
        have h : (pairsB xs).map ((k, w) :: ·) = _ := h
        cases e : pairsB xs with
        | none => rw [e] at h; cases h
        | some kvs2 =>
          rw [e] at h
          cases h
          obtain ⟨ps, ws, e1, e2, e3, e4⟩ := pairs_rel rs e
          cases r with
          | tup g q =>
            cases q with
            | cons q1 q2 =>
              cases q1
              cases q2 with
              | cons q2 q3 =>
                cases q3
                rename_i a u
                exact ⟨a :: ps, u :: ws, by rw [e1]; rfl, by simp [e2], .cons g e3, .cons q2 e4⟩
    | _ => cases h
theorem call_bi (b : Bi) (hw : X.w = WD.w) (hc : X.calm = true) (hg : X.A.guards = some []) (hu : X.A.units + 200 < cLine) : CallR X b.val (rD1 X.K X.mg (biW b)) := by
  intro pins s σ H xs us Q I r ⟨S, ds, q, sr, rd, hb, l⟩
  unfold biW at hb
  split at hb
  · obtain ⟨x, rfl, rx⟩ := rps1 rd
    cases rx
    exact call_len_str pins s σ H _ us Q I r ⟨_, rfl, hb.1, l.here sr hb.2 (.int _)⟩
  · obtain ⟨x, rfl, rx⟩ := rps1 rd
    cases rx with
    | tup g r1 =>
      refine call_len_seq pins s σ H _ us Q I r ⟨_, _, rfl, .inr g, ?_⟩
      rw [r1.len]
      exact l.here sr hb (.int _)
  · obtain ⟨x, rfl, rx⟩ := rps1 rd
    cases rx with
    | fls g r1 =>
      refine call_len_seq pins s σ H _ us Q I r ⟨_, _, rfl, .inl g.1, ?_⟩
      rw [r1.len]
      exact l.here sr hb (.int _)
  · obtain ⟨x, rfl, rx⟩ := rps1 rd
    cases rx
    obtain ⟨ys, h0, hq⟩ := hb
    obtain ⟨vs, g, r1⟩ := sr.isL h0
    refine call_len_seq pins s σ H _ us Q I r ⟨_, _, rfl, .inl (SqL.of g), ?_⟩
    rw [r1.len]
    exact l.here sr hq (.int _)
  · obtain ⟨x, rfl, rx⟩ := rps1 rd
    cases rx
    exact call_int1 pins s σ H _ us Q I r (.inl ⟨_, rfl, l.here sr hb (.int _)⟩)
  · obtain ⟨x, rfl, rx⟩ := rps1 rd
    cases rx
    exact call_int1 pins s σ H _ us Q I r (.inr ⟨_, rfl, l.here sr hb (.int _)⟩)
  · obtain ⟨x, rfl, rx⟩ := rps1 rd
    cases rx
    exact call_abs pins s σ H _ us Q I r ⟨_, rfl, l.here sr hb (.int _)⟩
  · obtain ⟨x, y, rfl, rx, ry⟩ := rps2 rd
    cases rx; cases ry
    exact call_max2 hc pins s σ H _ us Q I r ⟨_, _, rfl, l.here sr hb (.int _)⟩
  · obtain ⟨x, y, rfl, rx, ry⟩ := rps2 rd
    cases rx; cases ry
    exact call_min2 hc pins s σ H _ us Q I r ⟨_, _, rfl, l.here sr hb (.int _)⟩
  · obtain ⟨x, rfl, rx⟩ := rps1 rd
    cases rx
    obtain ⟨ys, ns, h0, h1, h2, hq⟩ := hb
    obtain ⟨vs, g, r1⟩ := sr.isL h0
    have e := rps_ints h1 r1
    subst e
    exact cr_max hc pins s σ H _ us Q I r ⟨_, ns, rfl, SqL.of g, h2, fun m h3 h4 => l.here sr (hq m h3 h4) (.int _)⟩
  · obtain ⟨x, rfl, rx⟩ := rps1 rd
    cases rx
    obtain ⟨ys, ns, h0, h1, h2, hq⟩ := hb
    obtain ⟨vs, g, r1⟩ := sr.isL h0
    have e := rps_ints h1 r1
    subst e
    exact cr_min hc pins s σ H _ us Q I r ⟨_, ns, rfl, SqL.of g, h2, fun m h3 h4 => l.here sr (hq m h3 h4) (.int _)⟩
  · obtain ⟨x, rfl, rx⟩ := rps1 rd
    cases rx
    obtain ⟨ys, h0, hq⟩ := hb
    obtain ⟨vs, g, r1⟩ := sr.isL h0
    exact call_tuple_of pins s σ H _ us Q I r ⟨_, _, rfl, .inl ⟨SqL.of g, l.newT sr hq r1⟩⟩
  · obtain ⟨x, rfl, rx⟩ := rps1 rd
    cases rx with
    | tup g r1 => exact call_tupleT pins s σ H _ us Q I r ⟨_, _, rfl, g, l.here sr hb (.tup g r1)⟩
  · obtain ⟨x, rfl, rx⟩ := rps1 rd
    cases rx
    obtain ⟨ys, h0, hq⟩ := hb
    obtain ⟨vs, g, r1⟩ := sr.isL h0
    exact call_list_of pins s σ H _ us Q I r ⟨_, _, rfl, .inl (SqL.of g), l.newL sr hq r1⟩
  · obtain ⟨x, rfl, rx⟩ := rps1 rd
    cases rx with
    | tup g r1 => exact call_list_of pins s σ H _ us Q I r ⟨_, _, rfl, .inr g, l.newL sr hb r1⟩
  · obtain ⟨x, rfl, rx⟩ := rps1 rd
    cases rx
    exact call_listS hc pins s σ H _ us Q I r ⟨_, rfl, Nat.le_trans hb.1 (by rw [sizeLine_eq]; decide), l.newL sr hb.2 (rps_signs _)⟩
  · obtain ⟨x, rfl, rx⟩ := rps1 rd
    cases rx
    obtain ⟨ys, b, h0, h1, hq⟩ := hb
    obtain ⟨vs, g, r1⟩ := sr.isL h0
    obtain ⟨bs, e, eb⟩ := rps_all h1 r1
    subst e
    exact cr_all hc pins s σ H _ us Q I r ⟨_, bs, rfl, SqL.of g, by rw [eb]; exact l.here sr hq (.bl _)⟩
  · obtain ⟨x, rfl, rx⟩ := rps1 rd
    cases rx
    obtain ⟨ys, b, h0, h1, hq⟩ := hb
    obtain ⟨vs, g, r1⟩ := sr.isL h0
    obtain ⟨bs, e, eb⟩ := rps_any h1 r1
    subst e
    exact cr_any hc pins s σ H _ us Q I r ⟨_, bs, rfl, SqL.of g, by rw [eb]; exact l.here sr hq (.bl _)⟩
  · obtain ⟨x, rfl, rx⟩ := rps1 rd
    cases rx
    obtain ⟨ys, ns, h0, h1, hq⟩ := hb
    obtain ⟨vs, g, r1⟩ := sr.isL h0
    have e := rps_ints h1 r1
    subst e
    exact cr_sum hc pins s σ H _ us Q I r ⟨_, ns, rfl, SqL.of g, l.here sr hq (.int _)⟩
  · obtain ⟨x, rfl, rx⟩ := rps1 rd
    obtain ⟨p, h1, h2, h3, h4, h5, hq⟩ := hb
    obtain ⟨u, rfl, ru⟩ := Vals.one r
    have dp := h1.dp sr rx
    obtain ⟨as, rr⟩ := Dp.reads I p x u dp ru
    have fin := l.here sr hq (.str p.shown)
    show wpAny _ _ (call (.builtin "repr") [u]) _ _ _
    cases rr with
    | none =>
      simp only [PyData.shown] at fin
      exact PySem.P.repr_of_none ⟨.str _, H, I.tok _, ⟨_, rfl⟩, fin⟩
    | bool b =>
      simp only [PyData.shown] at fin
      exact PySem.P.repr_of_bool ⟨.str _, H, I.tok _, ⟨_, rfl⟩, fin⟩
    | int i t =>
      simp only [PyData.shown] at fin
      exact PySem.P.repr_of_int (by simpa [PyData.showable] using h2) ⟨.str _, H, I.tok _, ⟨_, rfl⟩, fin⟩
    | str z t =>
      simp only [PyData.shown] at fin h5
      exact PySem.P.repr_of_str ⟨.str _, H, I.tok _, ⟨_, rfl⟩, fin⟩ h5
    | list a1 a2 a3 a4 =>
      exact repr_of_reads' (.list a1 a2 a3 a4) h2 (PyData.noDict_hsm h3) hg (by omega) (fun _ _ e => e) (fun h' u tk hk => ⟨.str _, H, I.kept hk, ⟨_, rfl⟩, fin⟩) h5
    | tuple a1 a2 a3 a4 =>
      exact repr_of_reads' (.tuple a1 a2 a3 a4) h2 (PyData.noDict_hsm h3) hg (by omega) (fun _ _ e => e) (fun h' u tk hk => ⟨.str _, H, I.kept hk, ⟨_, rfl⟩, fin⟩) h5
    | dict a1 a2 a3 a4 a5 => cases dp
  · obtain ⟨x, rfl, rx⟩ := rps1 rd
    cases rx
    obtain ⟨ys, kvs, h0, hk, hq⟩ := hb
    obtain ⟨vs, g, r1⟩ := sr.isL h0
    obtain ⟨ps, ws, e1, e2, e3, e4⟩ := pairs_rel r1 hk
    subst e1
    refine call_dictP hc pins s σ H _ us Q I r ⟨_, ps, _, rfl, SqL.of g, e3, fun p hp => ?_⟩
    obtain ⟨s1, ev⟩ := sr.alloc (o := .dK (mergeK [] (((kvs.map (·.1)).zip ws).map fun p => (Sum.inr p.1, p.2)))) (u := .dct (dispK [] (kvs.map (·.1)) (kvs.map (·.2)))) hp ⟨_, upd_same, disp_rel .nil (e4.mono (tk_new hp))⟩
    exact l _ _ (.ref p) _ (hq p (sr.free hp)) ev s1 (.ref p)
  · obtain ⟨x, rfl, rx⟩ := rps1 rd
    cases rx
    obtain ⟨kvs, h0, hq⟩ := hb
    exact len_nP hw pins s σ H _ us Q I r ⟨S, _, kvs, q, rfl, sr, h0, hq, l⟩
  · obtain ⟨x, rfl, rx⟩ := rps1 rd
    cases rx
    obtain ⟨kvs, h0, hq⟩ := hb
    exact list_nP hw hc pins s σ H _ us Q I r ⟨S, _, kvs, q, rfl, sr, h0, hq, l⟩
  · exact hb.elim
/-! ### isinstance -/
def Ty.nm : Ty → String
  | .str => "str" | .tuple => "tuple" | .int => "int" | .bool => "bool" | .list => "list" | .dict => "dict"
theorem Ty.boot (b : Ty) : bootBuiltins (Str.ofString b.nm) = some (.type b.nm) := by
  cases b <;> decide +kernel
theorem kit_isTy (K : PySem.W.Frag) (t u : Ty) : PySem.W.kitOne K (.type t.nm) (.type u.nm) = some (isTy t u) := by
  apply kit_ty
  cases t <;> cases u <;> decide +kernel
theorem kit_none (K : PySem.W.Frag) (u : Ty) : PySem.W.kitOne K (.type "NoneType") (.type u.nm) = some false := by
  apply kit_ty
  cases u <;> decide +kernel
theorem kit_any (K : PySem.W.Frag) (t : Ty) : ∀ us : List Ty, PySem.W.kitAny K (.type t.nm) (us.map fun u => .type u.nm) = some (us.any (isTy t))
  | [] => rfl
  | u :: us => by
    rw [List.map_cons]
    refine kitAny_cons (kit_isTy K t u) (fun e => ?_) (fun e => ?_)
    · rw [kit_any K t us, List.any_cons, e, Bool.false_or]
    · rw [List.any_cons, e, Bool.true_or]
theorem kit_anyN (K : PySem.W.Frag) : ∀ us : List Ty, PySem.W.kitAny K (.type "NoneType") (us.map fun u => .type u.nm) = some false
  | [] => rfl
  | u :: us => kitAny_cons (kit_none K u) (fun _ => kit_anyN K us) (fun e => by cases e)
theorem ty_of {K : PySem.W.Frag} {mg : Str → Option Value} {S : Sto} {H : Hp} (sr : SR K mg S H) {x : V} {d : D} {t : Ty} (r : Rp K mg H x d) (h : tyOf S d = some t) : TyX K H x (.type t.nm) := by
  cases r with
  | non => cases h
  | bl b => cases h; exact .base (.bl b)
  | int b => cases h; exact .base (.int b)
  | str b => cases h; exact .base (.str b)
  | tup g _ =>
    cases h
    rcases g with (g | ⟨o, g⟩) | ⟨o, its, n, g, c, _⟩
    · exact .base (.tup g)
    · exact .fTuple g
    · exact .kTuple g c
  | fls g _ =>
    cases h
    rcases g.1 with (g | ⟨o, g⟩) | ⟨o, its, n, g, c, _⟩
    · exact .base (.lst g)
    · exact .base (.frz g)
    · exact .kList g c
  | ref a =>
    simp only [tyOf] at h
    cases e : S a with
    | none => rw [e] at h; cases h
    | some o =>
      rw [e] at h
      cases o with
      | lst xs => cases h; obtain ⟨vs, g, _⟩ := sr _ _ e; exact .base (.lst g)
      | dct xs => cases h; obtain ⟨vs, g, _⟩ := sr _ _ e; exact .base (.dK g)
      | tab x => cases h
      | dcn x => cases h
  | fn _ => cases h
  | cls _ => cases h
  | exc _ _ => cases h
/-- isinstance(x, T), isinstance(x, (T1, ..)): what both ask -/
theorem isi_some {K : PySem.W.Frag} {mg : Str → Option Value} {S : Sto} {H : Hp} (sr : SR K mg S H) {x : V} {d : D} {ts : List Ty} {q : Bool → Prop} (r : Rp K mg H x d) (h : isiW d ts S q) :
    ∃ t b, TyX K H x t ∧ q b ∧ PySem.W.kitAny K t (ts.map fun u => .type u.nm) = some b := by
  cases d with
  | non => cases r; exact ⟨_, _, .base .non, h, kit_anyN K ts⟩
  | _ =>
    obtain ⟨t, h1, h2⟩ := h
    exact ⟨_, _, ty_of sr r h1, h2, kit_any K t ts⟩
/-! ### methods -/
def Mt.id : Mt → String
  | .append => "list.append" | .extend => "list.extend" | .pop => "list.pop" | .popAt => "list.pop" | .join => "str.join" | .index => "list.index" | .count => "list.count"
def Mt.nm : Mt → Str
  | .append => "append" | .extend => "extend" | .pop => "pop" | .popAt => "pop" | .join => "join" | .index => "index" | .count => "count"
def Mt.ty : Mt → String
  | .join => "str" | _ => "list"
theorem Mt.slot (m : Mt) : Slot m.ty m.nm m.id := by
  cases m
  · exact PySem.F.slot_list_append
  · exact PySem.F.slot_list_extend
  · exact PySem.F.slot_list_pop
  · exact PySem.F.slot_list_pop
  · exact PySem.F.slot_str_join
  · exact PySem.F.slot_list_index
  · exact PySem.F.slot_list_count
theorem Mt.typ (m : Mt) : typeOf (.builtin m.id) = pure (.type "method_descriptor") := by
  cases m
  · exact PySem.F.type_list_append
  · exact PySem.F.type_list_extend
  · exact PySem.F.type_list_pop
  · exact PySem.F.type_list_pop
  · exact PySem.F.type_str_join
  · exact PySem.F.type_list_index
  · exact PySem.F.type_list_count
theorem Mt.plain (m : Mt) : PlainAttrs m.ty := by
  cases m
  · exact PySem.F.plainAttrs_list
  · exact PySem.F.plainAttrs_list
  · exact PySem.F.plainAttrs_list
  · exact PySem.F.plainAttrs_list
  · exact PySem.F.plainAttrs_str
  · exact PySem.F.plainAttrs_list
  · exact PySem.F.plainAttrs_list
theorem mt_P (hu : X.A.units + 65 < cLine) (m : Mt) : MtR X m.id (rDm X.K X.mg (mtW m)) := by
  intro pins s σ H x xs v us Q I rx rs ⟨S, d, ds, q, sr, rd, rds, hb, l⟩
  unfold mtW at hb
  split at hb
  · cases rd
    obtain ⟨y, rfl, ry⟩ := rps1 rds
    obtain ⟨ys, h0, hz, hq⟩ := hb
    obtain ⟨vs, g, r1⟩ := sr.isL h0
    exact mt_append pins s σ H _ _ v us Q I rx rs ⟨_, vs, y, rfl, rfl, g, by rw [r1.len]; exact hz, l.setL sr h0 hq (r1.app (.cons ry .nil)) .non⟩
  · cases rd
    obtain ⟨y, rfl, ry⟩ := rps1 rds
    cases ry
    obtain ⟨ys, zs, h0, h1, hz, hq⟩ := hb
    obtain ⟨vs, g, r1⟩ := sr.isL h0
    obtain ⟨ws, g2, r2⟩ := sr.isL h1
    exact mt_extend pins s σ H _ _ v us Q I rx rs ⟨_, _, vs, ws, rfl, rfl, g, g2, by rw [r1.len, r2.len]; exact hz, l.setL sr h0 hq (r1.app r2) .non⟩
  · cases rd
    cases rps0 rds
    obtain ⟨ys, z, h0, h1, hq⟩ := hb
    obtain ⟨vs, g, r1⟩ := sr.isL h0
    obtain ⟨w, h2, rw'⟩ := r1.get h1
    exact mt_pop pins s σ H _ _ v us Q I rx rs ⟨_, vs, w, rfl, rfl, g, by rw [r1.len]; exact h2, l.setL sr h0 hq r1.dropLast rw'⟩
  · cases rd
    obtain ⟨y, rfl, ry⟩ := rps1 rds
    cases ry
    obtain ⟨ys, k, z, h0, n1, n2, n3, h1, hq⟩ := hb
    obtain ⟨vs, g, r1⟩ := sr.isL h0
    obtain ⟨w, h2, rw'⟩ := r1.get h1
    exact mt_popAt pins s σ H _ _ v us Q I rx rs ⟨_, vs, _, k, w, rfl, rfl, g, n1, n2, by rw [r1.len]; exact n3, h2, l.setL sr h0 hq (r1.erase k) rw'⟩
  · cases rd
    obtain ⟨y, rfl, ry⟩ := rps1 rds
    obtain ⟨ys, d, ds, j, z, h0, h1, h2, h3, h4, h5, h6, h7, hq⟩ := hb
    exact mt_indexD hu pins s σ H _ _ v us Q I rx rs ⟨_, y, d, ds, j, z, rfl, rfl, (PyOf.lst h0 h1).dp sr (.ref _), h2.dp sr ry, h3, h4, h5, h6, h7, l.here sr hq (.int _)⟩
  · cases rd
    obtain ⟨y, rfl, ry⟩ := rps1 rds
    obtain ⟨ys, d, ds, h0, h1, h2, h3, h4, hq⟩ := hb
    exact mt_countD hu pins s σ H _ _ v us Q I rx rs ⟨_, y, d, ds, rfl, rfl, (PyOf.lst h0 h1).dp sr (.ref _), h2.dp sr ry, h3, h4, l.here sr hq (.int _)⟩
  · cases rd
    obtain ⟨y, rfl, ry⟩ := rps1 rds
    cases ry
    obtain ⟨ys, zs, h0, h1, hz, hq⟩ := hb
    obtain ⟨vs, g, r1⟩ := sr.isL h0
    have e := rps_texts h1 r1
    subst e
    exact mt_join pins s σ H _ _ v us Q I rx rs ⟨_, _, zs, rfl, rfl, .inl (SqL.of g), by rw [Nat.mul_comm]; exact hz, l.here sr hq (.str _)⟩
  · exact hb.elim
end
end Pi

/-! PiFn: a def's promise where no repr is under way (guards), its body, its call. -/
namespace Pi
open PySem L2 PyProof.Rows
variable [WD]
structure FnG (P : Program) (w : World) (K : PySem.W.Frag) (mg : Str → Option Value) (base : Heap) (k : Nat) (f : Addr) (fd : FuncData) (ps : List Str) (sp : Sp) : Prop where
  len : ∀ vs H Q E, sp vs H Q E → vs.length = ps.length
  run : ∀ (A : Around) (outer : List Env) (s : Shared) (H : Hp) (args : Args) (us : List Value) (vs : List V) (Q : VK) (E : XK), Room k A → A.guards = some [] → Env0 P w K mg base A outer s H → BindsTo s fd args (ps.zip us) → Vals vs us → sp vs H Q E →
    codeAny (model P w) A (.call (.ref f) args) (CR (L2.CX P w) outer P w H s Q E) s
section
variable {X : Cx} {k : Nat} {f : Addr} {fd : FuncData} {ps : List Str} {sp : Sp} {W : WX}
theorem run_fnG {pins : List (Addr × Obj)} {σ : L2.St} {H : Hp} {s : Shared} {Q : VK} {us : List Value} {kw : List (Str × Value)} {bs : List Value} {vs : List V} (F : FnG X.prog X.w X.K X.mg X.base k f fd ps sp) (hr : Room k X.A) (hg : X.A.guards = some [])
    (tk : Takes X W) (I : Inv X pins σ H s) (hb : bs.length = ps.length → BindsTo s fd ⟨us, kw⟩ (ps.zip bs)) (r : Vals vs bs) (h : sp vs H Q fun cls d H' => W cls d σ H') : wpAny (model X.prog X.w) X.A (call (.ref f) us kw) (EP X pins σ Q) X.xe s := by
  refine wpAny_call (codeAny_mono (F.run X.A X.stack s H ⟨us, kw⟩ bs vs Q _ hr hg I.env0 (hb (by rw [← r.length]; exact F.len _ _ _ _ h)) r h) fun r s' hq => ?_)
  cases r with
  | error e => exact tk e s' (XE.of_call I (fun cls d H' h => h) hq)
  | ok fl =>
    cases fl with
    | ret u => exact I.after hq
    | next => exact False.elim hq
    | brk => exact False.elim hq
    | cont => exact False.elim hq
end
theorem guards_deeper {A : Around} {env : Env} (h : A.guards = some []) : (A.deeper env).guards = some [] := h
/-- THE RULE: a def of the text, by its body -/
theorem fnG_of {P : Program} {w : World} {K : PySem.W.Frag} {mg : Str → Option Value} {base : Heap} {k : Nat} {f : Addr} {name qual : Str} {params : Arguments} {body : List Stmt} {scope : Scope} {dV kV doc pm cdv ct oc : Value} {an od : Option Addr}
    {osl : Array (Option Value)} {N ps : List Str} {sp : Sp} (lk : K.lookup f = some ⟨oc, od, .func (PySem.W.fnOf name qual params body scope dV kV doc pm an cdv ct), osl⟩) (hcd : PySem.W.codeIn K cdv qual = true) (S : FnScope N ps scope)
    (len : ∀ vs H Q E, sp vs H Q E → vs.length = ps.length)
    (hbody : ∀ (A : Around) (outer : List Env) (s : Shared) (H : Hp) (vs : List V) (Q : VK) (E : XK), Room k (A.deeper (envOfC qual scope s.heap.objs.size f cdv)) → A.guards = some [] → sp vs H Q E →
      ∃ t, PSs (cxOf (L2.CX P w) P w K mg base N qual scope f cdv A outer s H E) body t ∧ t { nx := fun _ H' => Q .non H', rt := Q } (start N vs) H) :
    FnG P w K mg base (k + 1) f (PySem.W.fnOf name qual params body scope dV kV doc pm an cdv ct) ps sp := by
  refine ⟨len, fun A outer s H args us vs Q E hr hgu e0 hb r hsp => ?_⟩
  have alen := len vs H Q E hsp
  have stays : ∀ b o, base.get? b = some o → s.heap.get? b = some o := fun b o e => (e0.bs b o e).1
  have inS := e0.mod.kin.keeps stays
  have nolim := e0.mod.nolimit.keeps stays
  have kinds : ∀ y ∈ ps.zip us, scope.names.lookup y.1 = some .local ∨ (scope.names.lookup y.1 = some .cell ∧ ((cellsFrom (s.heap.objs.size + 1) scope.names []).lookup y.1).isSome = true) := by
    rintro ⟨n, v⟩ hy
    exact (S.par n (List.of_mem_zip hy).1).imp id fun q => ⟨q, PySem.W.cellsFrom_some _ _ _ (.inl q)⟩
  apply codeAny_call_function hr.depth (inS _ _ lk) rfl S.co S.gen rfl (PySem.W.codeRec_of inS hcd)
  apply hb
  apply wpAny_newFunctionEnv_cells S.kind kinds
  intro env he s1 x
  cases he
  refine ⟨nolim.keeps x.toInCall.keep, codeAny_func ?_⟩
  obtain ⟨t, ht, hq⟩ := hbody A outer s H vs Q E (hr.deeper _) hgu hsp
  have J := inv_start (CX := L2.CX P w) (E := E) S hr.hd e0 alen r x
  refine wpAny_mono (ht.run [] s1 _ H _ J hq) (fun fl s' hs => ?_) (fun _ _ hs => hs)
  cases fl with
  | brk => exact hs.elim fun _ h => h.elim fun _ h => h.2.elim
  | cont => exact hs.elim fun _ h => h.elim fun _ h => h.2.elim
  | next => obtain ⟨_, G, J', q⟩ := hs; exact ⟨.non, G, J'.os, J'.bare, J'.base, J'.hok, rfl, q⟩
  | ret u => obtain ⟨v, _, G, J', rv, q⟩ := hs; exact ⟨v, G, J'.os, J'.bare, J'.base, J'.hok, rv, q⟩
end Pi

/-! PiChk: does a term match a piece of the row's syntax (a Bool, for the kernel). -/
namespace Pi
open PySem L2
variable [WD]
/-- what is known where the syntax stands -/
structure SC where
  N : List Str
  sc : Scope
  fn : Str → Bool
  free : List Str
  con : List (Str × D)
  tab : Tab
  exc : List Str
  kwp : List (Str × Nat × List Str × List Str)
  /-- the def that stands here, if it makes lambdas; the def that catches; errors, classes asked of -/
  here : Option Str := none
  dp : Bool := true
  cau : Option Str := none
  hits : List Str := []
  kits : List Str := []
  lams : List Str := []
def visB (sc : Scope) (x : Str) : Bool := match sc.names.lookup x with
  | some .local => true | some .cell => true | some .free => true | _ => false
def locB (sc : Scope) (x : Str) : Bool := match sc.names.lookup x with
  | some .local => true | some .cell => true | _ => false
def lclB (sc : Scope) (x : Str) : Bool := match sc.names.lookup x with
  | some .local => true | _ => false
def glB (sc : Scope) (x : Str) : Bool := match sc.names.lookup x with
  | some .globalImplicit => true | _ => false
def okName (x : Str) : Bool := !decide (x = ("__debug__" : Str)) && !decide (x = ("__classdict__" : Str)) && !decide (x = ("__name__" : Str))
def atN (s : SC) (i : Nat) (x : Str) : Bool := decide (s.N[i]? = some x)
def stB (s : SC) (x : Str) : Bool := locB s.sc x && (s.fn x || lclB s.sc x)
def litB : D → Const → Bool
  | .non, .none => true
  | .bl b, .bool c => b == c
  | .int i, .int j => decide (i = j)
  | .str x, .str y => decide (x = y)
  | _, _ => false
def eqLit : D → D → Bool
  | .non, .non => true
  | .bl b, .bl c => b == c
  | .int i, .int j => decide (i = j)
  | .str x, .str y => decide (x = y)
  | _, _ => false
def conB (s : SC) (x : Str) (d : D) : Bool := match s.con.lookup x with
  | some e => eqLit d e
  | none => (match d with
    | .fn y => decide (x = y) && (s.tab.lookup x).isSome
    | _ => false)
def freeB (s : SC) (x : Str) : Bool := s.free.contains x
def notIf : Expr → Bool
  | .IfExp .. => false | _ => true
def notSet : Expr → Bool
  | .Set .. => false | _ => true
def notStar : Expr → Bool
  | .Starred .. => false | _ => true
def notSlice : Expr → Bool
  | .Slice .. => false | _ => true
def notComp : Expr → Bool
  | .ListComp .. => false | .SetComp .. => false | .DictComp .. => false | _ => true
/-- no super() -/
def baseB : Expr → Bool
  | .Call (.Name _ _) [] [] _ => false | _ => true
def tyOneB (s : SC) (t : Ty) : Expr → Bool
  | .Name x _ => decide (x = Str.ofString t.nm) && glB s.sc x && freeB s x && okName x
  | _ => false
def tyAllB (s : SC) : List Ty → List Expr → Bool
  | [], [] => true
  | t :: ts, e :: es => tyOneB s t e && tyAllB s ts es
  | _, _ => false
def tysB (s : SC) (ts : List Ty) : Expr → Bool
  | .Name x p => (match ts with
    | [t] => tyOneB s t (.Name x p)
    | _ => false)
  | .Tuple es _ _ => decide (ts.length ≤ 8) && tyAllB s ts es
  | _ => false
def nameAt (s : SC) (i : Nat) : Expr → Bool
  | .Name x _ => atN s i x && stB s x && okName x
  | _ => false
def namesAt (s : SC) : List Nat → List Expr → Bool
  | [], [] => true
  | i :: is, e :: es => nameAt s i e && namesAt s is es
  | _, _ => false
def tgB (s : SC) (tg : List Nat) (tup : Bool) (e : Expr) : Bool :=
  if tup then (match e with
    | .Tuple es _ _ => namesAt s tg es
    | _ => false)
  else (match tg with
    | [i] => nameAt s i e
    | _ => false)
def isTupE : Expr → Bool
  | .Tuple .. => true | _ => false
def ownP (s : SC) (own : List Nat) : List (Str × Nat) := own.filterMap fun i => (s.N[i]?).map fun x => (x, i)
def SC.blk (s : SC) (scope : Scope) : SC := { s with sc := relS scope s.sc, fn := fun x => scope.names.lookup x == some .cell, here := none }
/-- a lambda's body -/
def SC.lmb (s : SC) (scope : Scope) : SC := { s with sc := scope, fn := fun _ => false, here := none, dp := false }
def keysB : List Str → List (Option Expr) → Bool
  | [], [] => true
  | k :: ks, some (.Constant (.str x) _ _) :: es => decide (k = x) && keysB ks es
  | _, _ => false
def kwB : List Str → List Keyword → Bool
  | [], [] => true
  | k :: ks, ⟨some x, _, _⟩ :: es => decide (k = x) && kwB ks es
  | _, _ => false
mutual
def okE (s : SC) : IE → Expr → Bool
  | .var i, .Name x _ => atN s i x && visB s.sc x && okName x
  | .lit d, .Constant c _ _ => litB d c
  | .glo x d, .Name y _ => decide (x = y) && glB s.sc y && conB s y d && okName y
  | .bin op a b, .BinOp l o r _ => decide (o = op.py) && okE s a l && okE s b r
  | .neg a, .UnaryOp .USub e _ => okE s a e
  | .cmp op a b, .Compare l [o] [r] _ => decide (o = op.py) && okE s a l && okE s b r && notSet r
  | .chn op op' a b c, .Compare l [o, o'] [r, t] _ => decide (o = op.py) && decide (o' = op'.py) && okE s a l && okE s b r && okE s c t && notSet r && notSet t
  | .inv a, .UnaryOp .Not e _ => okE s a e && notIf e
  | .boo k es, .BoolOp o fs _ => decide (o = (if k then BoolOp.And else BoolOp.Or)) && okB s es fs
  | .ife t a b, .IfExp u x y _ => okE s t u && okE s a x && okE s b y && notIf u
  | .tup es, .Tuple fs _ _ => okL s es fs
  | .lst es, .List fs _ => okL s es fs
  | .dis ks es, .Dict keys vals _ => keysB ks keys && okP s es vals && decide (keys.length = vals.length) && decide (keys.length ≤ 15)
  | .cal f es, .Call (.Name x _) args [] _ => decide (x = f) && glB s.sc x && okName x && (s.tab.lookup x).isSome && okP s es args
  | .cak f es ks vs rs, .Call (.Name x _) args kws _ => decide (x = f) && glB s.sc x && okName x && (s.tab.lookup x).isSome && decide ((f, args.length, ks, rs) ∈ s.kwp) && okP s es args && kwB ks kws && okK s vs kws && decide (0 < kws.length)
  | .bui b es, .Call (.Name x _) args [] _ => decide (x = b.nm) && glB s.sc x && okName x && freeB s x && okP s es args && decide (0 < args.length)
  | .mxd a d, .Call (.Name x _) [e] [⟨some n, v, _⟩] _ => decide (x = ("max" : Str)) && decide (n = ("default" : Str)) && glB s.sc x && okName x && freeB s x && okE s a e && notStar e && okE s d v
  | .isi a ts, .Call (.Name x _) [e, t] [] _ => decide (x = ("isinstance" : Str)) && glB s.sc x && okName x && freeB s x && okE s a e && notStar e && tysB s ts t
  | .iso a c ds, .Call (.Name x _) [e, .Name y _] [] _ => decide (x = ("isinstance" : Str)) && glB s.sc x && okName x && freeB s x && okE s a e && notStar e && decide (y = c) && glB s.sc y && okName y && decide (c ∈ s.kits) && ds.all fun d => decide (d ∈ s.hits)
  | .cau f x cs e, .Call (.Name y _) [.Lambda ⟨[], [], none, [], [], none, []⟩ bd sco _] [] _ => decide (y = f) && glB s.sc y && okName y && decide (s.here = some x) && decide (s.cau = some f) && (cs.all fun d => decide (d ∈ s.hits)) && LamX.lamSB s.sc sco && okE (s.lmb sco) e bd
  | .met m a es, .Call (.Attribute o nm apos) args [] cpos => decide (nm = m.nm) && (apos.endLine == cpos.line) && baseB o && okE s a o && okP s es args && decide (args.length < 20)
  | .idx a i, .Subscript v k _ => okE s a v && okE s i k && notSlice k
  | .idn a i, .Subscript v k _ => okE s a v && okE s i k && notSlice k
  | .dnw, .Dict [] [] _ => true
  | .gtn a es, .Call (.Attribute o nm apos) args [] cpos => decide (nm = ("get" : Str)) && (apos.endLine == cpos.line) && baseB o && okE s a o && okP s es args && decide (args.length < 20) && decide (0 < args.length)
  | .rev a, .Subscript v (.Slice none none (some (.UnaryOp .USub (.Constant (.int 1) _ _) _)) _) _ => okE s a v
  | .lr1 tp a, .Call (.Name x _) [.Call (.Name y _) [e] [] _] [] _ => decide (x = if tp = true then ("tuple" : Str) else ("list" : Str)) && decide (y = ("range" : Str)) && glB s.sc x && freeB s x && glB s.sc y && freeB s y && okE s a e && notStar e
  | .lr2 tp a b, .Call (.Name x _) [.Call (.Name y _) [e, f] [] c] [] _ => decide (x = if tp = true then ("tuple" : Str) else ("list" : Str)) && decide (y = ("range" : Str)) && glB s.sc x && freeB s x && glB s.sc y && freeB s y && okE s a e && notStar e && okE s b f && notStar f
  | .srt a, .Call (.Name x _) [e] [] _ => decide (x = ("sorted" : Str)) && glB s.sc x && okName x && freeB s x && okE s a e && notStar e
  | .dzp a b, .Call (.Name x _) [.Call (.Name y _) [e, f] [] _] [] _ => decide (x = ("dict" : Str)) && decide (y = ("zip" : Str)) && glB s.sc x && freeB s x && glB s.sc y && freeB s y && okE s a e && notStar e && okE s b f && notStar f
  | .sset a, .Call (.Name x _) [.Call (.Name y _) [e] [] _] [] _ => decide (x = ("sorted" : Str)) && decide (y = ("set" : Str)) && glB s.sc x && freeB s x && glB s.sc y && freeB s y && okE s a e && notStar e
  | .srk f a, .Call (.Name x _) [e] [⟨some n, .Name y _, _⟩] _ => s.dp && decide (x = ("sorted" : Str)) && decide (n = ("key" : Str)) && glB s.sc x && okName x && freeB s x && okE s a e && notStar e && decide (y = f) && glB s.sc y && okName y && (match s.tab.lookup f with
    | some fd => decide (fd.ps.length = 1)
    | none => false)
  | .dcp kx vx own tg tup it ifs, .DictComp ke ve [⟨t, i, fs, isa⟩] scope _ => decide (isa = 0) && okI s it i tup && notSet i && blkC s.N s.sc scope (ownP s own) && decide ((ownP s own).map (·.2) = own) && decide (scope.kind = .function) &&
      tgB (s.blk scope) tg tup t && tg.all own.contains && okE (s.blk scope) kx ke && okE (s.blk scope) vx ve && (match fs with
        | [] => (match ifs with
          | .nil => true
          | _ => false)
        | [f] => okB (s.blk scope) ifs [f]
        | _ => false)
  | .slc a lo hi, .Subscript v (.Slice l h none _) _ => okE s a v && okO s lo l && okO s hi h
  | .lc elt own tg tup it ifs, .ListComp e [⟨t, i, fs, isa⟩] scope _ => decide (isa = 0) && okI s it i tup && notSet i && blkC s.N s.sc scope (ownP s own) && decide ((ownP s own).map (·.2) = own) && decide (scope.kind = .function) &&
      tgB (s.blk scope) tg tup t && tg.all own.contains && okE (s.blk scope) elt e && (match fs with
        | [] => (match ifs with
          | .nil => true
          | _ => false)
        | [f] => okB (s.blk scope) ifs [f]
        | _ => false)
  | .lcc elt own tg tup it vs tg1 tup1 it1, .ListComp e [⟨t, i, fs, isa⟩, ⟨t1, i1, fs1, isa1⟩] scope _ => decide (isa = 0) && decide (isa1 = 0) && fs.isEmpty && fs1.isEmpty && okI s it i tup && notSet i && blkC s.N s.sc scope (ownP s own) && decide ((ownP s own).map (·.2) = own) && decide (scope.kind = .function) &&
      tgB (s.blk scope) tg tup t && tg.all own.contains && okI (s.blk scope) it1 i1 tup1 && notSet i1 && tgB (s.blk scope) tg1 tup1 t1 && tg1.all vs.contains && vs.all own.contains && okE (s.blk scope) elt e
  | .dc2 kx vx own tg tup it vs tg1 tup1 it1, .DictComp ke ve [⟨t, i, fs, isa⟩, ⟨t1, i1, fs1, isa1⟩] scope _ => decide (isa = 0) && decide (isa1 = 0) && fs.isEmpty && fs1.isEmpty && okI s it i tup && notSet i && blkC s.N s.sc scope (ownP s own) && decide ((ownP s own).map (·.2) = own) && decide (scope.kind = .function) &&
      tgB (s.blk scope) tg tup t && tg.all own.contains && okI (s.blk scope) it1 i1 tup1 && notSet i1 && tgB (s.blk scope) tg1 tup1 t1 && tg1.all vs.contains && vs.all own.contains && okE (s.blk scope) kx ke && okE (s.blk scope) vx ve
  | _, _ => false
/-- a display's parts (stars let in) -/
def okL (s : SC) : IEs → List Expr → Bool
  | .nil, [] => true
  | .cons a r, e :: es => okE s a e && notStar e && okL s r es
  | .star a r, .Starred e _ :: es => okE s a e && okL s r es
  | _, _ => false
/-- arguments, no star -/
def okP (s : SC) : IEs → List Expr → Bool
  | .nil, [] => true
  | .cons a r, e :: es => okE s a e && notStar e && okP s r es
  | _, _ => false
def okB (s : SC) : IEs → List Expr → Bool
  | .cons a .nil, [e] => okE s a e && notIf e
  | .cons a r, e :: e' :: es => okE s a e && notIf e && okB s r (e' :: es)
  | _, _ => false
def okO (s : SC) : IEs → Option Expr → Bool
  | .nil, none => true
  | .cons a .nil, some e => okE s a e
  | _, _ => false
def okK (s : SC) : IEs → List Keyword → Bool
  | .nil, [] => true
  | .cons a r, ⟨_, e, _⟩ :: es => okE s a e && okK s r es
  | _, _ => false
def okI (s : SC) : II → Expr → Bool → Bool
  | .of a, e, _ => okE s a e && (match e with
    | .Call (.Name x _) _ _ _ => !decide (x = ("range" : Str)) && !decide (x = ("enumerate" : Str)) && !decide (x = ("zip" : Str))
    | _ => true)
  | .rng es, .Call (.Name x _) args [] _, _ => decide (x = ("range" : Str)) && glB s.sc x && freeB s x && okP s es args && (match args with
    | [_] => true | [_, _] => true | _ => false)
  | .enu a, .Call (.Name x _) [e] [] _, tup => tup && decide (x = ("enumerate" : Str)) && glB s.sc x && freeB s x && okE s a e && notStar e
  | .dic a, e, _ => okE s a e && (match e with
    | .Call (.Name x _) _ _ _ => !decide (x = ("range" : Str)) && !decide (x = ("enumerate" : Str)) && !decide (x = ("zip" : Str))
    | _ => true)
  | .vls a, .Call (.Attribute e x p) [] [] q, _ => decide (x = ("values" : Str)) && (p.endLine == q.line) && baseB e && okE s a e
  | .zip a b, .Call (.Name x _) [e, f] [] _, tup => tup && decide (x = ("zip" : Str)) && glB s.sc x && freeB s x && okE s a e && okE s b f && notStar e && notStar f
  | _, _, _ => false
end
/-- an assignment whose comprehension swaps with its target -/
def swB (s : SC) (v : Expr) (x : Str) (pos : Pos) : Bool := match v with
  | .ListComp _ _ cs p => lclB s.sc x && (pos.line == p.line) && !(cs.names.any fun (n, k) => n == x && (k == .local || k == .cell))
  | _ => false
def lcsB : Expr → Bool
  | .ListComp .. => true | _ => false
/-- a, b = x, y with plain locals, stored from the right -/
def parB (s : SC) (ts vs : List Expr) : Bool := (decide (ts.length = 2) || decide (ts.length = 3)) && decide (vs.length = ts.length) && vs.all notStar &&
  (match ts with
  | .Name x p :: .Name y q :: [] => lclB s.sc x && lclB s.sc y && (q.line == p.line) && !decide (x = y)
  | .Name x p :: .Name y q :: .Name z r :: [] => lclB s.sc x && lclB s.sc y && lclB s.sc z && (q.line == p.line) && (r.line == p.line) && !decide (x = y) && !decide (x = z) && !decide (y = z)
  | _ => false) && !(vs.all (foldedForSure 8)) && !(vs.all (constantsAlone 8))
/-- no swap of the stores -/
def noSwap (s : SC) (ts vs : List Expr) : Bool := (!(decide (ts.length = 2) || decide (ts.length = 3)) || !decide (vs.length = ts.length)) || vs.all (foldedForSure 8) && vs.all notStar ||
  (vs.all notStar && ts.any fun | .Name x _ => !lclB s.sc x | _ => true)
def asgB (s : SC) (t v : Expr) : Bool := match v with
  | .Tuple vs _ _ => (match t with
    | .Tuple ts _ _ => noSwap s ts vs
    | _ => true)
  | .SetComp .. => false
  | _ => true
mutual
def okS (s : SC) : IS → Stmt → Bool
  | .asg tg tup e, .Assign [t] v _ => tgB s tg tup t && okE s e v && asgB s t v
  | .par tg es, .Assign [.Tuple ts _ _] (.Tuple vs _ _) _ => namesAt s tg ts && okP s es vs && parB s ts vs && decide tg.Nodup
  | .sto o i e, .Assign [.Subscript p q _] v _ => okE s o p && okE s i q && okE s e v && notSlice q && notComp v
  | .stn o i e, .Assign [.Subscript p q _] v _ => okE s o p && okE s i q && okE s e v && notSlice q
  | .aug i op e, .AugAssign (.Name x _) o v _ => atN s i x && stB s x && okName x && decide (o = op.py) && okE s e v
  | .agi o i op e, .AugAssign (.Subscript p q _) y v _ => okE s o p && okE s i q && decide (y = op.py) && okE s e v && notSlice q
  | .exp e, .Expr v _ => okE s e v && notComp v
  | .iff c a b, .If t x y _ => okE s c t && notIf t && okSs s a x && okSs s b y
  | .whl c b, .While t x [] _ => okE s c t && notIf t && okSs s b x
  | .for_ tg tup it b, .For t i x [] _ => tgB s tg tup t && okI s it i tup && notSet i && okSs s b x
  | .ret e, .Return (some v) _ => okE s e v
  | .retN, .Return none _ => true
  | .brk, .Break _ => true
  | .cnt, .Continue _ => true
  | .pas, .Pass _ => true
  | .rai c (.cons (.lit (.str m)) .nil), .Raise (some (.Call (.Name x _) [.Constant (.str n) _ _] [] _)) none _ => decide (c = x) && decide (m = n) && glB s.sc x && okName x && decide (x ∈ s.exc)
  | _, _ => false
def okSs (s : SC) : ISs → List Stmt → Bool
  | .nil, [] => true
  | .cons a r, e :: es => okS s a e && okSs s r es
  | _, _ => false
end
end Pi

/-! PiAd: expressions: from the parts' readings to the whole's. -/
namespace Pi
open PySem L2 PyProof.Rows
variable [WD]
def RX (mg : Str → Option Value) (c : Str) (cls : Value) (dx : Option Addr) : Prop := ∃ a, mg c = some (.ref a) ∧ cls = .ref a ∧ dx = none
section
variable (K : PySem.W.Frag) (mg : Str → Option Value)
/-- how the pure side's exceptions lead to what is wished -/
def LX (W : WX) (S : Sto) (H : Hp) (φ : Fr) (E : XE) : Prop := ∀ c a S' cls dx σ' H', E c a S' → Ev S H S' H' → SR K mg S' H' → FR K mg H' σ' φ → RX mg c cls dx → W cls dx σ' H'
def tE (W : WX) (C : CallT) (e : IE) : TE := fun σ H Q => ∃ φ S q E, FR K mg H σ φ ∧ SR K mg S H ∧ wE C e φ S q E ∧ Lk K mg S H q Q ∧ LX K mg W S H φ E
def LkL (S : Sto) (H : Hp) (q : KL) (Q : List V → Hp → Prop) : Prop := ∀ z S' v H', q z S' → Ev S H S' H' → SR K mg S' H' → Rps K mg H' v z → Q v H'
def tL (W : WX) (C : CallT) (e : IEs) : TA := fun σ H Q => ∃ φ S q E, FR K mg H σ φ ∧ SR K mg S H ∧ wL C e φ S q E ∧ LkL K mg S H q Q ∧ LX K mg W S H φ E
def LkB (S : Sto) (H : Hp) (q : KE) (Q : Bool → Hp → Prop) : Prop := ∀ z S' H', q z S' → Ev S H S' H' → SR K mg S' H' → ∃ b, z = .bl b ∧ Q b H'
def tT (W : WX) (C : CallT) (e : IE) : TT := fun σ H Q => ∃ φ S q E, FR K mg H σ φ ∧ SR K mg S H ∧ wE C e φ S q E ∧ LkB K mg S H q Q ∧ LX K mg W S H φ E
def tBv (W : WX) (C : CallT) (k : Bool) (e : IEs) : TE := fun σ H Q => ∃ φ S q E, FR K mg H σ φ ∧ SR K mg S H ∧ wB C k e φ S q E ∧ Lk K mg S H q Q ∧ LX K mg W S H φ E
def tBt (W : WX) (C : CallT) (k : Bool) (e : IEs) : TT := fun σ H Q => ∃ φ S q E, FR K mg H σ φ ∧ SR K mg S H ∧ wB C k e φ S q E ∧ LkB K mg S H q Q ∧ LX K mg W S H φ E
def tOo (W : WX) (C : CallT) (e : IEs) : TO := fun σ H Q => ∃ φ S q E, FR K mg H σ φ ∧ SR K mg S H ∧ wO C e φ S q E ∧ (∀ z S' H', q z S' → Ev S H S' H' → SR K mg S' H' → Q z H') ∧ LX K mg W S H φ E
/-- what an iterator yields: these items, while the store is ok -/
structure JOk (J : It) (H0 : Hp) (src : Src) : Prop where
  go : ∀ i S H, i < src.items.length → Tk K H0 H → SR K mg S H → src.ok S → J.go i H
  yld : ∀ i S H x H' d, src.items[i]? = some d → Tk K H0 H → SR K mg S H → src.ok S → J.yld i H x H' → Ev S H S H' ∧ SR K mg S H' ∧ Rp K mg H' x d
  stop : ∀ i S H, src.items.length ≤ i → i = src.items.length → Tk K H0 H → SR K mg S H → src.ok S → J.stop i H
def tI (W : WX) (C : CallT) (e : II) : TI := fun σ H R => ∃ φ S q E, FR K mg H σ φ ∧ SR K mg S H ∧ wI C e φ S q E ∧ (∀ src S' H' J, q src S' → Ev S H S' H' → SR K mg S' H' → JOk K mg J H' src → R J H') ∧ LX K mg W S H φ E
variable {K mg}
theorem Lk.after {S S1 : Sto} {H H1 : Hp} {q : KE} {Q : VK} (l : Lk K mg S H q Q) (e : Ev S H S1 H1) : Lk K mg S1 H1 q Q := fun z S' v H' h e' s r => l z S' v H' h (e.trans e') s r
theorem LkL.after {S S1 : Sto} {H H1 : Hp} {q : KL} {Q : List V → Hp → Prop} (l : LkL K mg S H q Q) (e : Ev S H S1 H1) : LkL K mg S1 H1 q Q := fun z S' v H' h e' s r => l z S' v H' h (e.trans e') s r
theorem LkB.after {S S1 : Sto} {H H1 : Hp} {q : KE} {Q : Bool → Hp → Prop} (l : LkB K mg S H q Q) (e : Ev S H S1 H1) : LkB K mg S1 H1 q Q := fun z S' H' h e' s => l z S' H' h (e.trans e') s
theorem LX.after {W : WX} {S S1 : Sto} {H H1 : Hp} {φ : Fr} {E : XE} (l : LX K mg W S H φ E) (e : Ev S H S1 H1) : LX K mg W S1 H1 φ E := fun c a S' cls dx σ' H' h e' s f r => l c a S' cls dx σ' H' h (e.trans e') s f r
theorem LX.none {W : WX} {S : Sto} {H : Hp} {φ : Fr} : LX K mg W S H φ XF := fun _ _ _ _ _ _ _ h => h.elim
end
/-- the def that catches -/
def CauD (K : PySem.W.Frag) (mg : Str → Option Value) (f : Str) : Prop :=
  ∃ (ar v er : Str) (g CS : Addr) (pg : Arguments) (sg : Scope) (dV kV doc pm cdv ct oc : Value) (an od : Option Addr) (osl : Array (Option Value)) (q1 q2 q3 q4 q5 q6 q7 q8 q9 q10 q11 q12 q13 q14 : Pos) (j1 : Nat),
    CauS sg ar v er "KindError" ∧ mg "KindError" = some (.ref CS) ∧ mg f = some (.ref g) ∧ PySem.W.keepIn K (.ref g) = true ∧
    K.lookup g = some ⟨oc, od, .func (PySem.W.fnOf f f pg (caughtBody ar v er "KindError" q1 q2 q3 q4 q5 q6 q7 q8 q9 q10 q11 q12 q13 q14 j1) sg dV kV doc pm an cdv ct), osl⟩ ∧ PySem.W.codeIn K cdv f = true ∧
    (∀ u : Value, bindArgs (PySem.W.fnOf f f pg (caughtBody ar v er "KindError" q1 q2 q3 q4 q5 q6 q7 q8 q9 q10 q11 q12 q13 q14 j1) sg dV kV doc pm an cdv ct) ⟨[u], []⟩ = pure [(ar, u)]) ∧ FnScope [ar, v, er] [ar] sg ∧
    (ar == ("__debug__" : Str)) = false ∧ (ar == ("__classdict__" : Str)) = false
/-- what is known of errors -/
structure ErrF (K : PySem.W.Frag) (mg : Str → Option Value) (cau : Option Str) (hits kits : List Str) : Prop where
  cau : ∀ f, cau = some f → CauD K mg f
  hit : ∀ d ∈ hits, ∃ D, mg d = some (.ref D) ∧ ExcC K D ∧ ∀ CS, mg "KindError" = some (.ref CS) → PySem.W.exmOne K (.ref D) (.ref CS) = some true
  kit : ∀ c ∈ kits, ∃ T, mg c = some (.ref T) ∧ PySem.W.kitOne K (.type "NoneType") (.ref T) = some false ∧ ∀ d ∈ hits, ∀ D, mg d = some (.ref D) → PySem.W.kitOne K (.ref D) (.ref T) = some (decide (d = c))
  keep : ∀ c ∈ kits, ∀ T, mg c = some (.ref T) → PySem.W.keepIn K (.ref T) = true
structure Amb (s : SC) (C : CallT) (k : Nat) (X : Cx) : Prop where
  wd : X.w = WD.w
  N : X.N = s.N
  nd : s.N.Nodup
  sc : X.env.scope = s.sc
  kd : s.sc.kind = .function
  calm : X.calm = true
  gu : X.A.guards = some []
  rm : Room k X.A
  rm2 : s.here.isSome = true → Room (k + 2) X.A
  rm3 : s.dp = true → Room (k + 2) X.A
  lam : ∀ x, s.here = some x → X.env.qual = x ++ ".<locals>." ∧ X.env.code = .ref (He.cT X.K (x, none)).1 ∧ LamX.TabB X.base X.mg (He.cT X.K (x, none)).1 (He.cT X.K (x, none)).2
  err : ErrF X.K X.mg s.cau s.hits s.kits
  fn : ∀ x, s.fn x = true → X.fn x = true
  free : ∀ x, s.free.contains x = true → X.mg x = none
  con : ∀ x d, s.con.lookup x = some d → ∃ u v, X.mg x = some u ∧ RelV v u ∧ ∀ H, Rp X.K X.mg H v d
  cl : ∀ f fd ds S q e, s.tab.lookup f = some fd → C f ds S q e → ds.length = fd.ps.length
  cal : ∀ f fd, s.tab.lookup f = some fd → ∃ fa fdt, X.mg f = some (.ref fa) ∧ PySem.W.keepIn X.K (.ref fa) = true ∧ (∀ us : List Value, us.length = fd.ps.length → bindArgs fdt ⟨us, []⟩ = pure (fd.ps.zip us)) ∧
    FnG X.prog X.w X.K X.mg X.base k fa fdt fd.ps (fun vs H Q E => vs.length = fd.ps.length ∧ ∃ S ds q e, SR X.K X.mg S H ∧ Rps X.K X.mg H vs ds ∧ C f ds S q e ∧ Lk X.K X.mg S H q Q ∧
      ∀ c a S' cls dx H', e c a S' → Ev S H S' H' → SR X.K X.mg S' H' → RX X.mg c cls dx → E cls dx H') ∧
    ∀ n ks rs, (f, n, ks, rs) ∈ s.kwp → n + rs.length = fd.ps.length ∧ (∀ r ∈ rs, r ∈ ks) ∧ ∀ us ws : List Value, us.length = n → ws.length = ks.length → bindArgs fdt ⟨us, ks.zip ws⟩ = pure (fd.ps.zip (us ++ rs.map fun r => ((ks.zip ws).lookup r).getD .none))
  exc : ∀ c, c ∈ s.exc → ∃ a, X.mg c = some (.ref a) ∧ PySem.W.excIn X.K a [.type "ValueError", .type "Exception", .type "BaseException", .type "object"] "ValueError.__new__" = true ∧ PySem.W.keepIn X.K (.ref a) = true ∧
    PySem.W.subIn X.K (.ref a) (.type "BaseException") = some true ∧ PySem.W.typeIn X.K (.ref a) = some (.type "type")
section
variable {s : SC} {C : CallT} {k : Nat} {X : Cx} {W : WX}
theorem Amb.vis (A : Amb s C k X) {x : Str} (h : visB s.sc x = true) : Vis X.env.scope x := by
  rw [A.sc]
  unfold visB at h
  split at h
  · exact .inl (by assumption)
  · exact .inr (.inl (by assumption))
  · exact .inr (.inr (by assumption))
  · cases h
theorem Amb.loc (A : Amb s C k X) {x : Str} (h : locB s.sc x = true) : Loc X.env.scope x := by
  rw [A.sc]
  unfold locB at h
  split at h
  · exact .inl (by assumption)
  · exact .inr (by assumption)
  · cases h
theorem Amb.lcl (A : Amb s C k X) {x : Str} (h : lclB s.sc x = true) : X.env.scope.names.lookup x = some .local := by
  rw [A.sc]
  unfold lclB at h
  split at h
  · assumption
  · cases h
theorem Amb.gl (A : Amb s C k X) {x : Str} (h : glB s.sc x = true) : Gl X x := by
  show X.env.scope.names.lookup x = _
  rw [A.sc]
  unfold glB at h
  split at h
  · assumption
  · cases h
theorem Amb.st (A : Amb s C k X) {x : Str} (h : stB s x = true) : Loc X.env.scope x ∧ (X.fn x = true ∨ X.env.scope.names.lookup x = some .local) := by
  unfold stB at h
  rw [Bool.and_eq_true, Bool.or_eq_true] at h
  exact ⟨A.loc h.1, h.2.imp (A.fn x) A.lcl⟩
theorem Amb.ix (A : Amb s C k X) {i : Nat} {x : Str} (h : atN s i x = true) : X.N[i]? = some x := by
  rw [A.N]
  exact of_decide_eq_true h
theorem okName_ok {x : Str} (h : okName x = true) : (x == ("__debug__" : Str)) = false ∧ (x == ("__classdict__" : Str)) = false ∧ x ≠ "__name__" := by
  unfold okName at h
  simp only [Bool.and_eq_true, Bool.not_eq_true', decide_eq_false_iff_not] at h
  exact ⟨beq_eq_false_iff_ne.mpr h.1.1, beq_eq_false_iff_ne.mpr h.1.2, h.2⟩
theorem Amb.hu (A : Amb s C k X) : X.A.units + 200 < cLine := by have := A.rm.un; omega
theorem pe_imp {e : Expr} {t t' : TE} (h : PE X e t) (i : ∀ σ H Q, t' σ H Q → t σ H Q) : PE X e t' := ⟨fun pins s σ H Q I q => h.run pins s σ H Q I (i σ H Q q)⟩
theorem pt_imp {e : Expr} {t t' : TT} (h : PT X e t) (i : ∀ σ H Q, t' σ H Q → t σ H Q) : PT X e t' := ⟨fun pins s σ H Q I q => h.run pins s σ H Q I (i σ H Q q)⟩
theorem pw_imp {e : Expr} {t t' : TT} (h : PW X e t) (i : ∀ σ H Q, t' σ H Q → t σ H Q) : PW X e t' := ⟨fun wh pins s σ H Q I q => h.run wh pins s σ H Q I (i σ H Q q)⟩
theorem pa_imp {e : List Expr} {t t' : TA} (h : PA X e t) (i : ∀ σ H Q, t' σ H Q → t σ H Q) : PA X e t' := ⟨fun pos pins s σ H Q I q => h.run pos pins s σ H Q I (i σ H Q q)⟩
abbrev pE (X : Cx) (W : WX) (C : CallT) (e : IE) (x : Expr) : Prop := PE X x (tE X.K X.mg W C e)
abbrev pL (X : Cx) (W : WX) (C : CallT) (e : IEs) (x : List Expr) : Prop := PA X x (tL X.K X.mg W C e)
/-- two parts, then an operation -/
theorem tE_two {K : PySem.W.Frag} {mg : Str → Option Value} {C : CallT} {a b : IE} {w : D → D → Sto → KE → Prop} {σ : L2.St} {H : Hp} {Q : VK} {φ : Fr} {S : Sto} {q : KE} {E : XE} (fr : FR K mg H σ φ) (sr : SR K mg S H)
    (h : wE C a φ S (fun x S1 => wE C b φ S1 (fun y S2 => w x y S2 q) E) E) (l : Lk K mg S H q Q) (lx : LX K mg W S H φ E) : tE K mg W C a σ H fun x H1 => tE K mg W C b σ H1 fun y H2 => rD2 K mg w x y H2 Q :=
  ⟨φ, S, _, E, fr, sr, h, fun x S1 vx H1 hx e1 s1 rx => ⟨φ, S1, _, E, fr.mono (e1.tk sr), s1, hx, fun y S2 vy H2 hy e2 s2 ry => ⟨S2, x, y, q, s2, rx.mono (e2.tk s1), ry, hy, l.after (e1.trans e2)⟩, lx.after e1⟩, lx⟩
theorem ad_bin {op : BOp} {a b : IE} {x y : Expr} {pos : Pos} (ha : pE X W C a x) (hb : pE X W C b y) : pE X W C (.bin op a b) (.BinOp x op.py y pos) :=
  pe_imp (pe_op (op_bop op) ha hb) fun σ H Q ⟨φ, S, q, E, fr, sr, h, l, lx⟩ => tE_two fr sr h l lx
theorem ad_neg {a : IE} {x : Expr} {pos : Pos} (ha : pE X W C a x) : pE X W C (.neg a) (.UnaryOp .USub x pos) :=
  pe_imp (pe_un un_neg ha) fun σ H Q ⟨φ, S, q, E, fr, sr, h, l, lx⟩ => ⟨φ, S, _, E, fr, sr, h, fun x S1 vx H1 ⟨i, hx, hq⟩ e1 s1 rx => by
    subst hx
    cases rx
    exact ⟨i, rfl, l.after e1 |>.here s1 hq (.int _)⟩, lx⟩
theorem ad_cmp {op : COp} {a b : IE} {x y : Expr} {pos : Pos} (A : Amb s C k X) (ha : pE X W C a x) (hb : pE X W C b y) (hm : behindInMarks op.py y = false) : pE X W C (.cmp op a b) (.Compare x [op.py] [y] pos) :=
  pe_imp (pe_cmpR (op_cop op A.wd (by have := A.hu; omega)) ha hb hm) fun σ H Q ⟨φ, S, q, E, fr, sr, h, l, lx⟩ => tE_two (w := fun d e S q => copW op d e S fun k => q (.bl k) S) fr sr h l lx
theorem ad_cmpT {op : COp} {a b : IE} {x y : Expr} {pos : Pos} (A : Amb s C k X) (ha : pE X W C a x) (hb : pE X W C b y) (hm : behindInMarks op.py y = false) : PT X (.Compare x [op.py] [y] pos) (tT X.K X.mg W C (.cmp op a b)) := by
  refine pt_imp (pt_cmpR (op_cop op A.wd (by have := A.hu; omega)) ha hb hm) fun σ H Q ⟨φ, S, q, E, fr, sr, h, l, lx⟩ => ?_
  refine tE_two (w := fun d e S q => copW op d e S fun k => q (.bl k) S) fr sr h (fun z S' v H' hz e' s' r => ?_) lx
  obtain ⟨b, rfl, hb⟩ := l z S' H' hz e' s'
  cases r
  exact ⟨b, rfl, hb⟩
theorem behind_of {op : CmpOp} {y : Expr} (h : notSet y = true) : behindInMarks op y = false := by
  cases y <;> first | rfl | cases h
end
end Pi

/-! PiAd2: expressions, further: chains, and, or, displays, calls, methods, subscripts. -/
namespace Pi
open PySem L2 PyProof.Rows
variable [WD]
section
variable {s : SC} {C : CallT} {k : Nat} {X : Cx} {W : WX}
abbrev pT (X : Cx) (W : WX) (C : CallT) (e : IE) (x : Expr) : Prop := PT X x (tT X.K X.mg W C e)
theorem last_of {o o' : CmpOp} {r t : Expr} (h : notSet r = true) (h' : notSet t = true) : lastMarks [o, o'] [r, t] = false := by
  cases t <;> first | rfl | cases h'
theorem tE_chain {K : PySem.W.Frag} {mg : Str → Option Value} {C : CallT} {a b c : IE} {op op' : COp} {σ : L2.St} {H : Hp} {Q : VK} {φ : Fr} {S : Sto} {q : KE} {E : XE} (fr : FR K mg H σ φ) (sr : SR K mg S H)
    (h : wE C (.chn op op' a b c) φ S q E) (l : Lk K mg S H q Q) (lx : LX K mg W S H φ E) :
    tChain (rD2 K mg fun d e S q => copW op d e S fun k => q (.bl k) S) (rD2 K mg fun d e S q => copW op' d e S fun k => q (.bl k) S) (tE K mg W C a) (tE K mg W C b) (tE K mg W C c) σ H Q := by
  refine ⟨φ, S, _, E, fr, sr, h, fun x S1 vx H1 hx e1 s1 rx => ⟨φ, S1, _, E, fr.mono (e1.tk sr), s1, hx, fun y S2 vy H2 hy e2 s2 ry => ?_, lx.after e1⟩, lx⟩
  refine ⟨S2, x, y, fun d S' => ∃ k, d = .bl k ∧ S' = S2 ∧ (if k = true then wE C c φ S2 (fun z S3 => copW op' y z S3 fun k' => q (.bl k') S3) E else q (.bl false) S2), s2, rx.mono (e2.tk s1), ry, ?_, ?_⟩
  · exact copW_mono (fun k z => ⟨k, rfl, rfl, z⟩) hy
  · rintro z S' v H' ⟨k, rfl, rfl, hz⟩ e3 s3 r3
    cases r3
    refine ⟨k, rfl, ?_⟩
    cases k with
    | false => exact l.after (e1.trans (e2.trans e3)) |>.here s3 hz (.bl _)
    | true =>
      have t3 : Tk K H H' := (e1.trans (e2.trans e3)).tk sr
      exact ⟨φ, _, _, E, fr.mono t3, s3, hz, fun z S4 vz H4 hz e4 s4 rz => ⟨S4, y, z, q, s4, ry.mono ((e3.trans e4).tk s2), rz, hz, l.after (e1.trans (e2.trans (e3.trans e4)))⟩, lx.after (e1.trans (e2.trans e3))⟩
theorem ad_chn {op op' : COp} {a b c : IE} {x y z : Expr} {pos : Pos} (A : Amb s C k X) (ha : pE X W C a x) (hb : pE X W C b y) (hc : pE X W C c z) (h : notSet y = true) (h' : notSet z = true) : pE X W C (.chn op op' a b c) (.Compare x [op.py, op'.py] [y, z] pos) :=
  pe_imp (pe_chain (op_cop op A.wd (by have := A.hu; omega)) (op_cop op' A.wd (by have := A.hu; omega)) ha hb hc (last_of h h')) fun σ H Q ⟨φ, S, q, E, fr, sr, h, l, lx⟩ => tE_chain fr sr h l lx
theorem ad_chnT {op op' : COp} {a b c : IE} {x y z : Expr} {pos : Pos} (A : Amb s C k X) (ha : pE X W C a x) (hb : pE X W C b y) (hc : pE X W C c z) (h : notSet y = true) (h' : notSet z = true) : pT X W C (.chn op op' a b c) (.Compare x [op.py, op'.py] [y, z] pos) := by
  refine pt_imp (pt_chain (op_cop op A.wd (by have := A.hu; omega)) (op_cop op' A.wd (by have := A.hu; omega)) ha hb hc (last_of h h')) fun σ H Q ⟨φ, S, q, E, fr, sr, h, l, lx⟩ => ?_
  refine tE_chain fr sr h (fun z S' v H' hz e' s' r => ?_) lx
  obtain ⟨b, rfl, hb⟩ := l z S' H' hz e' s'
  cases r
  exact ⟨b, rfl, hb⟩
/-- a test by its value, where the syntax has no way of its own -/
theorem ad_val {e : IE} {x : Expr} (h : pE X W C e x) (he : ∀ whole, isTrue x X.env whole = (do let v ← whole; standAt x.pos; holding [v] (truthy v))) : pT X W C e x := by
  refine pt_imp (pt_val h he) fun σ H Q ⟨φ, S, q, E, fr, sr, h, l, lx⟩ => ⟨φ, S, q, E, fr, sr, h, fun z S' v H' hz e' s' r => ?_, lx⟩
  obtain ⟨b, rfl, hb⟩ := l z S' H' hz e' s'
  cases r
  exact ⟨b, rfl, hb⟩
theorem ad_inv {a : IE} {x : Expr} {pos : Pos} (ha : pE X W C a x) : pE X W C (.inv a) (.UnaryOp .Not x pos) :=
  pe_imp (pe_not ha) fun σ H Q ⟨φ, S, q, E, fr, sr, h, l, lx⟩ => ⟨φ, S, _, E, fr, sr, h, fun x S1 vx H1 ⟨b, hx, hq⟩ e1 s1 rx => by
    subst hx
    cases rx
    exact ⟨b, rfl, l.after e1 |>.here s1 hq (.bl _)⟩, lx⟩
theorem ad_invT {a : IE} {x : Expr} {pos : Pos} (ha : pT X W C a x) : pT X W C (.inv a) (.UnaryOp .Not x pos) :=
  pt_imp (pt_not ha) fun σ H Q ⟨φ, S, q, E, fr, sr, h, l, lx⟩ => ⟨φ, S, _, E, fr, sr, h, fun x S1 H1 ⟨b, hx, hq⟩ e1 s1 => by
    subst hx
    obtain ⟨b', e, hb⟩ := l _ S1 H1 hq e1 s1
    cases e
    exact ⟨b, rfl, hb⟩, lx⟩
theorem ad_ife {t a b : IE} {u x y : Expr} {pos : Pos} (ht : pT X W C t u) (ha : pE X W C a x) (hb : pE X W C b y) : pE X W C (.ife t a b) (.IfExp u x y pos) :=
  pe_imp (pe_ifExp ht ha hb) fun σ H Q ⟨φ, S, q, E, fr, sr, h, l, lx⟩ => ⟨φ, S, _, E, fr, sr, h, fun x S1 H1 ⟨b, hx, hq⟩ e1 s1 => by
    subst hx
    refine ⟨b, rfl, ?_⟩
    cases b with
    | true => exact ⟨φ, S1, q, E, fr.mono (e1.tk sr), s1, hq, l.after e1, lx.after e1⟩
    | false => exact ⟨φ, S1, q, E, fr.mono (e1.tk sr), s1, hq, l.after e1, lx.after e1⟩, lx⟩
/-! ### and, or -/
theorem ad_b1 {kk : Bool} {e : IE} {x : Expr} {pos : Pos} {op : BoolOp} (h : pE X W C e x) : PE X (.BoolOp op [x] pos) (tBv X.K X.mg W C kk (.cons e .nil)) := pe_imp (pe_one h) fun σ H Q z => z
theorem ad_b1T {kk : Bool} {e : IE} {x : Expr} {pos : Pos} {op : BoolOp} (h : pT X W C e x) : PW X (.BoolOp op [x] pos) (tBt X.K X.mg W C kk (.cons e .nil)) := by
  cases op with
  | And => exact pw_imp (pw_and1 h) fun σ H Q z => z
  | Or => exact pw_imp (pw_or1 h) fun σ H Q z => z
def bop (kk : Bool) : BoolOp := if kk then BoolOp.And else BoolOp.Or
theorem wB_more {C : CallT} {kk : Bool} {e e' : IE} {r : IEs} {φ : Fr} {S : Sto} {q : KE} {E : XE} (h : wB C kk (.cons e (.cons e' r)) φ S q E) : wE C e φ S (fun x S1 => ∃ c, x = .bl c ∧ if c = kk then wB C kk (.cons e' r) φ S1 q E else q (.bl c) S1) E := h
theorem ad_b2 {kk : Bool} {e e' : IE} {r : IEs} {x y : Expr} {ys : List Expr} {pos : Pos} (h : pE X W C e x) (hr : PE X (.BoolOp (bop kk) (y :: ys) pos) (tBv X.K X.mg W C kk (.cons e' r))) :
    PE X (.BoolOp (bop kk) (x :: y :: ys) pos) (tBv X.K X.mg W C kk (.cons e (.cons e' r))) := by
  cases kk with
  | true =>
    refine pe_imp (pe_and h hr) fun σ H Q ⟨φ, S, q, E, fr, sr, h, l, lx⟩ => ⟨φ, S, _, E, fr, sr, wB_more h, fun x S1 vx H1 ⟨b, hx, hq⟩ e1 s1 rx => ?_, lx⟩
    subst hx
    cases rx
    refine ⟨b, rfl, ?_⟩
    cases b with
    | true => exact ⟨φ, S1, q, E, fr.mono (e1.tk sr), s1, hq, l.after e1, lx.after e1⟩
    | false => exact l.after e1 |>.here s1 hq (.bl _)
  | false =>
    refine pe_imp (pe_or h hr) fun σ H Q ⟨φ, S, q, E, fr, sr, h, l, lx⟩ => ⟨φ, S, _, E, fr, sr, wB_more h, fun x S1 vx H1 ⟨b, hx, hq⟩ e1 s1 rx => ?_, lx⟩
    subst hx
    cases rx
    refine ⟨b, rfl, ?_⟩
    cases b with
    | false => exact ⟨φ, S1, q, E, fr.mono (e1.tk sr), s1, hq, l.after e1, lx.after e1⟩
    | true => exact l.after e1 |>.here s1 hq (.bl _)
theorem ad_b2T {kk : Bool} {e e' : IE} {r : IEs} {x y : Expr} {ys : List Expr} {pos : Pos} (h : pT X W C e x) (hr : PW X (.BoolOp (bop kk) (y :: ys) pos) (tBt X.K X.mg W C kk (.cons e' r))) :
    PW X (.BoolOp (bop kk) (x :: y :: ys) pos) (tBt X.K X.mg W C kk (.cons e (.cons e' r))) := by
  cases kk with
  | true =>
    refine pw_imp (pw_and h hr) fun σ H Q ⟨φ, S, q, E, fr, sr, h, l, lx⟩ => ⟨φ, S, _, E, fr, sr, wB_more h, fun x S1 H1 ⟨b, hx, hq⟩ e1 s1 => ?_, lx⟩
    subst hx
    refine ⟨b, rfl, ?_⟩
    cases b with
    | true => exact ⟨φ, S1, q, E, fr.mono (e1.tk sr), s1, hq, l.after e1, lx.after e1⟩
    | false =>
      obtain ⟨b', e, hb⟩ := l _ S1 H1 hq e1 s1
      cases e
      exact hb
  | false =>
    refine pw_imp (pw_or h hr) fun σ H Q ⟨φ, S, q, E, fr, sr, h, l, lx⟩ => ⟨φ, S, _, E, fr, sr, wB_more h, fun x S1 H1 ⟨b, hx, hq⟩ e1 s1 => ?_, lx⟩
    subst hx
    refine ⟨b, rfl, ?_⟩
    cases b with
    | false => exact ⟨φ, S1, q, E, fr.mono (e1.tk sr), s1, hq, l.after e1, lx.after e1⟩
    | true =>
      obtain ⟨b', e, hb⟩ := l _ S1 H1 hq e1 s1
      cases e
      exact hb
/-! ### lists of parts -/
/-- the parts, one by one -/
inductive All (X : Cx) (W : WX) (C : CallT) : IEs → List Expr → Prop
  | nil : All X W C .nil []
  | cons {e : IE} {r : IEs} {x : Expr} {xs : List Expr} : pE X W C e x → notStar x = true → All X W C r xs → All X W C (.cons e r) (x :: xs)
inductive AllS (X : Cx) (W : WX) (C : CallT) : IEs → List Expr → Prop
  | nil : AllS X W C .nil []
  | cons {e : IE} {r : IEs} {x : Expr} {xs : List Expr} : pE X W C e x → notStar x = true → AllS X W C r xs → AllS X W C (.cons e r) (x :: xs)
  | star {e : IE} {r : IEs} {x : Expr} {xs : List Expr} {p : Pos} : pE X W C e x → AllS X W C r xs → AllS X W C (.star e r) (.Starred x p :: xs)
theorem All.toS {es : IEs} {xs : List Expr} (h : All X W C es xs) : AllS X W C es xs := by
  induction h with
  | nil => exact .nil
  | cons a b _ ih => exact .cons a b ih
theorem star_not {x : Expr} {xs : List Expr} {env : Env} (h : notStar x = true) : starEach (x :: xs) env = (false, eval x env) :: starEach xs env := by
  cases x <;> first | rfl | cases h
theorem AllS.pa {es : IEs} {xs : List Expr} (h : AllS X W C es xs) : pL X W C es xs := by
  induction h with
  | nil => exact pa_imp pa_nil fun σ H Q ⟨φ, S, q, E, fr, sr, h, l, lx⟩ => l _ S [] H h Ev.refl sr .nil
  | cons a b c ih =>
    exact pa_imp (pa_cons a ih (star_not b)) fun σ H Q ⟨φ, S, q, E, fr, sr, h, l, lx⟩ => ⟨φ, S, _, E, fr, sr, h, fun x S1 vx H1 hx e1 s1 rx => ⟨φ, S1, _, E, fr.mono (e1.tk sr), s1, hx, fun ys S2 vs H2 hy e2 s2 ry =>
      l _ S2 _ H2 hy (e1.trans e2) s2 (.cons (rx.mono (e2.tk s1)) ry), lx.after e1⟩, lx⟩
  | star a c ih =>
    refine pa_imp (StX.pa_star a ih rfl) fun σ H Q ⟨φ, S, q, E, fr, sr, h, l, lx⟩ => ⟨φ, S, _, E, fr, sr, h, fun x S1 vx H1 hx e1 s1 rx => ?_, lx⟩
    dsimp only at hx
    unfold seqW at hx
    split at hx
    · cases rx with
      | tup g r1 =>
        exact ⟨_, _, rfl, .inl g, φ, S1, _, E, fr.mono (e1.tk sr), s1, hx, fun ys S2 vs H2 hy e2 s2 ry => l _ S2 _ H2 hy (e1.trans e2) s2 ((r1.mono (e2.tk s1)).app ry), lx.after e1⟩
    · cases rx
      obtain ⟨xs, h0, hq⟩ := hx
      obtain ⟨vs, g, r1⟩ := s1.isL h0
      exact ⟨_, vs, rfl, .inr (SqL.of g), φ, S1, _, E, fr.mono (e1.tk sr), s1, hq, fun ys S2 vs H2 hy e2 s2 ry => l _ S2 _ H2 hy (e1.trans e2) s2 ((r1.mono (e2.tk s1)).app ry), lx.after e1⟩
    · exact hx.elim
theorem All.plain {es : IEs} {xs : List Expr} (h : All X W C es xs) (pos : Pos) : (backTo pos (starEach xs X.env)).any (·.1) = false := by
  induction h with
  | nil => rfl
  | cons a b c ih =>
    rw [star_not b]
    show (false || (backTo pos (starEach _ X.env)).any (·.1)) = false
    rw [ih]
    rfl
theorem All.few {es : IEs} {xs : List Expr} (h : All X W C es xs) (pos : Pos) : (backTo pos (starEach xs X.env)).all (fun x => !x.1) = true := by
  induction h with
  | nil => rfl
  | cons a b c ih =>
    rw [star_not b]
    show (true && (backTo pos (starEach _ X.env)).all (fun x => !x.1)) = true
    rw [ih]
    rfl
theorem ad_tup {es : IEs} {xs : List Expr} {n : Nat} {pos : Pos} (h : AllS X W C es xs) : pE X W C (.tup es) (.Tuple xs n pos) :=
  pe_imp (pe_tup h.pa) fun σ H Q ⟨φ, S, q, E, fr, sr, h, l, lx⟩ => ⟨φ, S, _, E, fr, sr, h, fun ds S1 vs H1 ⟨hz, hq⟩ e1 s1 rs => ⟨by rw [rs.len]; exact hz, (l.after e1).newT s1 hq rs⟩, lx⟩
theorem ad_lst {es : IEs} {xs : List Expr} {pos : Pos} (h : AllS X W C es xs) : pE X W C (.lst es) (.List xs pos) :=
  pe_imp (pe_lst h.pa) fun σ H Q ⟨φ, S, q, E, fr, sr, h, l, lx⟩ => ⟨φ, S, _, E, fr, sr, h, fun ds S1 vs H1 ⟨hz, hq⟩ e1 s1 rs => ⟨by rw [rs.len]; exact hz, (l.after e1).newL s1 hq rs⟩, lx⟩
/-! ### names, literals -/
theorem ad_var {i : Nat} {x : Str} {pos : Pos} (A : Amb s C k X) (h1 : atN s i x = true) (h2 : visB s.sc x = true) (h3 : okName x = true) : pE X W C (.var i) (.Name x pos) :=
  pe_imp (pe_var (A.ix h1) (A.vis h2) (okName_ok h3).1 (okName_ok h3).2.1) fun σ H Q ⟨φ, S, q, E, fr, sr, h, l, lx⟩ => by
    obtain ⟨d, e, hq⟩ := h
    obtain ⟨v, g, r⟩ := fr.2 i d e
    exact ⟨v, g, l.here sr hq r⟩
theorem ad_lit {d : D} {c : Const} {n : Nat} {pos : Pos} (h : litB d c = true) : pE X W C (.lit d) (.Constant c n pos) := by
  unfold litB at h
  split at h
  · exact pe_imp pe_non fun σ H Q ⟨φ, S, q, E, fr, sr, h, l, lx⟩ => l.here sr h .non
  · have e := eq_of_beq h
    subst e
    exact pe_imp pe_bl fun σ H Q ⟨φ, S, q, E, fr, sr, h, l, lx⟩ => l.here sr h (.bl _)
  · have e := of_decide_eq_true h
    subst e
    exact pe_imp pe_int fun σ H Q ⟨φ, S, q, E, fr, sr, h, l, lx⟩ => l.here sr h (.int _)
  · have e := of_decide_eq_true h
    subst e
    exact pe_imp pe_str fun σ H Q ⟨φ, S, q, E, fr, sr, h, l, lx⟩ => l.here sr h (.str _)
  · cases h
theorem eqLit_ok {d e : D} (h : eqLit d e = true) : d = e := by
  unfold eqLit at h
  split at h
  · rfl
  · rw [eq_of_beq h]
  · rw [of_decide_eq_true h]
  · rw [of_decide_eq_true h]
  · cases h
theorem ad_glo {x : Str} {d : D} {pos : Pos} (A : Amb s C k X) (h1 : glB s.sc x = true) (h2 : conB s x d = true) (h3 : okName x = true) : pE X W C (.glo x d) (.Name x pos) := by
  unfold conB at h2
  split at h2
  · rename_i e he
    have e' := eqLit_ok h2
    subst e'
    obtain ⟨u, v, g, r, rd⟩ := A.con x _ he
    exact pe_imp (pe_glob (A.gl h1) g r (okName_ok h3).1) fun σ H Q ⟨φ, S, q, E, fr, sr, h, l, lx⟩ => l.here sr h (rd H)
  · split at h2
    · rw [Bool.and_eq_true] at h2
      have e := of_decide_eq_true h2.1
      subst e
      obtain ⟨fd, hf⟩ := Option.isSome_iff_exists.mp h2.2
      obtain ⟨fa, fdt, g, _⟩ := A.cal x fd hf
      exact pe_imp (pe_glob (v := .ref fa) (A.gl h1) g rfl (okName_ok h3).1) fun σ H Q ⟨φ, S, q, E, fr, sr, h, l, lx⟩ => l.here sr h (.fn g)
    · cases h2
/-! ### calls -/
theorem Amb.run (A : Amb s C k X) {f : Str} {fd : FD} {fa : Addr} {fdt : FuncData} (tk : Takes X W)
    (F : FnG X.prog X.w X.K X.mg X.base k fa fdt fd.ps (fun vs H Q E => vs.length = fd.ps.length ∧ ∃ S ds q e, SR X.K X.mg S H ∧ Rps X.K X.mg H vs ds ∧ C f ds S q e ∧ Lk X.K X.mg S H q Q ∧
      ∀ c a S' cls dx H', e c a S' → Ev S H S' H' → SR X.K X.mg S' H' → RX X.mg c cls dx → E cls dx H')) (hf : s.tab.lookup f = some fd)
    {pins : List (Addr × Obj)} {σ : L2.St} {H : Hp} {st : Shared} {Q : VK} {us : List Value} {kw : List (Str × Value)} {bs : List Value} {vs : List V} {φ : Fr} {S : Sto} {ds : List D} {q : KE} {E : XE}
    (I : Inv X pins σ H st) (hb : bs.length = fd.ps.length → bindArgs fdt ⟨us, kw⟩ = pure (fd.ps.zip bs)) (r : Vals vs bs) (fr : FR X.K X.mg H σ φ) (sr : SR X.K X.mg S H) (rs : Rps X.K X.mg H vs ds) (h : C f ds S q E) (l : Lk X.K X.mg S H q Q) (lx : LX X.K X.mg W S H φ E) :
    wpAny (model X.prog X.w) X.A (call (.ref fa) us kw) (EP X pins σ Q) X.xe st := by
  have hl := A.cl f fd ds S q E hf h
  refine run_fnG F A.rm A.gu tk I (fun e => .of_eq (hb e)) r ⟨by rw [rs.len]; exact hl, S, ds, q, E, sr, rs, h, l, fun c a S' cls dx H' he ev s' rx => ?_⟩
  exact lx c a S' cls dx σ H' he ev s' (fr.mono (ev.tk sr)) rx
theorem ad_cal {f : Str} {es : IEs} {xs : List Expr} {p pos : Pos} (A : Amb s C k X) (tk : Takes X W) (hg : glB s.sc f = true) (hn : okName f = true) (hf : (s.tab.lookup f).isSome = true) (h : All X W C es xs) : pE X W C (.cal f es) (.Call (.Name f p) xs [] pos) := by
  obtain ⟨fd, hfd⟩ := Option.isSome_iff_exists.mp hf
  obtain ⟨fa, fdt, g, kp, hb, F, _⟩ := A.cal f fd hfd
  refine ⟨fun pins st σ H Q I ⟨φ, S, q, E, fr, sr, hw, l, lx⟩ => ?_⟩
  refine wpAny_Call_Name_kw (ld_glob I (A.gl hg) g ?_ (okName_ok hn).1)
  cases h with
  | nil =>
    exact PySem.W.callWith_K0 I.kIn kp (A.run tk F hfd (us := []) (kw := []) (bs := []) I (fun e => hb [] e) .nil fr sr .nil hw l lx)
  | @cons e r x xs a b c =>
    have pa := (AllS.cons a b c.toS).pa
    refine PySem.W.callWith_K (h₀ := X.base) I.ok.mod.kin kp (thn (pa.run pos pins st σ H (fun vs H1 => ∃ ds S1, SR X.K X.mg S1 H1 ∧ Ev S H S1 H1 ∧ Rps X.K X.mg H1 vs ds ∧ C f ds S1 q E) I ?_) fun us s1 ⟨vs, H1, I1, rv, ds, S1, s1', e1, rs, hc⟩ => ⟨I1.kIn, ?_⟩) (star_not b) (c.plain pos)
    · exact ⟨φ, S, _, E, fr, sr, hw, fun ds S1 vs H1 hc e1 s1 rs => ⟨ds, S1, s1, e1, rs, hc⟩, lx⟩
    · exact A.run tk F hfd (us := us) (kw := []) (bs := us) I1 (fun e => hb us e) rv (fr.mono (e1.tk sr)) s1' rs hc (l.after e1) (lx.after e1)
theorem ad_bui {b : Bi} {es : IEs} {xs : List Expr} {p pos : Pos} (A : Amb s C k X) (hg : glB s.sc b.nm = true) (hn : okName b.nm = true) (hf : freeB s b.nm = true) (h : All X W C es xs) (h0 : 0 < xs.length) : pE X W C (.bui b es) (.Call (.Name b.nm p) xs [] pos) := by
  cases h with
  | nil => exact absurd h0 (Nat.lt_irrefl _)
  | @cons e r x xs a c d =>
    have pa := (AllS.cons a c d.toS).pa
    have key : ∀ {t : TE}, PE X (.Call (.Name b.nm p) (x :: xs) [] pos) t → (t = tCB (rD1 X.K X.mg (biW b)) (tL X.K X.mg W C (.cons e r))) → pE X W C (.bui b (.cons e r)) (.Call (.Name b.nm p) (x :: xs) [] pos) := fun {t} h ht => by
      subst ht
      exact pe_imp h fun σ H Q ⟨φ, S, q, E, fr, sr, hw, l, lx⟩ => ⟨φ, S, _, E, fr, sr, hw, fun ds S1 vs H1 hb e1 s1 rs => ⟨S1, ds, q, s1, rs, hb, l.after e1⟩, lx⟩
    have cb := call_bi (X := X) b A.wd A.calm A.gu A.hu
    have bt := b.boot
    refine key ?_ rfl
    cases b <;> first
      | exact pe_callB cb (A.gl hg) (A.free _ hf) bt pa (okName_ok hn).2.2 (okName_ok hn).1 (star_not c) (d.plain pos)
      | exact pe_callTy cb (A.gl hg) (A.free _ hf) bt pa (okName_ok hn).2.2 (okName_ok hn).1 (star_not c) (d.plain pos)
/-! ### subscripts -/
theorem plain_ix {x : Expr} (h : notSlice x = true) : PlainIx x := by
  intro o i
  cases x <;> first | rfl | cases h
theorem ad_idx {a i : IE} {x y : Expr} {pos : Pos} (A : Amb s C k X) (ha : pE X W C a x) (hi : pE X W C i y) (h : notSlice y = true) : pE X W C (.idx a i) (.Subscript x y pos) :=
  pe_imp (pe_ix (ix_P (by have := A.hu; omega)) ha hi (plain_ix h)) fun σ H Q ⟨φ, S, q, E, fr, sr, hw, l, lx⟩ => tE_two fr sr hw l lx
abbrev pO (X : Cx) (W : WX) (C : CallT) (e : IEs) (x : Option Expr) : Prop := PO X x (tOo X.K X.mg W C e)
theorem po_imp {e : Option Expr} {t t' : TO} (h : PO X e t) (i : ∀ σ H Q, t' σ H Q → t σ H Q) : PO X e t' := ⟨fun pins s σ H Q I q => h.run pins s σ H Q I (i σ H Q q)⟩
theorem ad_o0 : pO X W C .nil none := po_imp po_none fun σ H Q ⟨φ, S, q, E, fr, sr, hw, l, lx⟩ => l _ S H hw Ev.refl sr
theorem ad_o1 {a : IE} {x : Expr} (ha : pE X W C a x) : pO X W C (.cons a .nil) (some x) := po_imp (po_some ha) fun σ H Q ⟨φ, S, q, E, fr, sr, hw, l, lx⟩ => ⟨φ, S, _, E, fr, sr, hw, fun d S1 v H1 ⟨i, hd, hq⟩ e1 s1 r => by
  subst hd
  cases r
  exact ⟨i, rfl, l _ S1 H1 hq e1 s1⟩, lx⟩
theorem ad_slc {a : IE} {lo hi : IEs} {x : Expr} {l h : Option Expr} {p pos : Pos} (ha : pE X W C a x) (hl : pO X W C lo l) (hh : pO X W C hi h) : pE X W C (.slc a lo hi) (.Subscript x (.Slice l h none p) pos) :=
  pe_imp (pe_slice sl_P ha hl hh) fun σ H Q ⟨φ, S, q, E, fr, sr, hw, lk, lx⟩ => ⟨φ, S, _, E, fr, sr, hw, fun d S1 v H1 h1 e1 s1 r => ⟨φ, S1, _, E, fr.mono (e1.tk sr), s1, h1, fun i S2 H2 h2 e2 s2 =>
    ⟨φ, S2, _, E, fr.mono ((e1.trans e2).tk sr), s2, h2, fun j S3 H3 h3 e3 s3 => ⟨S3, d, q, s3, r.mono ((e2.trans e3).tk s1), h3, lk.after (e1.trans (e2.trans e3))⟩, lx.after (e1.trans e2)⟩, lx.after e1⟩, lx⟩
/-! ### isinstance -/
theorem ofString_ty (t : Ty) : bootBuiltins (Str.ofString t.nm) = some (.type t.nm) := Ty.boot t
theorem pe_ty (A : Amb s C k X) {t : Ty} {x : Expr} (h : tyOneB s t x = true) : PE X x (tC (.ty t.nm)) ∧ notStar x = true := by
  unfold tyOneB at h
  split at h
  · rename_i y p
    simp only [Bool.and_eq_true] at h
    obtain ⟨⟨⟨h1, h2⟩, h3⟩, h4⟩ := h
    have e := of_decide_eq_true h1
    subst e
    exact ⟨pe_bltn (A.gl h2) (A.free _ h3) (Ty.boot t) rfl (okName_ok h4).2.2 (okName_ok h4).1, rfl⟩
  · cases h
theorem pa_tys (A : Amb s C k X) : ∀ {ts : List Ty} {xs : List Expr}, tyAllB s ts xs = true → PA X xs (fun _ H Q => Q (ts.map fun t => V.ty t.nm) H)
  | [], [], _ => pa_imp pa_nil fun _ _ _ h => h
  | [], _ :: _, h => by cases h
  | _ :: _, [], h => by cases h
  | t :: ts, x :: xs, h => by
    have h' : (tyOneB s t x && tyAllB s ts xs) = true := h
    rw [Bool.and_eq_true] at h'
    obtain ⟨h1, h2⟩ := pe_ty A h'.1
    exact pa_imp (pa_cons h1 (pa_tys A h'.2) (star_not h2)) fun _ _ _ h => h
theorem clsV_tys : ∀ ts : List Ty, Paired ClsV (ts.map fun t => V.ty t.nm) (ts.map fun t => Value.type t.nm)
  | [] => .nil
  | t :: ts => .cons (.ty t.nm) (clsV_tys ts)
theorem ad_isi {a : IE} {ts : List Ty} {x y : Expr} {p pos : Pos} (A : Amb s C k X) (hg : glB s.sc ("isinstance" : Str) = true) (hf : freeB s ("isinstance" : Str) = true) (hx : notStar x = true) (ha : pE X W C a x) (hy : tysB s ts y = true) :
    pE X W C (.isi a ts) (.Call (.Name "isinstance" p) [x, y] [] pos) := by
  unfold tysB at hy
  split at hy
  · split at hy
    · rename_i z q t
      obtain ⟨h1, h2⟩ := pe_ty A hy
      refine pe_imp (pe_callB call_isi (A.gl hg) (A.free _ hf) boot_isinstance (pa_cons ha (pa_cons h1 pa_nil (star_not h2)) (star_not hx)) (by decide) (by decide) (star_not hx) (by rw [star_not h2]; rfl)) ?_
      rintro σ H Q ⟨φ, S, q, E, fr, sr, hw, l, lx⟩
      refine ⟨φ, S, _, E, fr, sr, hw, fun d S1 v H1 h1 e1 s1 r => ?_, lx⟩
      obtain ⟨t', b, g1, g2, g3⟩ := isi_some s1 r h1
      refine ⟨v, _, t', _, b, rfl, .ty _, g1, ?_, l.after e1 |>.here s1 g2 (.bl _)⟩
      simp only [List.map_cons, List.map_nil] at g3
      unfold PySem.W.kitAny at g3
      split at g3
      · rename_i e; rw [e]; exact g3
      · rename_i e; rw [e]; exact g3
      · cases g3
    · cases hy
  · rename_i zs n q
    rw [Bool.and_eq_true] at hy
    have hz := of_decide_eq_true hy.1
    have hy := hy.2
    have tu : PE X (.Tuple zs n q) (tTup (fun _ H Q => Q (ts.map fun t => V.ty t.nm) H)) := pe_tup (pa_tys A hy)
    refine pe_imp (pe_callB call_isiT (A.gl hg) (A.free _ hf) boot_isinstance (pa_cons ha (pa_cons tu pa_nil rfl) (star_not hx)) (by decide) (by decide) (star_not hx) rfl) ?_
    rintro σ H Q ⟨φ, S, q, E, fr, sr, hw, l, lx⟩
    refine ⟨φ, S, _, E, fr, sr, hw, fun d S1 v H1 h1 e1 s1 r => ⟨?_, fun p hp => ?_⟩, lx⟩
    · rw [List.length_map, sizeLine_eq]; omega
    · obtain ⟨s2, e2⟩ := s1.new (o := .tup (ts.map fun t => V.ty t.nm)) hp
      obtain ⟨t', b, g1, g2, g3⟩ := isi_some s2 (r.mono (e2.tk s1)) h1
      exact ⟨v, p, _, t', _, b, rfl, upd_same, clsV_tys ts, g1, g3, l.after (e1.trans e2) |>.here s2 g2 (.bl _)⟩
  · cases hy
end
end Pi

/-! PiEnu: enumerate(tuple). -/
namespace Pi
open PySem L2 PyProof.Rows
open AutoSeq1 (wpAny_loadPart')
variable [WD]
abbrev tupIt (t : Addr) : Obj := { cls := .type "tuple_iterator", data := .fields #[.ref t, .int 0 0] }
abbrev enuO (a : Addr) : Obj := { cls := .type "enumerate", data := .fields #[.none, .bool false, .ref a, rawInt 0, .none, .none] }
theorem enu_new (t : Addr) (ws : Array Value) (n : Nat) (dd : Option Addr) (sl : Array (Option Value)) :
    Meets (Builtin.«enumerate.__new__» ⟨[.type "enumerate", .ref t], []⟩) (fun _ R st => st.heap.get? t = some ⟨.type "tuple", dd, .seq ws n, sl⟩ ∧
      R (.ok (.ret (.ref (st.heap.push (tupIt t)).objs.size))) { st with heap := (st.heap.push (tupIt t)).push (enuO st.heap.objs.size) }) :=
  .of_wp fun prog w A R st hyp => by
    obtain ⟨hp, g, d, tk, os⟩ := st
    obtain ⟨at_, goal⟩ := hyp
    have isSub := sub_enumerate
    have tp : Heap.IsTuple (Shared.heap ⟨hp, g, d, tk, os⟩) t ws := ⟨_, at_, rfl, n, rfl⟩
    wp_walk using wpAny_loadPart' at_
    refine wpAny_stack_any fun z => wpAny_pure ?_
    split
    · rename_i c _ _ _ _ _
      cases (c == Value.type "enumerate") <;> (wp_walk using wpAny_loadPart' at_, wpAny_pyIter_tuple tp; exact ⟨_, rfl, goal⟩)
    · wp_walk using wpAny_loadPart' at_, wpAny_pyIter_tuple tp
      exact ⟨_, rfl, goal⟩
section
variable {prog : Program} {w : World} {A : Around} {E : Value → Shared → Prop} {s : Shared}
theorem enu_call {t : Addr} {ws : Array Value} {Q : Value → Shared → Prop} (ht : s.heap.IsTuple t ws)
    (hq : ∀ h', IsEnum h' (s.heap.objs.size + 1) s.heap.objs.size 0 .none → h'.IsTupleIter s.heap.objs.size t 0 → (∀ b o, s.heap.get? b = some o → h'.get? b = some o) → Q (.ref (s.heap.objs.size + 1)) { s with heap := h' }) :
    wpAny (model prog w) A (call (.type "enumerate") [.ref t]) Q E s := by
  obtain ⟨⟨c, dd, dt, sl⟩, e1, e2, n, e3⟩ := ht
  have e2 : c = .type "tuple" := e2
  have e3 : dt = .seq ws n := e3
  subst e2 e3
  have z : (s.heap.push (tupIt t)).objs.size = s.heap.objs.size + 1 := Heap.size_push ..
  refine callType_new F.called_enumerate (by decide) (F.typeCall_enumerate_1 _) (F.newCall_enumerate_1 _) (fun obj => F.args_object_init_2 obj _) F.entry_enumerate_new (enu_new t ws n dd sl) ⟨e1, ?_⟩
  show _ ∧ _
  rw [z]
  have en : IsEnum ((s.heap.push (tupIt t)).push (enuO s.heap.objs.size)) (s.heap.objs.size + 1) s.heap.objs.size 0 .none := by
    have q := Heap.get?_push_size (s.heap.push (tupIt t)) (o := enuO s.heap.objs.size) rfl
    rw [z] at q
    exact q
  exact ⟨⟨_, en, rfl⟩, hq _ en ⟨_, Heap.get?_push_of_some _ (Heap.get?_push_size _ rfl), rfl, rfl⟩ fun b o x => Heap.get?_push_of_some _ (Heap.get?_push_of_some _ x)⟩
end
/-- the tuple at a, each item in a new pair with its number -/
def ItnT (K : PySem.W.Frag) (a : Addr) : It where
  go i H := ∃ (vs : List V) (v : V), SqT K H a vs ∧ vs[i]? = some v
  yld i H r H' := ∃ T v, r = .ref T ∧ H T = none ∧ H' = upd H T (.tup [.int (i : Nat), v]) ∧ ∀ vs, SqT K H a vs → vs[i]? = some v
  stop i H := ∃ vs : List V, SqT K H a vs ∧ vs.length = i
theorem turn_enuT {P : Program} {w : World} {K : PySem.W.Frag} {elts : List Expr} {kk : Nat} {tpos : Pos} (a e it : Addr) :
    Turn P w K (.Tuple elts kk tpos) (ItnT K a) [e, it] e (fun i h => (∃ old, IsEnum h e it ((i : Nat) : Int) old) ∧ h.IsTupleIter it a i ∧ e ≠ it) where
  mem := List.mem_cons_self
  obj := by
    rintro i h ⟨⟨old, he⟩, ⟨o, ho, hc, hd⟩, _⟩ b hb
    rcases List.mem_cons.mp hb with z | z
    · rw [z]
      exact ⟨_, he, fun v q => nomatch q⟩
    · refine ⟨o, by rw [List.mem_singleton.mp z]; exact ho, fun v q => ?_⟩
      rw [hd] at q
      cases q
  keep := by
    rintro i h h' ⟨⟨old, he⟩, hi, hne⟩ k
    exact ⟨⟨old, k e List.mem_cons_self _ he⟩, hi.at fun o q => k it (List.mem_cons_of_mem _ List.mem_cons_self) o q, hne⟩
  item := by
    rintro X rfl rfl rfl hc i pins s σ H E I hf ⟨⟨old, he⟩, hit, hne⟩ ⟨vs, v, hq, hv⟩
    obtain ⟨its, rv, tp, hz⟩ := I.tuple hq
    have tp' : s.heap.IsTuple a its.toArray := tp
    obtain ⟨u, hu, ru⟩ := rv.get hv
    have hel : e < s.heap.objs.size := Heap.lt_size he
    have hil : it < s.heap.objs.size := by obtain ⟨_, q, _⟩ := hit; exact Heap.lt_size q
    have hlt : i < its.toArray.size := by rw [List.size_toArray]; exact (List.getElem?_eq_some_iff.mp hu).1
    have ai : a ≠ it := fun z => by
      obtain ⟨o, ho, _, _, hd⟩ := tp'
      obtain ⟨o', ho', _, hd'⟩ := hit
      rw [z, ho'] at ho
      cases ho
      rw [hd'] at hd
      cases hd
    have ea : e ≠ a := fun z => by
      obtain ⟨o, ho, _, _, hd⟩ := tp'
      have he' : s.heap.get? e = some _ := he
      rw [z, ho] at he'
      cases he'
      cases hd
    refine wpAny_pyNext_enum_itemD (PySem.Draws.tuple (prog := X.prog) (w := X.w) (A := X.A.in1) (I.ok.hd hc) it a ai its.toArray) he ⟨hit, tp'⟩ hlt hne (fun hm => ?_) fun x h' tk hx ho st' hT hsz hk => ?_
    · rcases List.mem_cons.mp hm with z | z
      · exact hne z
      · exact ea (List.mem_singleton.mp z)
    have hxu : x = u := by
      have q : its.toArray[i]? = some x := hx
      rw [List.getElem?_toArray, hu] at q
      exact (Option.some.inj q).symm
    subst hxu
    refine ⟨_, rfl, wpAny_letOwnedTupleGo_enum (s := { s with heap := h', toks := tk + 1 }) ho fun h'' he' sb => ?_⟩
    have hT2 : h''.get? s.heap.objs.size = some { cls := .type "tuple", data := .seq #[.int i tk, x] } := (sb.2 _ (Nat.ne_of_gt hel)).trans hT
    have new : ObjOk X.prog X.w (upd H s.heap.objs.size (.tup [.int (i : Nat), v])) h'' s.heap.objs.size (.tup [.int (i : Nat), v]) :=
      ⟨by show 2 ≤ sizeLine; decide, [.int i tk, x], .cons ⟨_, rfl⟩ (.cons ru .nil), ⟨_, hT2, rfl, _, rfl⟩⟩
    have I1 := I.turnedNew (h' := h'') (t' := tk + 1) (ch := [e, it]) (fun b ob hb q => (sb.2 b fun z => hb (by rw [z]; exact List.mem_cons_self)).trans
      (hk b ob (fun z => hb (by rw [z]; exact List.mem_cons_self)) (fun z => hb (by rw [z]; exact List.mem_cons_of_mem _ List.mem_cons_self)) q)) hf (Nat.le_refl _) new
    refine ⟨.ref s.heap.objs.size, _, I1, rfl, ⟨_, v, rfl, I.hok.fresh (Nat.le_refl _), rfl, fun ys hy => by rw [I.tuple_inj hy hq]; exact hv⟩, ⟨⟨x, ?_⟩, st'.1.at fun o q => (sb.2 it (Ne.symm hne)).trans q, hne⟩, fun b hb => ?_⟩
    · rw [show ((i + 1 : Nat) : Int) = (i : Int) + 1 by omega]
      exact he'
    · have hb' : b < s.heap.objs.size := by
        rcases List.mem_cons.mp hb with z | z
        · rw [z]; exact hel
        · rw [List.mem_singleton.mp z]; exact hil
      rw [upd_ne (Nat.ne_of_lt hb')]
      exact (hf b hb).1
  done := by
    rintro X rfl rfl rfl hc i pins s σ H E I hf ⟨⟨old, he⟩, hit, hne⟩ ⟨vs, hq, hle⟩
    obtain ⟨its, rv, tp, hz⟩ := I.tuple hq
    have tp' : s.heap.IsTuple a its.toArray := tp
    obtain ⟨f0, f1, f2, f3, f4, f5⟩ := hf it (List.mem_cons_of_mem _ List.mem_cons_self)
    have hl := rv.length
    have ai : a ≠ it := fun z => by
      obtain ⟨o, ho, _, _, hd⟩ := tp'
      obtain ⟨o', ho', _, hd'⟩ := hit
      rw [z, ho'] at ho
      cases ho
      rw [hd'] at hd
      cases hd
    have es : its.toArray.size = i := by rw [List.size_toArray, ← hl]; exact hle
    refine wpAny_pyNext_enum_endD (PySem.Draws.tuple (prog := X.prog) (w := X.w) (A := X.A.in1) (I.ok.hd hc) it a ai its.toArray) he ⟨by rw [es]; exact hit, tp'⟩ fun h' eb => ⟨rfl, I.turned (t' := s.toks) (fun b o hb q => eb b o hb q) f0 f1 f3 f4 f5⟩
  self := by
    rintro A i s Q E ⟨⟨_, he⟩, _⟩ h
    exact wpAny_pyIter_enum he h
theorem pi_enuT {X : Cx} {e : Expr} {ta : TA} {p pos tpos : Pos} {elts : List Expr} {kk : Nat} (hg : Gl X "enumerate") (hm : X.mg "enumerate" = none) (ha : PA X [e] ta) (hs : starEach [e] X.env = [(false, eval e X.env)]) :
    PI X (.Tuple elts kk tpos) (.Call (.Name "enumerate" p) [e] [] pos) (fun σ H R => ta σ H fun vs H1 => ∃ a, vs = [.ref a] ∧ ((∃ xs, SqL X.K H1 a xs ∧ R (Ite X.K a) H1) ∨ ∃ xs, SqT X.K H1 a xs ∧ R (ItnT X.K a) H1)) := by
  refine ⟨fun pins s σ H R I h => Call_ (ld_blt I hg hm boot_enumerate (PyProof.Rows.callWith_type1 (thn (ha.run pos pins s σ H _ I h) fun us s1 ⟨vs, H1, I1, r1, a, ev, hq⟩ => ?_) hs rfl))⟩
  subst ev
  rw [Vals.ref1 r1]
  have fp : ∀ b ∈ [s1.heap.objs.size + 1, s1.heap.objs.size], FpOk X pins H1 b := fun b hb => by
    have le : s1.heap.objs.size ≤ b := by
      rcases List.mem_cons.mp hb with z | z
      · rw [z]; exact Nat.le_succ _
      · rw [List.mem_singleton.mp z]; exact Nat.le_refl _
    exact I1.fpOk le (I1.hok.fresh le)
  rcases hq with ⟨xs, hq, q⟩ | ⟨xs, hq, q⟩
  · obtain ⟨its, rv, p', hz⟩ := I1.list hq
    refine call_enumerate_list p'.isList fun h' he hit hsz hk => wpAny_pyIter_enum he ⟨_, _, _, _, H1, rfl, I1.kept (t' := s1.toks) hk, turn_enum a (s1.heap.objs.size + 1) s1.heap.objs.size, ⟨⟨.none, he⟩, hit, Nat.succ_ne_self _⟩, fp, q⟩
  · obtain ⟨its, rv, p', hz⟩ := I1.tuple hq
    refine enu_call (ws := its.toArray) p' fun h' he hit hk => wpAny_pyIter_enum he ⟨_, _, _, _, H1, rfl, I1.kept (t' := s1.toks) hk, turn_enuT a (s1.heap.objs.size + 1) s1.heap.objs.size, ⟨⟨.none, he⟩, hit, Nat.succ_ne_self _⟩, fp, q⟩
end Pi

/-! PiZip: zip of a tuple and a list. -/
namespace Pi
open PySem L2 PyProof.Rows
variable [WD]
section
variable {prog : Program} {w : World} {A : Around} {E : Value → Shared → Prop} {s : Shared}
/-- what a zip holds while it stands at k: a tuple's and a list's walk -/
structure ZM (z TI TO i1 i2 l1 l2 : Addr) (k : Nat) (f : Value) (a b : Value) (h : Heap) : Prop where
  hz : IsZip h z TI TO f
  hTI : IsPair h TI (.ref i1) (.ref i2)
  hTO : IsPair h TO a b
  h1 : h.IsTupleIter i1 l1 k
  h2 : h.IsListIter i2 l2 k
theorem zm_item {z TI TO i1 i2 l1 l2 : Addr} {k : Nat} {xs ys : Array Value} {x y a b : Value} {Q : Value → Shared → Prop} (D : ZipApart z TI TO i1 i2 l1 l2) (Z : ZM z TI TO i1 i2 l1 l2 k .none a b s.heap)
    (hl1 : s.heap.IsTuple l1 xs) (hl2 : s.heap.IsList l2 ys) (hx : xs[k]? = some x) (hy : ys[k]? = some y)
    (hQ : ∀ h', IsZip h' z TI TO (rawInt s.heap.objs.size) → IsPair h' TO x y → h'.IsTupleIter i1 l1 (k + 1) → h'.IsListIter i2 l2 (k + 1) → IsPair h' s.heap.objs.size x y → h'.objs.size = s.heap.objs.size + 1 →
      (∀ c o, c ≠ z → c ≠ TO → c ≠ i1 → c ≠ i2 → s.heap.get? c = some o → h'.get? c = some o) → Q (.ref s.heap.objs.size) { s with heap := h' }) :
    wpAny (model prog w) A (Builtin.«zip.__next__» ⟨[.ref z], []⟩) (fun fin s' => ∃ v, fin = .done (.ret v) ∧ Q v s') E s := by
  obtain ⟨hz, hTI, hTO, h1, h2⟩ := Z
  show wpAny _ _ (field (.ref z) 2 >>= _) _ _ _
  refine wpAny_bind (wpAny_field hz rfl (x := .bool false) rfl ?_)
  show wpAny _ _ (field (.ref z) 3 >>= _) _ _ _
  refine wpAny_bind (wpAny_field hz rfl (x := .ref TI) rfl (wpAny_bind (wpAny_seqItems hTI rfl ?_)))
  show wpAny _ _ (Builtin.SmallTypes.ownedTupleIsFree (.ref z) >>= _) _ _ _
  unfold Builtin.SmallTypes.ownedTupleIsFree
  refine wpAny_bind (wpAny_bind (wpAny_field hz rfl (x := .none) rfl (wpAny_pure ?_)))
  simp only [if_true]
  refine wpAny_bind (wpAny_rule (wpAny_bind (wpAny_field hz rfl (x := .ref TO) rfl (wpAny_bind (wpAny_setField_rec hz (by simp) fun a1 z1 b1 => ?_)))))
  replace z1 : IsZip a1 z TI TO .ellipsis := z1
  refine wpAny_bind ?_
  simp only [List.zipIdx_cons, List.zipIdx_nil, List.forIn_cons, List.forIn_nil]
  refine wpAny_bind (wpAny_bind (wpAny_onRaise ?_))
  show wpAny _ _ (Builtin.SmallTypes.nextOf (.ref i1) >>= _) _ _ _
  refine wpAny_bind (RZ.nextOf_tuple_item (h1.extBut b1.extBut D.i1z) (hl1.extBut b1.extBut D.l1z) hx fun a2 n1 b2 => wpAny_pure ?_)
  have t2 : IsPair a2 TO a b := b2.extBut _ _ D.TOi1 (b1.extBut _ _ D.TOz hTO)
  refine wpAny_bind (wpAny_seqItems t2 rfl (wpAny_bind (wpAny_updateSeq_pair t2 fun a3 t3 b3 => ?_)))
  replace t3 : IsPair a3 TO x b := t3
  refine wpAny_bind (wpAny_letGo (wpAny_pure (wpAny_bind (wpAny_bind (wpAny_onRaise ?_)))))
  show wpAny _ _ (Builtin.SmallTypes.nextOf (.ref i2) >>= _) _ _ _
  refine wpAny_bind (wpAny_nextOf_list_item (((h2.extBut b1.extBut D.i2z).extBut b2.extBut D.i12.symm).extBut b3.extBut D.TOi2.symm)
    (((hl2.extBut b1.extBut D.l2z).extBut b2.extBut D.l2i1).extBut b3.extBut D.l2TO) hy fun a4 n2 b4 => wpAny_pure ?_)
  have t4 : IsPair a4 TO x b := b4.extBut _ _ D.TOi2 t3
  refine wpAny_bind (wpAny_seqItems t4 rfl (wpAny_bind (wpAny_updateSeq_pair t4 fun a5 t5 b5 => ?_)))
  replace t5 : IsPair a5 TO x y := t5
  refine wpAny_bind (wpAny_letGo (wpAny_pure (wpAny_pure (wpAny_bind (wpAny_seqItems t5 rfl (wpAny_bind (wpAny_newTuple ?_)))))))
  have sz : a5.objs.size = s.heap.objs.size := by rw [b5.1, b4.1, b3.1, b2.1, b1.1]
  have z5 : IsZip a5 z TI TO .ellipsis := b5.extBut _ _ D.TOz.symm (b4.extBut _ _ D.i2z.symm (b3.extBut _ _ D.TOz.symm (b2.extBut _ _ D.i1z.symm z1)))
  have keep5 : ∀ c o, c ≠ z → c ≠ TO → c ≠ i1 → c ≠ i2 → s.heap.get? c = some o → a5.get? c = some o := fun c o c1 c2 c3 c4 e =>
    b5.extBut _ _ c2 (b4.extBut _ _ c4 (b3.extBut _ _ c2 (b2.extBut _ _ c3 (b1.extBut _ _ c1 e))))
  have m1 : a5.IsTupleIter i1 l1 (k + 1) := ((n1.extBut b3.extBut D.TOi1.symm).extBut b4.extBut D.i12).extBut b5.extBut D.TOi1.symm
  have m2 : a5.IsListIter i2 l2 (k + 1) := n2.extBut b5.extBut D.TOi2.symm
  have zlt : z < a5.objs.size := Heap.lt_size z5
  show wpAny _ _ (Builtin.SmallTypes.ownedTupleHandOut (.ref z) (.ref a5.objs.size) >>= _) _ _ _
  unfold Builtin.SmallTypes.ownedTupleHandOut
  have z6 : IsZip (a5.push { cls := .type "tuple", data := .seq #[x, y] }) z TI TO .ellipsis := Heap.get?_push_of_some _ z5
  refine wpAny_bind (wpAny_bind (wpAny_setField_rec z6 (by simp) fun a7 z7 b7 => ?_))
  replace z7 : IsZip a7 z TI TO (rawInt a5.objs.size) := z7
  refine wpAny_setField_rec z7 (by simp) fun a8 z8 b8 => ?_
  replace z8 : IsZip a8 z TI TO (rawInt a5.objs.size) := z8
  have up : ∀ c o, c ≠ z → a5.get? c = some o → a8.get? c = some o := fun c o c1 e => b8.extBut _ _ c1 (b7.extBut _ _ c1 (Heap.get?_push_of_some _ e))
  have T8 : IsPair a8 a5.objs.size x y := b8.extBut _ _ (Nat.ne_of_gt zlt) (b7.extBut _ _ (Nat.ne_of_gt zlt) (Heap.get?_push_size _ rfl))
  have s8 : a8.objs.size = a5.objs.size + 1 := by rw [b8.1, b7.1, Heap.size_push]
  rw [sz] at z8 T8 s8
  refine wpAny_pure ⟨_, rfl, ?_⟩
  show Q (.ref a5.objs.size) _
  rw [sz]
  exact hQ a8 z8 (up _ _ D.TOz t5) (m1.at fun o e => up _ o D.i1z e) (m2.at fun o e => up _ o D.i2z e) T8 s8 fun c o c1 c2 c3 c4 e => up c o c1 (keep5 c o c1 c2 c3 c4 e)
theorem zm_end {z TI TO i1 i2 l1 l2 : Addr} {k : Nat} {xs ys : Array Value} {a b : Value} {Q : Fin → Shared → Prop} (hh : A.handled = none) (D : ZipApart z TI TO i1 i2 l1 l2) (Z : ZM z TI TO i1 i2 l1 l2 k .none a b s.heap)
    (hl1 : s.heap.IsTuple l1 xs) (hl2 : s.heap.IsList l2 ys) (hend : xs[k]? = none ∨ ys[k]? = none)
    (hE : ∀ h' e, (∀ c o, c ≠ z → c ≠ TO → c ≠ i1 → c ≠ i2 → s.heap.get? c = some o → h'.get? c = some o) → (∃ o, h'.get? e = some o ∧ o.cls = .type "StopIteration") → E (.ref e) { s with heap := h' }) :
    wpAny (model prog w) A (Builtin.«zip.__next__» ⟨[.ref z], []⟩) Q E s := by
  obtain ⟨hz, hTI, hTO, h1, h2⟩ := Z
  show wpAny _ _ (field (.ref z) 2 >>= _) _ _ _
  refine wpAny_bind (wpAny_field hz rfl (x := .bool false) rfl ?_)
  show wpAny _ _ (field (.ref z) 3 >>= _) _ _ _
  refine wpAny_bind (wpAny_field hz rfl (x := .ref TI) rfl (wpAny_bind (wpAny_seqItems hTI rfl ?_)))
  show wpAny _ _ (Builtin.SmallTypes.ownedTupleIsFree (.ref z) >>= _) _ _ _
  unfold Builtin.SmallTypes.ownedTupleIsFree
  refine wpAny_bind (wpAny_bind (wpAny_field hz rfl (x := .none) rfl (wpAny_pure ?_)))
  simp only [if_true]
  refine wpAny_bind (wpAny_rule (wpAny_bind (wpAny_field hz rfl (x := .ref TO) rfl (wpAny_bind (wpAny_setField_rec hz (by simp) fun a1 z1 b1 => ?_)))))
  replace z1 : IsZip a1 z TI TO .ellipsis := z1
  refine wpAny_bind ?_
  simp only [List.zipIdx_cons, List.zipIdx_nil, List.forIn_cons, List.forIn_nil]
  refine wpAny_bind (wpAny_bind (wpAny_onRaise ?_))
  show wpAny _ _ (Builtin.SmallTypes.nextOf (.ref i1) >>= _) _ _ _
  cases hx : xs[k]? with
  | none =>
    refine wpAny_bind (RZ.nextOf_tuple_end hh (h1.extBut b1.extBut D.i1z) (hl1.extBut b1.extBut D.l1z) hx fun a2 e b2 he => ?_)
    obtain ⟨oe, g, c⟩ := he
    have z2 : IsZip a2 z TI TO .ellipsis := b2 _ _ D.i1z.symm z1
    have ne : e ≠ z := fun q => by subst q; rw [z2] at g; cases g; simp at c
    exact wpAny_setField_rec z2 (by simp) fun a3 _ b3 => hE a3 e (fun c o c1 _ c3 _ q => b3.extBut _ _ c1 (b2 _ _ c3 (b1.extBut _ _ c1 q))) ⟨oe, b3.extBut _ _ ne g, c⟩
  | some x =>
    have hy : ys[k]? = none := by
      rcases hend with q | q
      · rw [hx] at q; cases q
      · exact q
    refine wpAny_bind (RZ.nextOf_tuple_item (h1.extBut b1.extBut D.i1z) (hl1.extBut b1.extBut D.l1z) hx fun a2 n1 b2 => wpAny_pure ?_)
    have t2 : IsPair a2 TO a b := b2.extBut _ _ D.TOi1 (b1.extBut _ _ D.TOz hTO)
    refine wpAny_bind (wpAny_seqItems t2 rfl (wpAny_bind (wpAny_updateSeq_pair t2 fun a3 t3 b3 => ?_)))
    refine wpAny_bind (wpAny_letGo (wpAny_pure (wpAny_bind (wpAny_bind (wpAny_onRaise ?_)))))
    show wpAny _ _ (Builtin.SmallTypes.nextOf (.ref i2) >>= _) _ _ _
    refine wpAny_bind (wpAny_nextOf_list_end hh (((h2.extBut b1.extBut D.i2z).extBut b2.extBut D.i12.symm).extBut b3.extBut D.TOi2.symm)
      (((hl2.extBut b1.extBut D.l2z).extBut b2.extBut D.l2i1).extBut b3.extBut D.l2TO) hy fun a4 e b4 he => ?_)
    obtain ⟨oe, g, c⟩ := he
    have z4 : IsZip a4 z TI TO .ellipsis := b4 _ _ D.i2z.symm (b3.extBut _ _ D.TOz.symm (b2.extBut _ _ D.i1z.symm z1))
    have ne : e ≠ z := fun q => by subst q; rw [z4] at g; cases g; simp at c
    exact wpAny_setField_rec z4 (by simp) fun a5 _ b5 => hE a5 e (fun c o c1 c2 c3 c4 q => b5.extBut _ _ c1 (b4 _ _ c4 (b3.extBut _ _ c2 (b2.extBut _ _ c3 (b1.extBut _ _ c1 q))))) ⟨oe, b5.extBut _ _ ne g, c⟩
theorem zm_next {z TI TO i1 i2 l1 l2 : Addr} {k : Nat} {xs ys : Array Value} {x y a b : Value} {Q : Option Value → Shared → Prop} (D : ZipApart z TI TO i1 i2 l1 l2) (Z : ZM z TI TO i1 i2 l1 l2 k .none a b s.heap)
    (hl1 : s.heap.IsTuple l1 xs) (hl2 : s.heap.IsList l2 ys) (hx : xs[k]? = some x) (hy : ys[k]? = some y)
    (hQ : ∀ h', IsZip h' z TI TO (rawInt s.heap.objs.size) → IsPair h' TO x y → h'.IsTupleIter i1 l1 (k + 1) → h'.IsListIter i2 l2 (k + 1) → IsPair h' s.heap.objs.size x y → h'.objs.size = s.heap.objs.size + 1 →
      (∀ c o, c ≠ z → c ≠ TO → c ≠ i1 → c ≠ i2 → s.heap.get? c = some o → h'.get? c = some o) → Q (some (.ref s.heap.objs.size)) { s with heap := h' }) : wpAny (model prog w) A (pyNext (.ref z)) Q E s := by
  have hT : s.TypeIs (.ref z) "zip" := ⟨_, Z.hz, rfl⟩
  unfold pyNext
  exact wpAny_bind (wpAny_attempt (wpAny_callSpecial?_slot (name := Str.ofString "__next__") hT F.slot_zip_next
    (wpAny_call_entry F.slot_zip_next hT F.entry_zip_next (zm_item D Z hl1 hl2 hx hy fun h' a1 a2 a3 a4 a5 a6 a7 => wpAny_pure (hQ h' a1 a2 a3 a4 a5 a6 a7)) (F.args_zip_next_1 _))))
theorem zm_stop {z TI TO i1 i2 l1 l2 : Addr} {k : Nat} {xs ys : Array Value} {a b : Value} {Q : Option Value → Shared → Prop} (hh : A.handled = none) (D : ZipApart z TI TO i1 i2 l1 l2) (Z : ZM z TI TO i1 i2 l1 l2 k .none a b s.heap)
    (hl1 : s.heap.IsTuple l1 xs) (hl2 : s.heap.IsList l2 ys) (hend : xs[k]? = none ∨ ys[k]? = none)
    (hQ : ∀ h', (∀ c o, c ≠ z → c ≠ TO → c ≠ i1 → c ≠ i2 → s.heap.get? c = some o → h'.get? c = some o) → Q none { s with heap := h' }) : wpAny (model prog w) A (pyNext (.ref z)) Q E s := by
  have hT : s.TypeIs (.ref z) "zip" := ⟨_, Z.hz, rfl⟩
  unfold pyNext
  refine wpAny_bind (wpAny_attempt (wpAny_callSpecial?_slot (name := Str.ofString "__next__") hT F.slot_zip_next
    (wpAny_call_entry F.slot_zip_next hT F.entry_zip_next (zm_end hh D Z hl1 hl2 hend fun h' e hk he => ?_) (F.args_zip_next_1 _))))
  obtain ⟨o, ho, hc⟩ := he
  exact wpAny_bind (wpAny_isInstance (T := "StopIteration") (b := true) ⟨o, ho, hc⟩ isSubtype_stop (wpAny_pure (hQ _ hk)))
end
/-- the tuple at a and the list at b, the items in new pairs -/
def ItzM (K : PySem.W.Frag) (a b : Addr) : It :=
  ⟨fun i H => ∃ (xs ys : List V) (x y : V), SqT K H a xs ∧ SqL K H b ys ∧ xs[i]? = some x ∧ ys[i]? = some y,
    fun i H v H' => ∃ T x y, v = .ref T ∧ H T = none ∧ H' = upd H T (.tup [x, y]) ∧ (∀ xs, SqT K H a xs → xs[i]? = some x) ∧ ∀ ys, SqL K H b ys → ys[i]? = some y,
    fun i H => ∃ xs ys : List V, SqT K H a xs ∧ SqL K H b ys ∧ (xs.length ≤ i ∨ ys.length ≤ i)⟩
theorem mem5 {c z TI TO i1 i2 : Addr} (h : c ∈ [z, TI, TO, i1, i2]) : c = z ∨ c = TI ∨ c = TO ∨ c = i1 ∨ c = i2 := by simpa using h
theorem turn_zm {P : Program} {w : World} {K : PySem.W.Frag} {elts : List Expr} {kk : Nat} {tpos : Pos} {a b z TI TO i1 i2 : Addr} (D : ZipApart z TI TO i1 i2 a b) :
    Turn P w K (.Tuple elts kk tpos) (ItzM K a b) [z, TI, TO, i1, i2] z (fun i h => ∃ x y, ZM z TI TO i1 i2 a b i .none x y h) where
  mem := by simp
  obj := fun i h ⟨x, y, hz, hTI, hTO, ⟨o1, e1, _, d1⟩, ⟨o2, e2, _, d2⟩⟩ c hc => by
    rcases mem5 hc with q | q | q | q | q
    · rw [q]; exact ⟨_, hz, fun v q => nomatch q⟩
    · rw [q]; exact ⟨_, hTI, fun v q => nomatch q⟩
    · rw [q]; exact ⟨_, hTO, fun v q => nomatch q⟩
    · rw [q]; exact ⟨o1, e1, fun v q => by rw [d1] at q; cases q⟩
    · rw [q]; exact ⟨o2, e2, fun v q => by rw [d2] at q; cases q⟩
  keep := fun i h h' ⟨x, y, hz, hTI, hTO, h1, h2⟩ k =>
    ⟨x, y, k z (by simp) _ hz, k TI (by simp) _ hTI, k TO (by simp) _ hTO, h1.at fun o q => k i1 (by simp) o q, h2.at fun o q => k i2 (by simp) o q⟩
  item := by
    intro X hP hw hK hc i pins s σ H E I hf st hg
    subst hP hw hK
    obtain ⟨x0, y0, Z⟩ := st
    obtain ⟨xs, ys, x, y, hqx, hqy, hx, hy⟩ := hg
    obtain ⟨its, rv, p, _⟩ := I.tuple hqx
    obtain ⟨its2, rv2, p2, _⟩ := I.list hqy
    obtain ⟨u, hu, ru⟩ := rv.get hx
    obtain ⟨u2, hu2, ru2⟩ := rv2.get hy
    have hzl : z < s.heap.objs.size := Heap.lt_size Z.hz
    refine zm_next D Z p p2.isList (x := u) (y := u2) (by simpa using hu) (by simpa using hu2) fun h' z' TO' h1' h2' hT hsz hk => ?_
    refine ⟨_, rfl, wpAny_letOwnedTupleGo_zip (s := { s with heap := h' }) z' fun h'' z'' sb => ?_⟩
    have hT2 : h''.get? s.heap.objs.size = some { cls := .type "tuple", data := .seq #[u, u2] } := (sb.2 _ (Nat.ne_of_gt hzl)).trans hT
    have new : ObjOk X.prog X.w (upd H s.heap.objs.size (.tup [x, y])) h'' s.heap.objs.size (.tup [x, y]) :=
      ⟨by show 2 ≤ sizeLine; decide, [u, u2], .cons ru (.cons ru2 .nil), ⟨_, hT2, rfl, _, rfl⟩⟩
    have I1 : Inv X pins σ (upd H s.heap.objs.size (.tup [x, y])) { s with heap := h'' } :=
      I.turnedNew (t' := s.toks) (ch := [z, TI, TO, i1, i2]) (fun c o hb q => (sb.2 c (fun q' => hb (by simp [q']))).trans (hk c o (fun q' => hb (by simp [q'])) (fun q' => hb (by simp [q'])) (fun q' => hb (by simp [q'])) (fun q' => hb (by simp [q'])) q)) hf (Nat.le_refl _) new
    refine ⟨.ref s.heap.objs.size, _, I1, rfl, ⟨_, x, y, rfl, I.hok.fresh (Nat.le_refl _), rfl, fun l hl => by rw [I.tuple_inj hl hqx]; exact hx, fun l hl => by rw [I.list_inj hl hqy]; exact hy⟩,
      ⟨u, u2, z'', (sb.2 _ D.TIz).trans (hk _ _ D.TIz D.TITO D.TIi1 D.TIi2 Z.hTI), (sb.2 _ D.TOz).trans TO', h1'.at fun o q => (sb.2 _ D.i1z).trans q, h2'.at fun o q => (sb.2 _ D.i2z).trans q⟩, fun c hcm => ?_⟩
    have hlt : c < s.heap.objs.size := by
      obtain ⟨_, e1, _⟩ := Z.h1
      obtain ⟨_, e2, _⟩ := Z.h2
      rcases mem5 hcm with q | q | q | q | q
      · rw [q]; exact hzl
      · rw [q]; exact Heap.lt_size Z.hTI
      · rw [q]; exact Heap.lt_size Z.hTO
      · rw [q]; exact Heap.lt_size e1
      · rw [q]; exact Heap.lt_size e2
    rw [upd_ne (Nat.ne_of_lt hlt)]
    exact (hf c hcm).1
  done := by
    intro X hP hw hK hc i pins s σ H E I hf st hg
    subst hP hw hK
    obtain ⟨x0, y0, Z⟩ := st
    obtain ⟨xs, ys, hqx, hqy, hend⟩ := hg
    obtain ⟨its, rv, p, _⟩ := I.tuple hqx
    obtain ⟨its2, rv2, p2, _⟩ := I.list hqy
    have l1 := rv.length
    have l2 := rv2.length
    have he : its.toArray[i]? = none ∨ its2.toArray[i]? = none := by
      rcases hend with q | q
      · exact .inl (by simp; omega)
      · exact .inr (by simp; omega)
    exact zm_stop (I.ok.hd hc) D Z p p2.isList he fun h' hk => ⟨rfl, I.turnedL (t' := s.toks) (ch := [z, TI, TO, i1, i2]) (fun c o hb q =>
      hk c o (fun q' => hb (by simp [q'])) (fun q' => hb (by simp [q'])) (fun q' => hb (by simp [q'])) (fun q' => hb (by simp [q'])) q) hf⟩
  self := fun A i s Q E ⟨_, _, Z⟩ h => wpAny_pyIter_zip Z.hz h
abbrev zmA (h : Heap) (l1 : Addr) : Heap := h.push { cls := .type "tuple_iterator", data := .fields #[.ref l1, .int 0 0] }
abbrev zmB (h : Heap) (l1 l2 : Addr) : Heap := (zmA h l1).push { cls := .type "list_iterator", data := .fields #[.ref l2, .int 0 0] }
abbrev zmC (h : Heap) (l1 l2 : Addr) : Heap := (zmB h l1 l2).push { cls := .type "tuple", data := .seq #[.ref h.objs.size, .ref (zmA h l1).objs.size] }
abbrev zmD (h : Heap) (l1 l2 : Addr) : Heap := (zmC h l1 l2).push { cls := .type "tuple", data := .seq #[.none, .none] }
abbrev zmE (h : Heap) (l1 l2 : Addr) : Heap := (zmD h l1 l2).push { cls := .type "zip", data := .fields #[.none, .bool false, .bool false, .ref (zmB h l1 l2).objs.size, .ref (zmC h l1 l2).objs.size] }
theorem meets_zm (l1 l2 : Addr) (xs ys : Array Value) : Meets (Builtin.«zip.__new__» ⟨[.type "zip", .ref l1, .ref l2], []⟩) (fun _ R s => s.heap.IsTuple l1 xs ∧ s.heap.IsList l2 ys ∧ R (.ok (.ret (.ref (zmD s.heap l1 l2).objs.size))) { s with heap := zmE s.heap l1 l2 }) :=
  .of_wp fun prog w A R s h => by
    obtain ⟨hp, g, d, tk, os⟩ := s
    obtain ⟨hl1, hl2, h⟩ := h
    have hsub := sub_zip
    have hL1 : Heap.IsTuple (Shared.heap ⟨hp, g, d, tk, os⟩) l1 xs := hl1
    have hL2 : Heap.IsList (Shared.heap ⟨hp.push { cls := .type "tuple_iterator", data := .fields #[.ref l1, .int 0 0] }, g, d, tk, os⟩) l2 ys := Heap.IsList.push hl2 _
    wp_walk using wpAny_pyIter_tuple hL1, wpAny_pyIter_list hL2
    exact ⟨_, rfl, h⟩
theorem call_zm {prog : Program} {w : World} {A : Around} {E : Value → Shared → Prop} {s : Shared} {l1 l2 : Addr} {xs ys : Array Value} {Q : Value → Shared → Prop} (hl1 : s.heap.IsTuple l1 xs) (hl2 : s.heap.IsList l2 ys)
    (h : ∀ h', ZM (s.heap.objs.size + 4) (s.heap.objs.size + 2) (s.heap.objs.size + 3) s.heap.objs.size (s.heap.objs.size + 1) l1 l2 0 .none .none .none h' → (∀ c o, s.heap.get? c = some o → h'.get? c = some o) → Q (.ref (s.heap.objs.size + 4)) { s with heap := h' }) :
    wpAny (model prog w) A (call (.type "zip") [.ref l1, .ref l2]) Q E s := by
  refine callType_new F.called_zip (by decide) (F.typeCall_zip_2 _ _) (F.newCall_zip_2 _ _) (fun obj => F.args_object_init_3 obj _ _) F.entry_zip_new (meets_zm l1 l2 xs ys) ⟨hl1, hl2, ?_⟩
  have z1 : (zmA s.heap l1).objs.size = s.heap.objs.size + 1 := Heap.size_push ..
  have z2 : (zmB s.heap l1 l2).objs.size = s.heap.objs.size + 2 := by rw [Heap.size_push, z1]
  have z3 : (zmC s.heap l1 l2).objs.size = s.heap.objs.size + 3 := by rw [Heap.size_push, z2]
  have z4 : (zmD s.heap l1 l2).objs.size = s.heap.objs.size + 4 := by rw [Heap.size_push, z3]
  have up : ∀ {h : Heap} {o : Obj} {c x}, h.get? c = some x → (h.push o).get? c = some x := fun e => Heap.get?_push_of_some _ e
  have g5 : (zmE s.heap l1 l2).get? (zmD s.heap l1 l2).objs.size = some _ := Heap.get?_push_size _ rfl
  have g4 : (zmE s.heap l1 l2).get? (zmC s.heap l1 l2).objs.size = some _ := up (Heap.get?_push_size _ rfl)
  have g3 : (zmE s.heap l1 l2).get? (zmB s.heap l1 l2).objs.size = some _ := up (up (Heap.get?_push_size _ rfl))
  have g2 : (zmE s.heap l1 l2).get? (zmA s.heap l1).objs.size = some _ := up (up (up (Heap.get?_push_size _ rfl)))
  have g1 : (zmE s.heap l1 l2).get? s.heap.objs.size = some _ := up (up (up (up (Heap.get?_push_size _ rfl))))
  show _ ∧ _
  rw [z2, z3, z4] at g5
  rw [z1, z2] at g3
  rw [z3] at g4
  rw [z1] at g2
  rw [z4]
  exact ⟨⟨_, g5, rfl⟩, h _ ⟨g5, g3, g4, ⟨_, g1, rfl, rfl⟩, ⟨_, g2, rfl, rfl⟩⟩ fun c o x => up (up (up (up (up x))))⟩
def iZipB (K : PySem.W.Frag) (ta : TA) : TI := fun σ H R => ta σ H fun vs H1 => ∃ a b xs ys, vs = [.ref a, .ref b] ∧ ((SqL K H1 a xs ∧ SqL K H1 b ys ∧ R (Itz K a b) H1) ∨ (SqT K H1 a xs ∧ SqT K H1 b ys ∧ R (RZ.ItzT K a b) H1) ∨ (SqT K H1 a xs ∧ SqL K H1 b ys ∧ R (ItzM K a b) H1))
theorem pi_zipB {X : Cx} {e e2 : Expr} {ta : TA} {p pos tpos : Pos} {elts : List Expr} {kk : Nat} (hg : Gl X "zip") (hm : X.mg "zip" = none) (ha : PA X [e, e2] ta)
    (hs : starEach [e, e2] X.env = (false, eval e X.env) :: starEach [e2] X.env := by rfl) (hpl : (backTo pos (starEach [e2] X.env)).any (·.1) = false := by rfl) :
    PI X (.Tuple elts kk tpos) (.Call (.Name "zip" p) [e, e2] [] pos) (iZipB X.K ta) := by
  refine ⟨fun pins s σ H R I h => ?_⟩
  refine Call_ (ld_blt I hg hm PyProof.Rows.boot_zip (PyProof.Rows.callWith_type1 (thn (ha.run pos pins s σ H _ I h) fun us s1 ⟨vs, H1, I1, r1, q1⟩ => ?_) hs hpl))
  obtain ⟨a, b, xs, ys, ex, q1⟩ := q1
  subst ex
  cases r1 with
  | cons r rr =>
    cases rr with
    | cons r' rr =>
      cases rr
      cases r
      cases r'
      have fresh5 : ∀ c, c ∈ [s1.heap.objs.size + 4, s1.heap.objs.size + 2, s1.heap.objs.size + 3, s1.heap.objs.size, s1.heap.objs.size + 1] → FpOk X pins H1 c := fun c hcm => by
        have hle : s1.heap.objs.size ≤ c := by rcases mem5 hcm with z | z | z | z | z <;> rw [z] <;> first | exact Nat.le_refl _ | exact Nat.le_add_right _ _
        exact I1.fpOk hle (I1.hok.fresh hle)
      rcases q1 with ⟨hqx, hqy, q⟩ | ⟨hqx, hqy, q⟩ | ⟨hqx, hqy, q⟩
      · obtain ⟨its, rv, p1, _⟩ := I1.list hqx
        obtain ⟨its2, rv2, p2, _⟩ := I1.list hqy
        refine call_zip_2 p1.isList p2.isList fun h' hz hTI hTO h1 h2 hsz hk => wpAny_pyIter_zip hz ?_
        exact ⟨_, _, _, _, H1, rfl, I1.kept (t' := s1.toks) hk, turn_zip (PySem.W.ktu_apart s1.heap.objs.size a b p1.lt p2.lt), ⟨hz, hTI, ⟨_, _, hTO⟩, h1, h2⟩, fresh5, q⟩
      · obtain ⟨its, rv, p1, _⟩ := I1.tuple hqx
        obtain ⟨its2, rv2, p2, _⟩ := I1.tuple hqy
        obtain ⟨o1, ho1, _⟩ := id p1
        obtain ⟨o2, ho2, _⟩ := id p2
        refine RZ.call_zipT (show s1.heap.IsTuple a its.toArray from p1) (show s1.heap.IsTuple b its2.toArray from p2) fun h' hz hTI hTO h1 h2 hsz hk => wpAny_pyIter_zip hz ?_
        exact ⟨_, _, _, _, H1, rfl, I1.kept (t' := s1.toks) hk, RZ.turn_zipT (PySem.W.ktu_apart s1.heap.objs.size a b (Heap.lt_size ho1) (Heap.lt_size ho2)), ⟨hz, hTI, ⟨_, _, hTO⟩, h1, h2⟩, fresh5, q⟩
      · obtain ⟨its, rv, p1, _⟩ := I1.tuple hqx
        obtain ⟨its2, rv2, p2, _⟩ := I1.list hqy
        obtain ⟨o1, ho1, _⟩ := id p1
        refine call_zm (show s1.heap.IsTuple a its.toArray from p1) p2.isList fun h' Z hk => wpAny_pyIter_zip Z.hz ?_
        exact ⟨_, _, _, _, H1, rfl, I1.kept (t' := s1.toks) hk, turn_zm (PySem.W.ktu_apart s1.heap.objs.size a b (Heap.lt_size ho1) p2.lt), ⟨_, _, Z⟩, fresh5, q⟩
end Pi

/-! PiIter: what a for or a comprehension walks. -/
namespace Pi
open PySem L2 PyProof.Rows
variable [WD]
omit [WD] in
theorem numbered_get : ∀ (n : Nat) (xs : List D) (i : Nat), (numbered n xs)[i]? = (xs[i]?).map fun x => .tup [.int (n + i : Nat), x]
  | n, [], i => by simp [numbered]
  | n, x :: r, 0 => by simp [numbered]
  | n, x :: r, i + 1 => by
    simp only [numbered, List.getElem?_cons_succ]
    rw [numbered_get (n + 1) r i]
    rw [show n + 1 + i = n + (i + 1) by omega]
omit [WD] in
theorem numbered_len : ∀ (n : Nat) (xs : List D), (numbered n xs).length = xs.length
  | n, [] => rfl
  | n, x :: r => by simp only [numbered, List.length_cons]; rw [numbered_len]
omit [WD] in
theorem zipped_get : ∀ (xs ys : List D) (i : Nat) (d : D), (zipped xs ys)[i]? = some d → ∃ x y, xs[i]? = some x ∧ ys[i]? = some y ∧ d = .tup [x, y]
  | [], ys, i, d, h => by simp [zipped] at h
  | x :: xs, [], i, d, h => by simp [zipped] at h
  | x :: xs, y :: ys, 0, d, h => by
    refine ⟨x, y, rfl, rfl, ?_⟩
    have h' : some (D.tup [x, y]) = some d := h
    injection h' with h'
    exact h'.symm
  | x :: xs, y :: ys, i + 1, d, h => zipped_get xs ys i d h
omit [WD] in
theorem zipped_len : ∀ (xs ys : List D), (zipped xs ys).length = min xs.length ys.length
  | [], ys => by simp [zipped]
  | x :: xs, [] => by simp [zipped]
  | x :: xs, y :: ys => by simp [zipped]
omit [WD] in
theorem intsF_len (lo : Int) (n : Nat) : (intsF lo n).length = n := by simp [intsF]
omit [WD] in
theorem intsF_get {lo : Int} {n i : Nat} {d : D} (h : (intsF lo n)[i]? = some d) : i < n ∧ d = .int (lo + (i : Nat)) := by
  unfold intsF at h
  rw [List.getElem?_map] at h
  by_cases hi : i < n
  · rw [List.getElem?_range hi] at h
    simp only [Option.map_some, Option.some.injEq] at h
    exact ⟨hi, h.symm⟩
  · rw [List.getElem?_eq_none (by simpa using hi)] at h
    cases h
section
variable {K : PySem.W.Frag} {mg : Str → Option Value}
theorem jok_tup {H0 : Hp} {a : Addr} {vs : List V} {ds : List D} (h : SqT K H0 a vs) (r : Rps K mg H0 vs ds) : JOk K mg (Itt K a) H0 ⟨ds, fun _ => True⟩ where
  go i S H hi t sr _ := by
    have hv : i < vs.length := by rw [r.len]; exact hi
    exact ⟨vs, vs[i], t.1 _ _ h, List.getElem?_eq_getElem hv⟩
  yld i S H x H' d hd t sr _ hy := by
    obtain ⟨e, hx⟩ := hy
    subst e
    obtain ⟨v, hv, rv⟩ := r.get hd
    have q := hx vs (t.1 _ _ h)
    rw [hv] at q
    injection q with q
    subst q
    exact ⟨Ev.refl, sr, rv.mono t⟩
  stop i S H hi hj t sr _ := ⟨vs, t.1 _ _ h, by rw [r.len]; exact hi⟩
theorem jok_fls {H0 : Hp} {a : Addr} {vs : List V} {ds : List D} (h : SqF K H0 a vs) (r : Rps K mg H0 vs ds) : JOk K mg (Itl K a) H0 ⟨ds, fun _ => True⟩ where
  go i S H hi t sr _ := by
    have hv : i < vs.length := by rw [r.len]; exact hi
    exact ⟨vs, vs[i], (t.2.1 _ _ h).1, List.getElem?_eq_getElem hv⟩
  yld i S H x H' d hd t sr _ hy := by
    obtain ⟨e, hx⟩ := hy
    subst e
    obtain ⟨v, hv, rv⟩ := r.get hd
    have q := hx vs (t.2.1 _ _ h).1
    rw [hv] at q
    injection q with q
    subst q
    exact ⟨Ev.refl, sr, rv.mono t⟩
  stop i S H hi hj t sr _ := ⟨vs, (t.2.1 _ _ h).1, by rw [r.len]; exact hi⟩
theorem jok_lst {H0 : Hp} {a : Addr} {ds : List D} : JOk K mg (Itl K a) H0 ⟨ds, fun S' => IsL S' a ds⟩ where
  go i S H hi t sr ok := by
    obtain ⟨vs, h, r⟩ := sr.isL ok
    have hv : i < vs.length := by rw [r.len]; exact hi
    exact ⟨vs, vs[i], .of h, List.getElem?_eq_getElem hv⟩
  yld i S H x H' d hd t sr ok hy := by
    obtain ⟨e, hx⟩ := hy
    subst e
    obtain ⟨vs, h, r⟩ := sr.isL ok
    obtain ⟨v, hv, rv⟩ := r.get hd
    have q := hx vs (.of h)
    rw [hv] at q
    injection q with q
    subst q
    exact ⟨Ev.refl, sr, rv⟩
  stop i S H hi hj t sr ok := by
    obtain ⟨vs, h, r⟩ := sr.isL ok
    exact ⟨vs, .of h, by rw [r.len]; exact hi⟩
theorem jok_str {H0 : Hp} {z : Str} : JOk K mg (Its z) H0 ⟨z.cps.toList.map fun c => .str ⟨#[c]⟩, fun _ => True⟩ where
  go i S H hi t sr _ := by
    have q : i < z.cps.size := by simpa using hi
    exact q
  yld i S H x H' d hd t sr _ hy := by
    obtain ⟨e, c, hc, hx⟩ := hy
    subst e hx
    have hd' : (z.cps.toList.map fun c => D.str ⟨#[c]⟩)[i]? = some d := hd
    rw [List.getElem?_map, Array.getElem?_toList, hc] at hd'
    simp only [Option.map_some, Option.some.injEq] at hd'
    subst hd'
    exact ⟨Ev.refl, sr, .str _⟩
  stop i S H hi hj t sr _ := by simpa [Its] using hi
theorem jok_rng {H0 : Hp} {lo : Int} {n : Nat} : JOk K mg (Itr lo n) H0 ⟨intsF lo n, fun _ => True⟩ where
  go i S H hi t sr _ := by
    have hi : i < (intsF lo n).length := hi
    rw [intsF_len] at hi
    exact hi
  yld i S H x H' d hd t sr _ hy := by
    obtain ⟨e, hx⟩ := hy
    subst e hx
    obtain ⟨_, e⟩ := intsF_get hd
    subst e
    exact ⟨Ev.refl, sr, .int _⟩
  stop i S H hi hj t sr _ := by
    have hi : (intsF lo n).length ≤ i := hi
    rw [intsF_len] at hi
    exact hi
theorem pair_new {S : Sto} {H : Hp} {T : Addr} {x y : V} {d e : D} (sr : SR K mg S H) (hT : H T = none) (rx : Rp K mg H x d) (ry : Rp K mg H y e) :
    Ev S H S (upd H T (.tup [x, y])) ∧ SR K mg S (upd H T (.tup [x, y])) ∧ Rp K mg (upd H T (.tup [x, y])) (.ref T) (.tup [d, e]) := by
  obtain ⟨s2, e2⟩ := sr.new (o := .tup [x, y]) hT
  exact ⟨e2, s2, .tup (.of upd_same) (.cons (rx.mono (e2.tk sr)) (.cons (ry.mono (e2.tk sr)) .nil))⟩
theorem jok_enu {H0 : Hp} {a : Addr} {ds : List D} : JOk K mg (Ite K a) H0 ⟨numbered 0 ds, fun S' => IsL S' a ds⟩ where
  go i S H hi t sr ok := by
    obtain ⟨vs, h, r⟩ := sr.isL ok
    have hi : i < (numbered 0 ds).length := hi
    rw [numbered_len] at hi
    have hv : i < vs.length := by rw [r.len]; exact hi
    exact ⟨vs, vs[i], .of h, List.getElem?_eq_getElem hv⟩
  yld i S H x H' d hd t sr ok hy := by
    obtain ⟨T, y, e1, hT, e2, hx⟩ := hy
    subst e1 e2
    obtain ⟨vs, h, r⟩ := sr.isL ok
    have hd' : (numbered 0 ds)[i]? = some d := hd
    rw [numbered_get] at hd'
    obtain ⟨d', hd1, hd2⟩ := Option.map_eq_some_iff.mp hd'
    subst hd2
    obtain ⟨v, hv, rv⟩ := r.get hd1
    have q := hx vs (.of h)
    rw [hv] at q
    injection q with q
    subst q
    rw [Nat.zero_add]
    exact pair_new sr hT (.int _) rv
  stop i S H hi hj t sr ok := by
    obtain ⟨vs, h, r⟩ := sr.isL ok
    have hi : (numbered 0 ds).length ≤ i := hi
    rw [numbered_len] at hi
    exact ⟨vs, .of h, by rw [r.len]; exact hi⟩
theorem jok_enuT {H0 : Hp} {a : Addr} {vs : List V} {ds : List D} (h : SqT K H0 a vs) (r : Rps K mg H0 vs ds) : JOk K mg (ItnT K a) H0 ⟨numbered 0 ds, fun _ => True⟩ where
  go i S H hi t sr _ := by
    have hi : i < (numbered 0 ds).length := hi
    rw [numbered_len] at hi
    have hv : i < vs.length := by rw [r.len]; exact hi
    exact ⟨vs, vs[i], t.1 _ _ h, List.getElem?_eq_getElem hv⟩
  yld i S H x H' d hd t sr _ hy := by
    obtain ⟨T, y, e1, hT, e2, hx⟩ := hy
    subst e1 e2
    have hd' : (numbered 0 ds)[i]? = some d := hd
    rw [numbered_get] at hd'
    obtain ⟨d', hd1, hd2⟩ := Option.map_eq_some_iff.mp hd'
    subst hd2
    obtain ⟨v, hv, rv⟩ := r.get hd1
    have q := hx vs (t.1 _ _ h)
    rw [hv] at q
    injection q with q
    subst q
    rw [Nat.zero_add]
    exact pair_new sr hT (.int _) (rv.mono t)
  stop i S H hi hj t sr _ := by
    have hj : i = (numbered 0 ds).length := hj
    rw [numbered_len] at hj
    exact ⟨vs, t.1 _ _ h, by rw [r.len]; exact hj.symm⟩
theorem jok_zipL {H0 : Hp} {a b : Addr} {ds es : List D} : JOk K mg (Itz K a b) H0 ⟨zipped ds es, fun S' => IsL S' a ds ∧ IsL S' b es⟩ where
  go i S H hi t sr ok := by
    obtain ⟨vs, h, r⟩ := sr.isL ok.1
    obtain ⟨ws, h', r'⟩ := sr.isL ok.2
    have hi : i < (zipped ds es).length := hi
    rw [zipped_len] at hi
    have hv : i < vs.length := by rw [r.len]; omega
    have hw : i < ws.length := by rw [r'.len]; omega
    exact ⟨vs, ws, vs[i], ws[i], .of h, .of h', List.getElem?_eq_getElem hv, List.getElem?_eq_getElem hw⟩
  yld i S H x H' d hd t sr ok hy := by
    obtain ⟨T, y, z, e1, hT, e2, hx, hz⟩ := hy
    subst e1 e2
    obtain ⟨vs, h, r⟩ := sr.isL ok.1
    obtain ⟨ws, h', r'⟩ := sr.isL ok.2
    obtain ⟨d1, d2, g1, g2, e⟩ := zipped_get _ _ _ _ hd
    subst e
    obtain ⟨v, hv, rv⟩ := r.get g1
    obtain ⟨w, hw, rw'⟩ := r'.get g2
    have q := hx vs (.of h)
    rw [hv] at q
    injection q with q
    have q' := hz ws (.of h')
    rw [hw] at q'
    injection q' with q'
    subst q q'
    exact pair_new sr hT rv rw'
  stop i S H hi hj t sr ok := by
    obtain ⟨vs, h, r⟩ := sr.isL ok.1
    obtain ⟨ws, h', r'⟩ := sr.isL ok.2
    have hi : (zipped ds es).length ≤ i := hi
    rw [zipped_len] at hi
    exact ⟨vs, ws, .of h, .of h', by rw [r.len, r'.len]; omega⟩
theorem jok_zipT {H0 : Hp} {a b : Addr} {vs ws : List V} {ds es : List D} (h : SqT K H0 a vs) (r : Rps K mg H0 vs ds) (h' : SqT K H0 b ws) (r' : Rps K mg H0 ws es) : JOk K mg (RZ.ItzT K a b) H0 ⟨zipped ds es, fun _ => True⟩ where
  go i S H hi t sr ok := by
    have hi : i < (zipped ds es).length := hi
    rw [zipped_len] at hi
    have hv : i < vs.length := by rw [r.len]; omega
    have hw : i < ws.length := by rw [r'.len]; omega
    exact ⟨vs, ws, vs[i], ws[i], t.1 _ _ h, t.1 _ _ h', List.getElem?_eq_getElem hv, List.getElem?_eq_getElem hw⟩
  yld i S H x H' d hd t sr ok hy := by
    obtain ⟨T, y, z, e1, hT, e2, hx, hz⟩ := hy
    subst e1 e2
    obtain ⟨d1, d2, g1, g2, e⟩ := zipped_get _ _ _ _ hd
    subst e
    obtain ⟨v, hv, rv⟩ := r.get g1
    obtain ⟨w, hw, rw'⟩ := r'.get g2
    have q := hx vs (t.1 _ _ h)
    rw [hv] at q
    injection q with q
    have q' := hz ws (t.1 _ _ h')
    rw [hw] at q'
    injection q' with q'
    subst q q'
    exact pair_new sr hT (rv.mono t) (rw'.mono t)
  stop i S H hi hj t sr ok := by
    have hi : (zipped ds es).length ≤ i := hi
    rw [zipped_len] at hi
    exact ⟨vs, ws, t.1 _ _ h, t.1 _ _ h', by rw [r.len, r'.len]; omega⟩
theorem jok_zipM {H0 : Hp} {a b : Addr} {vs : List V} {ds es : List D} (h : SqT K H0 a vs) (r : Rps K mg H0 vs ds) : JOk K mg (ItzM K a b) H0 ⟨zipped ds es, fun S => IsL S b es⟩ where
  go i S H hi t sr ok := by
    have hi : i < (zipped ds es).length := hi
    rw [zipped_len] at hi
    obtain ⟨ws, h', r'⟩ := sr.isL ok
    have hv : i < vs.length := by rw [r.len]; omega
    have hw : i < ws.length := by rw [r'.len]; omega
    exact ⟨vs, ws, vs[i], ws[i], t.1 _ _ h, .of h', List.getElem?_eq_getElem hv, List.getElem?_eq_getElem hw⟩
  yld i S H x H' d hd t sr ok hy := by
    obtain ⟨T, y, z, e1, hT, e2, hx, hz⟩ := hy
    subst e1 e2
    obtain ⟨ws, h', r'⟩ := sr.isL ok
    obtain ⟨d1, d2, g1, g2, e⟩ := zipped_get _ _ _ _ hd
    subst e
    obtain ⟨v, hv, rv⟩ := r.get g1
    obtain ⟨w, hw, rw'⟩ := r'.get g2
    have q := hx vs (t.1 _ _ h)
    rw [hv] at q
    injection q with q
    have q' := hz ws (.of h')
    rw [hw] at q'
    injection q' with q'
    subst q q'
    exact pair_new sr hT (rv.mono t) rw'
  stop i S H hi hj t sr ok := by
    have hi : (zipped ds es).length ≤ i := hi
    rw [zipped_len] at hi
    obtain ⟨ws, h', r'⟩ := sr.isL ok
    exact ⟨vs, ws, t.1 _ _ h, .of h', by rw [r.len, r'.len]; omega⟩
end
section
variable {s : SC} {C : CallT} {k : Nat} {X : Cx} {W : WX}
theorem ad_of {a : IE} {x tg : Expr} (h : pE X W C a x) : PI X tg x (tI X.K X.mg W C (.of a)) := by
  refine ⟨fun pins st σ H R I ⟨φ, S, q, E, fr, sr, hw, l, lx⟩ => ?_⟩
  refine thn (h.run pins st σ H (fun v H1 => ∃ d S1, SR X.K X.mg S1 H1 ∧ Ev S H S1 H1 ∧ Rp X.K X.mg H1 v d ∧ srcW d S1 fun s => q s S1) I ⟨φ, S, _, E, fr, sr, hw, fun d S1 v H1 hz e s r => ⟨d, S1, s, e, r, hz⟩, lx⟩) fun u s1 ⟨v, H1, I1, r1, d, S1, s1', e1, rd, hs⟩ => ?_
  unfold srcW at hs
  split at hs
  · cases rd with
    | tup g r =>
      cases r1
      obtain ⟨its, rv, p, hz⟩ := I1.tuple g
      exact wpAny_pyIter_tuple (items := its.toArray) p (pi_one (tk := s1.toks) I1 _ (turn_tuple _ _) ⟨_, Heap.get?_push_size _ rfl, rfl, rfl⟩ (l _ S1 H1 _ hs e1 s1' (jok_tup g r)))
  · cases rd with
    | fls g r =>
      cases r1
      obtain ⟨its, rv, p, hz⟩ := I1.list g.1
      exact wpAny_pyIter_list p.isList (pi_one (tk := s1.toks) I1 _ (turn_list _ _) ⟨_, Heap.get?_push_size _ rfl, rfl, rfl⟩ (l _ S1 H1 _ hs e1 s1' (jok_fls g r)))
  · rename_i z
    cases rd
    obtain ⟨t, e⟩ := r1
    subst e
    have q1 := l _ S1 H1 _ hs e1 s1' jok_str
    cases ha : z.cps.all (· < 128) with
    | false => exact wpAny_pyIter_wide ha (pi_one (tk := s1.toks) I1 _ (turn_str _ z t _ (.inr rfl)) ⟨_, Heap.get?_push_size _ rfl, rfl, rfl⟩ q1)
    | true => exact wpAny_pyIter_ascii ha (pi_one (tk := s1.toks) I1 _ (turn_str _ z t _ (.inl rfl)) ⟨_, Heap.get?_push_size _ rfl, rfl, rfl⟩ q1)
  · cases rd
    cases r1
    obtain ⟨xs, h0, hq⟩ := hs
    obtain ⟨vs, g, r⟩ := s1'.isL h0
    obtain ⟨its, rv, p, hz⟩ := I1.list (.of g)
    exact wpAny_pyIter_list p.isList (pi_one (tk := s1.toks) I1 _ (turn_list _ _) ⟨_, Heap.get?_push_size _ rfl, rfl, rfl⟩ (l _ S1 H1 _ hq e1 s1' jok_lst))
  · exact hs.elim
theorem pi_imp {tg e : Expr} {t t' : TI} (h : PI X tg e t) (i : ∀ σ H Q, t' σ H Q → t σ H Q) : PI X tg e t' := ⟨fun pins s σ H Q I q => h.run pins s σ H Q I (i σ H Q q)⟩
theorem rngW1 {d : D} {q : Src → Prop} (h : rngW [d] q) : ∃ j, d = .int j ∧ Big j ∧ q ⟨intsF 0 j.toNat, fun _ => True⟩ := by
  cases d <;> first | exact ⟨_, rfl, h⟩ | exact False.elim h
theorem rngW2 {d e : D} {q : Src → Prop} (h : rngW [d, e] q) : ∃ i j, d = .int i ∧ e = .int j ∧ (Big i ∧ Big j) ∧ q ⟨intsF i (j - i).toNat, fun _ => True⟩ := by
  cases d <;> cases e <;> first | exact ⟨_, _, rfl, rfl, h⟩ | exact False.elim h
theorem ad_rng1 {a : IE} {x tg : Expr} {p pos : Pos} (A : Amb s C k X) (hg : glB s.sc ("range" : Str) = true) (hf : freeB s ("range" : Str) = true) (ha : pE X W C a x) (hx : notStar x = true) : PI X tg (.Call (.Name "range" p) [x] [] pos) (tI X.K X.mg W C (.rng (.cons a .nil))) := by
  refine pi_imp (pi_range1 (A.gl hg) (A.free _ hf) (pa_cons ha pa_nil (star_not hx)) (star_not hx)) fun σ H R ⟨φ, S, q, E, fr, sr, hw, l, lx⟩ => ?_
  have hw : wE C a φ S (fun d S1 => rngW [d] fun s => q s S1) E := hw
  refine ⟨φ, S, _, E, fr, sr, hw, fun d S1 v H1 hz e1 s1 r => ?_, lx⟩
  obtain ⟨j, e, hb, hq⟩ := rngW1 hz
  subst e
  cases r
  exact ⟨j, rfl, hb.1, hb.2, l _ S1 H1 _ hq e1 s1 jok_rng⟩
theorem ad_rng2 {a b : IE} {x y tg : Expr} {p pos : Pos} (A : Amb s C k X) (hg : glB s.sc ("range" : Str) = true) (hf : freeB s ("range" : Str) = true) (ha : pE X W C a x) (hx : notStar x = true) (hb : pE X W C b y) (hy : notStar y = true) :
    PI X tg (.Call (.Name "range" p) [x, y] [] pos) (tI X.K X.mg W C (.rng (.cons a (.cons b .nil)))) := by
  refine pi_imp (pi_range2 (A.gl hg) (A.free _ hf) (pa_cons ha (pa_cons hb pa_nil (star_not hy)) (star_not hx)) (by rw [star_not hx, star_not hy]; rfl) (star_not hy)) fun σ H R ⟨φ, S, q, E, fr, sr, hw, l, lx⟩ => ?_
  have hw : wE C a φ S (fun d S1 => wE C b φ S1 (fun e S2 => rngW [d, e] fun s => q s S2) E) E := hw
  refine ⟨φ, S, _, E, fr, sr, hw, fun d S1 v H1 hz e1 s1 r => ⟨φ, S1, _, E, fr.mono (e1.tk sr), s1, hz, fun e S2 v2 H2 hz2 e2 s2 r2 => ?_, lx.after e1⟩, lx⟩
  obtain ⟨i, j, g1, g2, hb, hq⟩ := rngW2 hz2
  subst g1 g2
  cases r
  cases r2
  exact ⟨i, j, rfl, ⟨hb.1.1, hb.1.2, hb.2.1, hb.2.2⟩, l _ S2 H2 _ hq (e1.trans e2) s2 jok_rng⟩
theorem ad_enu {a : IE} {x : Expr} {p pos tpos : Pos} {elts : List Expr} {kk : Nat} (A : Amb s C k X) (hg : glB s.sc ("enumerate" : Str) = true) (hf : freeB s ("enumerate" : Str) = true) (ha : pE X W C a x) (hx : notStar x = true) :
    PI X (.Tuple elts kk tpos) (.Call (.Name "enumerate" p) [x] [] pos) (tI X.K X.mg W C (.enu a)) := by
  refine pi_imp (pi_enuT (A.gl hg) (A.free _ hf) (pa_cons ha pa_nil (star_not hx)) (star_not hx)) fun σ H R ⟨φ, S, q, E, fr, sr, hw, l, lx⟩ => ?_
  have hw : wE C a φ S (fun d S1 => enuW d S1 fun s => q s S1) E := hw
  refine ⟨φ, S, _, E, fr, sr, hw, fun d S1 v H1 hz e1 s1 r => ?_, lx⟩
  dsimp only at hz
  unfold enuW at hz
  split at hz
  · cases r
    obtain ⟨xs, h0, hq⟩ := hz
    obtain ⟨vs, g, r⟩ := s1.isL h0
    exact ⟨_, rfl, .inl ⟨vs, .of g, l _ S1 H1 _ hq e1 s1 jok_enu⟩⟩
  · cases r with
    | tup g r => exact ⟨_, rfl, .inr ⟨_, g, l _ S1 H1 _ hz e1 s1 (jok_enuT g r)⟩⟩
  · exact hz.elim
theorem ad_zip {a b : IE} {x y : Expr} {p pos tpos : Pos} {elts : List Expr} {kk : Nat} (A : Amb s C k X) (hg : glB s.sc ("zip" : Str) = true) (hf : freeB s ("zip" : Str) = true) (ha : pE X W C a x) (hx : notStar x = true) (hb : pE X W C b y) (hy : notStar y = true) :
    PI X (.Tuple elts kk tpos) (.Call (.Name "zip" p) [x, y] [] pos) (tI X.K X.mg W C (.zip a b)) := by
  refine pi_imp (pi_zipB (A.gl hg) (A.free _ hf) (pa_cons ha (pa_cons hb pa_nil (star_not hy)) (star_not hx)) (star_not hx) (by rw [star_not hy]; rfl)) fun σ H R ⟨φ, S, q, E, fr, sr, hw, l, lx⟩ => ?_
  have hw : wE C a φ S (fun d S1 => wE C b φ S1 (fun e S2 => zipW d e S2 fun s => q s S2) E) E := hw
  refine ⟨φ, S, _, E, fr, sr, hw, fun d S1 v H1 hz e1 s1 r => ⟨φ, S1, _, E, fr.mono (e1.tk sr), s1, hz, fun e S2 v2 H2 hz2 e2 s2 r2 => ?_, lx.after e1⟩, lx⟩
  dsimp only at hz2
  unfold zipW at hz2
  split at hz2
  · cases r
    cases r2
    obtain ⟨xs, ys, h0, h1, hq⟩ := hz2
    obtain ⟨vs, g, rv⟩ := s2.isL h0
    obtain ⟨ws, g', rw'⟩ := s2.isL h1
    exact ⟨_, _, vs, ws, rfl, .inl ⟨.of g, .of g', l _ S2 H2 _ hq (e1.trans e2) s2 jok_zipL⟩⟩
  · cases r with
    | tup g r =>
      cases r2 with
      | tup g' r' =>
        have g2 := (e2.tk s1).1 _ _ g
        exact ⟨_, _, _, _, rfl, .inr (.inl ⟨g2, g', l _ S2 H2 _ hz2 (e1.trans e2) s2 (jok_zipT g2 (r.mono (e2.tk s1)) g' r')⟩)⟩
  · cases r with
    | tup g r =>
      cases r2
      obtain ⟨ys, h1, hq⟩ := hz2
      obtain ⟨ws, g', rw'⟩ := s2.isL h1
      have g2 := (e2.tk s1).1 _ _ g
      exact ⟨_, _, _, ws, rfl, .inr (.inr ⟨g2, .of g', l _ S2 H2 _ hq (e1.trans e2) s2 (jok_zipM g2 (r.mono (e2.tk s1)))⟩)⟩
  · exact hz2.elim
end
end Pi

/-! PiMet: methods of built-ins, dict displays, calls by keywords. -/
namespace Pi
open PySem L2 PyProof.Rows PySem.W
variable [WD]
section
variable {s : SC} {C : CallT} {k : Nat} {X : Cx} {W : WX}
theorem base_of {o : Expr} {nm : Str} {env : Env} {w : Sem Value} (h : baseB o = true) : attributeBase o nm env w = w := by
  unfold baseB at h
  split at h
  · cases h
  · rename_i hn
    unfold attributeBase
    split
    · rename_i id p q
      exact absurd rfl (hn _ _ _)
    · rfl
theorem rcv_ty {m : Mt} {d : D} {v : V} {S : Sto} {H : Hp} (sr : SR X.K X.mg S H) (r : Rp X.K X.mg H v d) (h : rcvW m d S) : tyV X.K m.ty v H := by
  have lst : ∀ {a : Nat}, (∃ xs, IsL S a xs) → tyV X.K "list" (.ref a) H := fun ⟨xs, hx⟩ => let ⟨vs, g, _⟩ := sr.isL hx; .inl ⟨rfl, vs, .of g⟩
  unfold rcvW at h
  split at h
  · cases r; exact rfl
  · exact h.elim
  · rename_i hm
    cases r
    cases m <;> first | exact lst h | exact (hm rfl).elim
  · exact h.elim
theorem starL_len : ∀ (xs : List Expr) (env : Env), (starEach xs env).length = xs.length
  | [], env => rfl
  | x :: xs, env => by
    have := starL_len xs env
    cases x <;> simp only [starEach, List.length_cons, this]
theorem ad_met {m : Mt} {a : IE} {es : IEs} {x : Expr} {xs : List Expr} {p q : Pos} (A : Amb s C k X) (ha : pE X W C a x) (h : All X W C es xs) (hb : baseB x = true) (hl : (p.endLine == q.line) = true) (hn : xs.length < 20) :
    pE X W C (.met m a es) (.Call (.Attribute x m.nm p) xs [] q) := by
  cases h with
  | nil =>
    refine pe_imp (pe_bm0 m.plain m.slot m.typ (mt_P (by have := A.hu; omega) m) ha (base_of hb) hl) fun σ H Q ⟨φ, S, q, E, fr, sr, hw, l, lx⟩ => ?_
    exact ⟨φ, S, _, E, fr, sr, hw, fun d S1 v H1 hz e1 s1 r => ⟨rcv_ty s1 r hz.1, S1, d, [], q, s1, r, .nil, hz.2, l.after e1⟩, lx⟩
  | @cons e r y ys b c d =>
    have pa := (AllS.cons b c d.toS).pa
    have few := (All.cons b c d).few q
    refine pe_imp (pe_bm m.plain m.slot m.typ (mt_P (by have := A.hu; omega) m) ha pa (base_of hb) ?_ hl (star_not c) (d.plain q)) fun σ H Q ⟨φ, S, q, E, fr, sr, hw, l, lx⟩ => ?_
    · rw [few]
      have z : (y :: ys).length + 0 + 0 < 30 := by omega
      show (true && true && decide ((y :: ys).length + 0 + 0 < 30)) = true
      rw [decide_eq_true z]
      rfl
    · exact ⟨φ, S, _, E, fr, sr, hw, fun d S1 v H1 hz e1 s1 r => ⟨rcv_ty s1 r hz.1, φ, S1, _, E, fr.mono (e1.tk sr), s1, hz.2, fun ds S2 vs H2 hz2 e2 s2 rs => ⟨S2, d, ds, q, s2, r.mono (e2.tk s1), rs, hz2, l.after (e1.trans e2)⟩, lx.after e1⟩, lx⟩
/-! ### dict displays -/
theorem pps_of {pos : Pos} : ∀ {ks : List Str} {keys : List (Option Expr)} {es : IEs} {xs : List Expr}, All X W C es xs → keysB ks keys = true → keys.length = xs.length →
    ∃ trs, PPs X pos keys xs trs ∧ ∀ (σ : L2.St) (H : Hp) (φ : Fr) (S : Sto) (q : KL) (E : XE) (Q : List (V × V) → Hp → Prop), FR X.K X.mg H σ φ → SR X.K X.mg S H → wL C es φ S q E →
      (∀ ds S' vs H', q ds S' → Ev S H S' H' → SR X.K X.mg S' H' → Rps X.K X.mg H' vs ds → Q ((ks.zip vs).map fun p => (.str p.1, p.2)) H') → LX X.K X.mg W S H φ E → tPairs trs σ H Q := by
  intro ks keys es xs h hk hl
  induction h generalizing ks keys with
  | nil =>
    cases keys with
    | cons _ _ => cases hl
    | nil =>
      cases ks with
      | cons _ _ => cases hk
      | nil => exact ⟨[], pps_nil, fun σ H φ S q E Q fr sr hw l lx => l [] S [] H hw Ev.refl sr .nil⟩
  | @cons e r x xs a b c ih =>
    cases keys with
    | nil => cases hl
    | cons key keys =>
      cases ks with
      | nil => cases hk
      | cons kk ks =>
        unfold keysB at hk
        split at hk
        · cases ‹kk :: ks = []›
        · rename_i k' ks' x' n p es' g1 g2
          injection g1 with g1 g1'
          injection g2 with g2 g2'
          subst g1 g1' g2 g2'
          rw [Bool.and_eq_true] at hk
          have e := of_decide_eq_true hk.1
          subst e
          obtain ⟨trs, hp, hq⟩ := ih hk.2 (Nat.succ.inj hl)
          refine ⟨_, pps_cons pe_str a hp, fun σ H φ S q E Q fr sr hw l lx => ?_⟩
          refine ⟨φ, S, _, E, fr, sr, hw, fun d S1 v H1 hz e1 s1 r1 => ?_, lx⟩
          refine hq σ H1 φ S1 _ E _ (fr.mono (e1.tk sr)) s1 hz (fun ds S2 vs H2 hz2 e2 s2 rs => ?_) (lx.after e1)
          exact l _ S2 _ H2 hz2 (e1.trans e2) s2 (.cons (r1.mono (e2.tk s1)) rs)
        · cases hk
theorem keysB_some : ∀ {ks : List Str} {keys : List (Option Expr)}, keysB ks keys = true → keys.all (·.isSome) = true ∧ ks.length = keys.length
  | [], [], _ => ⟨rfl, rfl⟩
  | [], _ :: _, h => by cases h
  | _ :: _, [], h => by cases h
  | k :: ks, x :: keys, h => by
    unfold keysB at h
    split at h
    · cases ‹k :: ks = []›
    · rename_i k' ks' x' n p es' g1 g2
      injection g1 with g1 g1'
      injection g2 with g2 g2'
      subst g1 g1' g2 g2'
      rw [Bool.and_eq_true] at h
      obtain ⟨a, b⟩ := keysB_some h.2
      exact ⟨by rw [List.all_cons, a]; rfl, by rw [List.length_cons, List.length_cons, b]⟩
    · cases h
theorem ad_dis0 {pos : Pos} : pE X W C (.dis [] .nil) (.Dict [] [] pos) :=
  pe_imp pe_dnewK fun σ H Q ⟨φ, S, q, E, fr, sr, hw, l, lx⟩ p hp => by
    obtain ⟨s1, e1⟩ := sr.alloc (o := .dK []) (u := .dct []) hp ⟨[], upd_same, .nil⟩
    exact l _ _ (.ref p) _ (hw.2 p (sr.free hp)) e1 s1 (.ref p)
theorem ad_dis {ks : List Str} {es : IEs} {keys : List (Option Expr)} {xs : List Expr} {pos : Pos} (h : All X W C es xs) (hk : keysB ks keys = true) (hl : keys.length = xs.length) (h0 : 0 < keys.length) (h15 : keys.length ≤ 15) : pE X W C (.dis ks es) (.Dict keys xs pos) := by
  obtain ⟨trs, hp, hq⟩ := pps_of (pos := pos) h hk hl
  obtain ⟨hall, hkl⟩ := keysB_some hk
  refine pe_imp (pe_disp hp hall hl (fun e => by rw [e] at h0; cases h0) h15) fun σ H Q ⟨φ, S, q, E, fr, sr, hw, l, lx⟩ => ?_
  intro p hpn
  obtain ⟨s0, e0⟩ := sr.new (o := .dK []) hpn
  refine hq σ _ φ S _ E _ (fr.mono (e0.tk sr)) s0 hw (fun ds S1 vs H1 hz e1 s1 rs => ?_) (lx.after e0)
  obtain ⟨hlen, hqq⟩ := hz
  obtain ⟨hp1, hp2⟩ := e1 p _ upd_same (fun _ z => nomatch z) (sr.free hpn)
  refine ⟨hp1, (ks.zip vs).map fun p => (Sum.inr p.1, p.2), by rw [List.map_map]; rfl, by rw [List.length_map, List.length_zip, hkl]; omega, ?_⟩
  have up : Tk X.K H1 (upd H1 p (.dK (mergeK [] ((ks.zip vs).map fun p => (Sum.inr p.1, p.2))))) := tk_upd (fun xs h => by
    have : Rd H1 p (.tup xs) := h
    rcases this with h | ⟨o, h⟩
    · rw [hp1] at h; cases h
    · rw [hp1] at h; cases h) (fun o xs h => by rw [hp1] at h; cases h) (fun u h f => by rw [hp1] at h; cases h; obtain ⟨_, e⟩ := f.ext; cases e)
  have key : ∀ u : O, SRo X.K X.mg (upd H1 p (.dK (mergeK [] ((ks.zip vs).map fun p => (Sum.inr p.1, p.2))))) p u →
      SR X.K X.mg (put S1 p u) (upd H1 p (.dK (mergeK [] ((ks.zip vs).map fun p => (Sum.inr p.1, p.2))))) := fun u hu a o ho => by
    by_cases ea : a = p
    · subst ea
      rw [put_same] at ho
      injection ho with ho
      subst ho
      exact hu
    · rw [put_ne ea] at ho
      exact (s1 a o ho).mono up (upd_ne ea)
  have s3 := key (.dct (dispK [] ks ds)) ⟨_, upd_same, disp_rel .nil (rs.mono up)⟩
  refine l _ _ _ _ (hqq p hp2) (fun a o ha hn hs => ?_) s3 (.ref p)
  have ea : a ≠ p := fun e => by subst e; rw [hpn] at ha; cases ha
  obtain ⟨g1, g2⟩ := e1 a o (by rw [upd_ne ea]; exact ha) hn hs
  exact ⟨by rw [upd_ne ea]; exact g1, by rw [put_ne ea]; exact g2⟩
/-! ### keywords -/
inductive AllK (X : Cx) (W : WX) (C : CallT) : IEs → List Keyword → Prop
  | nil : AllK X W C .nil []
  | cons {e : IE} {r : IEs} {n : Option Str} {x : Expr} {p : Pos} {xs : List Keyword} : pE X W C e x → AllK X W C r xs → AllK X W C (.cons e r) (⟨n, x, p⟩ :: xs)
theorem pk_imp {e : List Keyword} {t t' : TA} (h : PK X e t) (i : ∀ σ H Q, t' σ H Q → t σ H Q) : PK X e t' := ⟨fun pos pins s σ H Q I q => h.run pos pins s σ H Q I (i σ H Q q)⟩
theorem AllK.pk {es : IEs} {xs : List Keyword} (h : AllK X W C es xs) : PK X xs (tL X.K X.mg W C es) := by
  induction h with
  | nil => exact pk_imp pk_nil fun σ H Q ⟨φ, S, q, E, fr, sr, h, l, lx⟩ => l _ S [] H h Ev.refl sr .nil
  | cons a c ih =>
    exact pk_imp (pk_cons a ih) fun σ H Q ⟨φ, S, q, E, fr, sr, h, l, lx⟩ => ⟨φ, S, _, E, fr, sr, h, fun x S1 vx H1 hx e1 s1 rx => ⟨φ, S1, _, E, fr.mono (e1.tk sr), s1, hx, fun ys S2 vs H2 hy e2 s2 ry =>
      l _ S2 _ H2 hy (e1.trans e2) s2 (.cons (rx.mono (e2.tk s1)) ry), lx.after e1⟩, lx⟩
theorem kwB_facts : ∀ {ks : List Str} {kws : List Keyword} {pos : Pos} {env : Env}, kwB ks kws = true → (backToKw pos (keywordEach kws env)).all (·.1.isSome) = true ∧ (backToKw pos (keywordEach kws env)).filterMap (·.1) = ks ∧ (backToKw pos (keywordEach kws env)).any (·.1.isNone) = false
  | [], [], _, _, _ => ⟨rfl, rfl, rfl⟩
  | [], _ :: _, _, _, h => by cases h
  | _ :: _, [], _, _, h => by cases h
  | k :: ks, ⟨n, e, p⟩ :: kws, pos, env, h => by
    cases n with
    | none => cases h
    | some x =>
      have h' : (decide (k = x) && kwB ks kws) = true := h
      rw [Bool.and_eq_true] at h'
      have ee := of_decide_eq_true h'.1
      subst ee
      obtain ⟨a, b, c⟩ := kwB_facts (pos := pos) (env := env) h'.2
      refine ⟨?_, ?_, ?_⟩
      · show (true && (backToKw pos (keywordEach kws env)).all (·.1.isSome)) = true
        rw [a]; rfl
      · show k :: (backToKw pos (keywordEach kws env)).filterMap (·.1) = k :: ks
        rw [b]
      · show (false || (backToKw pos (keywordEach kws env)).any (·.1.isNone)) = false
        rw [c]; rfl
def arrV (ks : List Str) (vs : List V) (rs : List Str) : List V := rs.map fun r => ((ks.zip vs).lookup r).getD .non
theorem look_rel (r : Str) : ∀ {ks : List Str} {vs : List V} {us : List Value}, Vals vs us → RelV (((ks.zip vs).lookup r).getD .non) (((ks.zip us).lookup r).getD .none)
  | [], _, _, _ => rfl
  | k :: ks, _, _, .nil => rfl
  | k :: ks, _, _, .cons a b => by
    simp only [List.zip_cons_cons, List.lookup_cons]
    cases r == k with
    | true => exact a
    | false => exact look_rel r b
theorem arrV_vals {ks : List Str} {vs : List V} {us : List Value} (h : Vals vs us) : ∀ rs : List Str, Vals (arrV ks vs rs) (rs.map fun r => ((ks.zip us).lookup r).getD .none)
  | [] => .nil
  | r :: rs => .cons (look_rel r h) (arrV_vals h rs)
theorem look_rp {K : PySem.W.Frag} {mg : Str → Option Value} {H : Hp} (r : Str) : ∀ {ks : List Str} {vs : List V} {ds : List D}, Rps K mg H vs ds → Rp K mg H (((ks.zip vs).lookup r).getD .non) (((ks.zip ds).lookup r).getD .non)
  | [], _, _, _ => .non
  | k :: ks, _, _, .nil => .non
  | k :: ks, _, _, .cons a b => by
    simp only [List.zip_cons_cons, List.lookup_cons]
    cases r == k with
    | true => exact a
    | false => exact look_rp r b
theorem arrV_rps {K : PySem.W.Frag} {mg : Str → Option Value} {H : Hp} {ks : List Str} {vs : List V} {ds : List D} (h : Rps K mg H vs ds) : ∀ rs : List Str, Rps K mg H (arrV ks vs rs) (arr ks ds rs)
  | [] => .nil
  | r :: rs => .cons (look_rp r h) (arrV_rps h rs)
theorem vals_app {vs ws : List V} {us zs : List Value} (a : Vals vs us) (b : Vals ws zs) : Vals (vs ++ ws) (us ++ zs) := by
  induction a with
  | nil => exact b
  | cons h _ ih => exact .cons h ih
theorem ad_cak {f : Str} {es : IEs} {ks : List Str} {vs : IEs} {rs : List Str} {xs : List Expr} {kws : List Keyword} {p pos : Pos} (A : Amb s C k X) (tk : Takes X W) (hg : glB s.sc f = true) (hn : okName f = true) (hf : (s.tab.lookup f).isSome = true) (hm : (f, xs.length, ks, rs) ∈ s.kwp)
    (h : All X W C es xs) (hkw : kwB ks kws = true) (hv : AllK X W C vs kws) : pE X W C (.cak f es ks vs rs) (.Call (.Name f p) xs kws pos) := by
  obtain ⟨fd, hfd⟩ := Option.isSome_iff_exists.mp hf
  obtain ⟨fa, fdt, g, kp, _, F, hb⟩ := A.cal f fd hfd
  obtain ⟨b1, b2, b3⟩ := hb _ _ _ hm
  obtain ⟨k1, k2, k3⟩ := kwB_facts (pos := pos) (env := X.env) hkw
  refine ⟨fun pins st σ H Q I ⟨φ, S, q, E, fr, sr, hw, l, lx⟩ => ?_⟩
  refine wpAny_Call_Name_kw (ld_glob I (A.gl hg) g ?_ (okName_ok hn).1)
  have step : ∀ {s1 : Shared} {H1 : Hp} {S1 : Sto} {us : List Value} {ys : List V} {ds : List D}, Inv X pins σ H1 s1 → Ev S H S1 H1 → SR X.K X.mg S1 H1 → Vals ys us → Rps X.K X.mg H1 ys ds →
      wL C vs φ S1 (fun es S2 => es.length = ks.length ∧ C f (ds ++ arr ks es rs) S2 q E) E →
      wpAny (model X.prog X.w) X.A (evalAll ((backToKw pos (keywordEach kws X.env)).map (·.2))) (fun ws s2 => X.K.In s2.heap ∧ wpAny (model X.prog X.w) X.A (call (.ref fa) us (((backToKw pos (keywordEach kws X.env)).filterMap (·.1)).zip ws)) (EP X pins σ Q) X.xe s2) X.xe s1 := by
    intro s1 H1 S1 us ys ds I1 e1 s1' rv r1 hw1
    refine thn (hv.pk.run pos pins s1 σ H1 (fun zs H2 => ∃ es S2, SR X.K X.mg S2 H2 ∧ Ev S1 H1 S2 H2 ∧ Rps X.K X.mg H2 zs es ∧ es.length = ks.length ∧ C f (ds ++ arr ks es rs) S2 q E) I1
      ⟨φ, S1, _, E, fr.mono (e1.tk sr), s1', hw1, fun es S2 zs H2 hz e2 s2 r2 => ⟨es, S2, s2, e2, r2, hz⟩, lx.after e1⟩) fun ws s2 ⟨zs, H2, I2, rz, es, S2, s2', e2, r2, hlen, hc⟩ => ⟨I2.kIn, ?_⟩
    rw [k2]
    have hl := A.cl f fd _ S2 q E hfd hc
    have hlr : (arr ks es rs).length = rs.length := by unfold arr; rw [List.length_map]
    have hd : us.length = xs.length := by
      rw [← rv.length, r1.len]
      rw [List.length_append, hlr] at hl
      omega
    refine A.run tk F hfd (us := us) (kw := ks.zip ws) (bs := us ++ rs.map fun r => ((ks.zip ws).lookup r).getD .none) I2 (fun _ => b3 us ws hd ?_) (vals_app rv (arrV_vals rz rs)) (fr.mono ((e1.trans e2).tk sr)) s2' ((r1.mono (e2.tk s1')).app (arrV_rps r2 rs)) hc (l.after (e1.trans e2)) (lx.after (e1.trans e2))
    rw [← rz.length, r2.len]
    exact hlen
  cases h with
  | nil =>
    refine PySem.W.callWith_KW0 (h₀ := X.base) I.ok.mod.kin kp k1 ?_ (by rw [k3]; rfl)
    exact step I Ev.refl sr .nil .nil hw
  | @cons e r x xs a b c =>
    have pa := (AllS.cons a b c.toS).pa
    refine PySem.W.callWith_KW (h₀ := X.base) I.ok.mod.kin kp k1 (thn (pa.run pos pins st σ H (fun ys H1 => ∃ ds S1, SR X.K X.mg S1 H1 ∧ Ev S H S1 H1 ∧ Rps X.K X.mg H1 ys ds ∧ wL C vs φ S1 (fun es S2 => es.length = ks.length ∧ C f (ds ++ arr ks es rs) S2 q E) E) I
      ⟨φ, S, _, E, fr, sr, hw, fun ds S1 ys H1 hc e1 s1 rs => ⟨ds, S1, s1, e1, rs, hc⟩, lx⟩) fun us s1 ⟨ys, H1, I1, rv, ds, S1, s1', e1, rs, hc⟩ => step I1 e1 s1' rv rs hc) ?_ (star_not b)
    rw [k3, (All.cons a b c).plain pos]
    rfl
/-! ### max with a default -/
theorem maxOf_spec : ∀ (xs : List Int) (x : Int), maxOf x xs ∈ x :: xs ∧ ∀ y ∈ x :: xs, y ≤ maxOf x xs
  | [], x => ⟨List.mem_singleton.mpr rfl, fun y hy => by rw [List.mem_singleton.mp hy]; exact Int.le_refl _⟩
  | z :: zs, x => by
    have e : maxOf x (z :: zs) = maxOf (if x < z then z else x) zs := by
      show List.foldl _ (if DatumOrd.lt x z = true then z else x) zs = _
      have q : (DatumOrd.lt x z = true) = (x < z) := by
        show (decide (x < z) = true) = _
        exact decide_eq_true_eq
      simp only [q]
      rfl
    obtain ⟨h1, h2⟩ := maxOf_spec zs (if x < z then z else x)
    rw [e]
    refine ⟨?_, fun y hy => ?_⟩
    · rcases List.mem_cons.mp h1 with h | h
      · rw [h]
        split
        · exact List.mem_cons_of_mem _ List.mem_cons_self
        · exact List.mem_cons_self
      · exact List.mem_cons_of_mem _ (List.mem_cons_of_mem _ h)
    · have h3 := h2 _ List.mem_cons_self
      have h4 : x ≤ (if x < z then z else x) ∧ z ≤ (if x < z then z else x) := by split <;> omega
      rcases List.mem_cons.mp hy with h | h
      · rw [h]; exact Int.le_trans h4.1 h3
      · rcases List.mem_cons.mp h with h | h
        · rw [h]; exact Int.le_trans h4.2 h3
        · exact h2 y (List.mem_cons_of_mem _ h)
theorem cr_mxd (hc : X.calm = true) (hu : X.A.units + 200 < cLine) : CallRK X (.builtin "max") ["default"] (fun xs zs H Q => ∃ a ns d, xs = [V.ref a] ∧ zs = [d] ∧ SqL X.K H a (ns.map V.int) ∧ (ns = [] → Q d H) ∧ (ns ≠ [] → ∀ m, m ∈ ns → (∀ y, y ∈ ns → y ≤ m) → Q (.int m) H)) := by
  rintro pins st σ H xs zs us ws Q I r rz ⟨a, ns, d, rfl, rfl, hs, h0, h1⟩
  obtain ⟨its, rv, hl, _⟩ := I.list hs
  rw [Vals.ref1 r]
  cases rz with
  | cons rd rn =>
    cases rn
    rename_i u
    have hi := rv.ints
    refine max_list_datum_default (I.ok.hd hc) hl.isList (by simpa using HoldAll.of_ints hi) (by show _ + 1 + 0 < _; omega) (fun e h' tk hk => ⟨d, H, I.kept hk, rd, h0 e⟩) fun y ys i v h' tk e hv hold hk => ?_
    obtain ⟨as, rd'⟩ := hold
    cases rd' with
    | int n t =>
      obtain ⟨g1, g2⟩ := maxOf_spec ys y
      exact ⟨.int _, H, I.kept hk, ⟨t, rfl⟩, h1 (by rw [e]; exact fun z => nomatch z) _ (by rw [e]; exact g1) (by rw [e]; exact g2)⟩
theorem ad_mxd {a d : IE} {x y : Expr} {p q pos : Pos} (A : Amb s C k X) (hg : glB s.sc ("max" : Str) = true) (hf : freeB s ("max" : Str) = true) (ha : pE X W C a x) (hx : notStar x = true) (hd : pE X W C d y) : pE X W C (.mxd a d) (.Call (.Name "max" p) [x] [⟨some "default", y, q⟩] pos) := by
  refine pe_imp (pe_callBK (cr_mxd A.calm A.hu) (A.gl hg) (A.free _ hf) (Bi.boot .max) (pa_cons ha pa_nil (star_not hx)) (pk_cons hd pk_nil) (by decide) (by decide) (by rw [star_not hx]; rfl) (by rw [star_not hx]; rfl)) fun σ H Q ⟨φ, S, q, E, fr, sr, hw, l, lx⟩ => ?_
  have hw : wE C a φ S (fun x S1 => wE C d φ S1 (fun y S2 => mxdW x y S2 q) E) E := hw
  refine ⟨φ, S, _, E, fr, sr, hw, fun z S1 v H1 h1 e1 s1 r1 => ⟨φ, S1, _, E, fr.mono (e1.tk sr), s1, h1, fun z2 S2 v2 H2 h2 e2 s2 r2 => ?_, lx.after e1⟩, lx⟩
  dsimp only at h2
  unfold mxdW at h2
  split at h2
  · cases r1
    obtain ⟨xs, ns, g1, g2, g3, g4⟩ := h2
    obtain ⟨vs, g, rr⟩ := s2.isL g1
    have e := rps_ints g2 rr
    subst e
    have l2 := l.after (e1.trans e2)
    exact ⟨_, ns, v2, rfl, rfl, .of g, fun e => l2.here s2 (g3 e) r2, fun e m hm hmx => l2.here s2 (g4 e m hm hmx) (.int _)⟩
  · exact h2.elim
end
end Pi

/-! PiDad: dicts with keys of any depth, xs[::-1]: from the parts' readings to the whole's. -/
namespace Pi
open PySem L2 PyProof.Rows
variable [WD]
section
variable {s : SC} {C : CallT} {k : Nat} {X : Cx} {W : WX}
theorem ad_idn {a i : IE} {x y : Expr} {pos : Pos} (A : Amb s C k X) (ha : pE X W C a x) (hi : pE X W C i y) (h : notSlice y = true) : pE X W C (.idn a i) (.Subscript x y pos) :=
  pe_imp (pe_ix (ix_n A.wd (by have := A.hu; omega)) ha hi (plain_ix h)) fun σ H Q ⟨φ, S, q, E, fr, sr, hw, l, lx⟩ => tE_two (w := idnW) fr sr hw l lx
theorem Rps.rev {K : PySem.W.Frag} {mg : Str → Option Value} {H : Hp} : ∀ {vs : List V} {ds : List D}, Rps K mg H vs ds → Rps K mg H vs.reverse ds.reverse
  | _, _, .nil => .nil
  | _, _, .cons r t => by rw [List.reverse_cons, List.reverse_cons]; exact (Rps.rev t).app (.cons r .nil)
theorem ad_rev {a : IE} {x : Expr} {kk : Nat} {p1 p2 p3 pos : Pos} (ha : pE X W C a x) : pE X W C (.rev a) (.Subscript x (.Slice none none (some (.UnaryOp .USub (.Constant (.int 1) kk p1) p2)) p3) pos) :=
  pe_imp (pe_revL ha) fun σ H Q ⟨φ, S, q, E, fr, sr, hw, l, lx⟩ => ⟨φ, S, _, E, fr, sr, hw, fun d S1 v H1 hz e1 s1 r => by
    dsimp only at hz
    unfold revW at hz
    split at hz
    · cases r
      obtain ⟨xs, h0, hq⟩ := hz
      obtain ⟨vs, g, rv⟩ := s1.isL h0
      have rr : Rps X.K X.mg H1 vs.reverse xs.reverse := rv.rev
      exact ⟨_, vs, rfl, .of g, (l.after e1).newL s1 hq rr⟩
    · exact hz.elim, lx⟩
theorem rps_rg {K : PySem.W.Frag} {mg : Str → Option Value} {H : Hp} (i j : Int) : Rps K mg H (rgV i j) (intsF i (j - i).toNat) := by
  unfold rgV intsF
  generalize List.range (j - i).toNat = l
  induction l with
  | nil => exact .nil
  | cons x l ih => exact .cons (.int _) ih
theorem ad_rgL {tp : Bool} {i j : Int} {q : KE} {Q : VK} {S : Sto} {H : Hp} (l : Lk X.K X.mg S H q Q) (s : SR X.K X.mg S H) (h : rgnW tp i j S q) : RgOk i j ∧ ∀ p, H p = none → Q (.ref p) (upd H p (if tp = true then .tup (rgV i j) else .lst (rgV i j))) := by
  obtain ⟨ok, h⟩ := h
  refine ⟨ok, ?_⟩
  cases tp with
  | true => exact l.newT s h (rps_rg i j)
  | false => exact l.newL s h (rps_rg i j)
theorem ad_lr1 {tp : Bool} {a : IE} {x : Expr} {p p2 p3 pos : Pos} (A : Amb s C k X) (hg : glB s.sc (if tp = true then ("tuple" : Str) else ("list" : Str)) = true) (hf : freeB s (if tp = true then ("tuple" : Str) else ("list" : Str)) = true) (gr : glB s.sc ("range" : Str) = true) (fr : freeB s ("range" : Str) = true) (ha : pE X W C a x) (hx : notStar x = true) :
    pE X W C (.lr1 tp a) (.Call (.Name (if tp = true then ("tuple" : Str) else ("list" : Str)) p) [.Call (.Name "range" p2) [x] [] p3] [] pos) := by
  have pr := prg_1 (p := p2) (pos := p3) (A.gl gr) (A.free _ fr) ha (star_not hx)
  cases tp with
  | true =>
    refine pe_imp (pe_tupRg A.calm (A.gl hg) (A.free _ hf) pr) fun σ H Q ⟨φ, S, q, E, fr, sr, hw, l, lx⟩ => ⟨φ, S, _, E, fr, sr, hw, fun d S1 v H1 ⟨n, e, hz⟩ e1 s1 r => ?_, lx⟩
    subst e
    cases r
    exact ⟨n, rfl, ad_rgL (l.after e1) s1 hz⟩
  | false =>
    refine pe_imp (pe_listRg A.calm (A.gl hg) (A.free _ hf) pr) fun σ H Q ⟨φ, S, q, E, fr, sr, hw, l, lx⟩ => ⟨φ, S, _, E, fr, sr, hw, fun d S1 v H1 ⟨n, e, hz⟩ e1 s1 r => ?_, lx⟩
    subst e
    cases r
    exact ⟨n, rfl, ad_rgL (l.after e1) s1 hz⟩
theorem ad_lr2 {tp : Bool} {a b : IE} {x y : Expr} {p p2 p3 pos : Pos} (A : Amb s C k X) (hg : glB s.sc (if tp = true then ("tuple" : Str) else ("list" : Str)) = true) (hf : freeB s (if tp = true then ("tuple" : Str) else ("list" : Str)) = true) (gr : glB s.sc ("range" : Str) = true) (fr : freeB s ("range" : Str) = true) (ha : pE X W C a x) (hx : notStar x = true) (hb : pE X W C b y) (hy : notStar y = true) :
    pE X W C (.lr2 tp a b) (.Call (.Name (if tp = true then ("tuple" : Str) else ("list" : Str)) p) [.Call (.Name "range" p2) [x, y] [] p3] [] pos) := by
  have pr := prg_2 (p := p2) (pos := p3) (A.gl gr) (A.free _ fr) ha hb (star_not hx) (star_not hy) (by have e1 := star_not (xs := []) (env := X.env) hy; rw [e1]; rfl)
  cases tp with
  | true => exact pe_imp (pe_tupRg A.calm (A.gl hg) (A.free _ hf) pr) fun σ H Q ⟨φ, S, q, E, fr, sr, hw, l, lx⟩ => ⟨φ, S, _, E, fr, sr, hw, fun d S1 vx H1 hx e1 s1 rx => ⟨φ, S1, _, E, fr.mono (e1.tk sr), s1, hx, fun e S2 vy H2 ⟨i, j, ex, ey, hz⟩ e2 s2 ry => by
      subst ex ey
      cases rx
      cases ry
      exact ⟨i, j, rfl, rfl, ad_rgL (l.after (e1.trans e2)) s2 hz⟩, lx.after e1⟩, lx⟩
  | false => exact pe_imp (pe_listRg A.calm (A.gl hg) (A.free _ hf) pr) fun σ H Q ⟨φ, S, q, E, fr, sr, hw, l, lx⟩ => ⟨φ, S, _, E, fr, sr, hw, fun d S1 vx H1 hx e1 s1 rx => ⟨φ, S1, _, E, fr.mono (e1.tk sr), s1, hx, fun e S2 vy H2 ⟨i, j, ex, ey, hz⟩ e2 s2 ry => by
      subst ex ey
      cases rx
      cases ry
      exact ⟨i, j, rfl, rfl, ad_rgL (l.after (e1.trans e2)) s2 hz⟩, lx.after e1⟩, lx⟩
theorem ad_dnw {pos : Pos} (A : Amb s C k X) : pE X W C .dnw (.Dict [] [] pos) :=
  pe_imp (pe_dnw A.wd) fun σ H Q ⟨φ, S, q, E, fr, sr, hw, l, lx⟩ p hp nf => by
    have hw : ∀ p, S p = none → q (.ref p) (put S p (.dcn [])) := hw
    obtain ⟨s1, e1⟩ := sr.alloc (o := DnO WD.w p []) (u := .dcn []) hp ⟨[], upd_same, nf, .nil, List.nodup_nil⟩
    exact l _ _ (.ref p) _ (hw p (sr.free hp)) e1 s1 (.ref p)
theorem ad_dic {a : IE} {x tg : Expr} (A : Amb s C k X) (ha : pE X W C a x) : PI X tg x (tI X.K X.mg W C (.dic a)) := by
  refine pi_imp (pi_dn A.wd ha) fun σ H R ⟨φ, S, q, E, fr, sr, hw, l, lx⟩ => ?_
  have hw : wE C a φ S (fun d S1 => dicW d S1 fun s => q s S1) E := hw
  refine ⟨φ, S, _, E, fr, sr, hw, fun d S1 v H1 hz e1 s1 r => ?_, lx⟩
  dsimp only at hz
  unfold dicW at hz
  split at hz
  · rename_i b
    cases r
    obtain ⟨kvs, h0, hq⟩ := hz
    obtain ⟨rows, g, nf, rel, nd⟩ := s1 _ _ h0
    have n1 : rows.length = kvs.length := Paired.length rel
    refine ⟨b, rows, rfl, g, l _ S1 H1 _ hq e1 s1 ⟨fun i S2 H2 hi t2 sr2 ok => ?_, fun i S2 H2 y H' dd hd t2 sr2 ok hy => ?_, fun i S2 H2 hi hj t2 sr2 ok => ?_⟩⟩
    · obtain ⟨rows2, g2, _, rel2, _⟩ := sr2 _ _ ok
      have n2 : rows2.length = kvs.length := Paired.length rel2
      have hi : i < (kvs.map (·.1)).length := hi
      rw [List.length_map] at hi
      exact ⟨rows2, g2, by omega, by omega⟩
    · obtain ⟨rfl, hy⟩ := hy
      obtain ⟨rows2, g2, _, rel2, _⟩ := sr2 _ _ ok
      obtain ⟨p, hp, rfl⟩ := hy rows2 g2
      have hd : (kvs.map (·.1))[i]? = some dd := hd
      rw [List.getElem?_map] at hd
      obtain ⟨z, hz, rfl⟩ := Option.map_eq_some_iff.mp hd
      obtain ⟨z', hz', rl⟩ := paired_get rel2 hp
      rw [hz] at hz'
      cases hz'
      exact ⟨Ev.refl, sr2, rl.2.2.1⟩
    · obtain ⟨rows2, g2, _, rel2, _⟩ := sr2 _ _ ok
      have n2 : rows2.length = kvs.length := Paired.length rel2
      have hj : i = (kvs.map (·.1)).length := hj
      rw [List.length_map] at hj
      exact ⟨rows2, g2, by omega, by omega⟩
  · exact hz.elim
theorem ad_gtn {a : IE} {es : IEs} {x : Expr} {xs : List Expr} {p q : Pos} (A : Amb s C k X) (ha : pE X W C a x) (h : All X W C es xs) (hb : baseB x = true) (hl : (p.endLine == q.line) = true) (hn : xs.length < 20) (h0 : 0 < xs.length) :
    pE X W C (.gtn a es) (.Call (.Attribute x "get" p) xs [] q) := by
  cases h with
  | nil => exact absurd h0 (Nat.lt_irrefl _)
  | @cons e r y ys b c d =>
    have pa := (AllS.cons b c d.toS).pa
    have few := (All.cons b c d).few q
    refine ⟨fun pins st σ H Q I ⟨φ, S, qq, E, fr, sr, hw, l, lx⟩ => ?_⟩
    have hw : wE C a φ S (fun x S1 => isDcn x S1 ∧ wL C (.cons e r) φ S1 (fun ds S2 => gtnW x ds S2 qq) E) E := hw
    refine wpAny_Call_method_late (base_of hb) (by
      rw [few]
      have z : (y :: ys).length + 0 + 0 < 30 := by omega
      show (true && true && decide ((y :: ys).length + 0 + 0 < 30)) = true
      rw [decide_eq_true z]
      rfl) hl rfl (thn (ha.run pins st σ H (fun v H1 => ∃ d S1 rows, Rp X.K X.mg H1 v d ∧ SR X.K X.mg S1 H1 ∧ Ev S H S1 H1 ∧ (∃ a, v = .ref a ∧ H1 a = some (DnO WD.w a rows)) ∧ wL C (.cons e r) φ S1 (fun ds S2 => gtnW d ds S2 qq) E) I ?_) fun v s1 ⟨x', H1, I1, r1, dd, S1, rows, rd, s1', e1, ⟨a', ev, g⟩, hz⟩ => ?_)
    · refine ⟨φ, S, _, E, fr, sr, hw, fun d S1 v H1 ⟨⟨a', kvs, ed, h1⟩, hz⟩ e1 s1 r => ?_, lx⟩
      subst ed
      obtain ⟨rows, g, _⟩ := s1 _ _ h1
      cases r
      exact ⟨_, S1, rows, .ref _, s1, e1, ⟨_, rfl, g⟩, hz⟩
    · subst ev
      obtain rfl : v = Value.ref a' := r1
      obtain ⟨⟨_, _, zs, _, o, es', g1, g2, g3, _⟩, _⟩ := I1.hok _ _ g
      refine ⟨"dict", "dict.get", PySem.F.plainAttrs_dict, PySem.F.slot_dict_get, PySem.F.type_dict_get, ⟨o, g1, g2.1⟩, fun b eb => ?_, ?_⟩
      · cases eb
        exact ⟨o, g1, g2.2.1⟩
      have hA := pa.run q pins s1 σ H1 (fun vs H2 => ∃ ds S2, SR X.K X.mg S2 H2 ∧ Ev S1 H1 S2 H2 ∧ Rps X.K X.mg H2 vs ds ∧ gtnW dd ds S2 qq) I1 ⟨φ, S1, _, E, fr.mono (e1.tk sr), s1', hz, fun ds S2 vs H2 hz2 e2 s2 rs => ⟨ds, S2, s2, e2, rs, hz2⟩, lx.after e1⟩
      rw [star_not c] at hA ⊢
      refine Calls.callWith_builtin (by show (false || _) = false; rw [Bool.false_or]; exact d.plain q) (Calls.evalArgs_plain ?_)
      exact thn hA fun us s2 ⟨vs, H2, I2, r2, ds, S2, s2', e2, rs, hg⟩ => mt_getn A.wd (by have := A.hu; omega) pins s2 σ H2 (.ref a') vs _ us Q I2 rfl r2 ⟨S2, dd, ds, qq, s2', rd.mono (e2.tk s1'), rs, hg, l.after (e1.trans e2)⟩
end
end Pi

/-! PiDv: a dict's values are walked. -/
namespace Pi
open PySem L2 PyProof.Rows
variable [WD]
/-- the values of the dict at a, of n rows -/
def Itv (w : World) (a : Addr) (n : Nat) : It :=
  ⟨fun i H => ∃ rows, H a = some (DnO w a rows) ∧ rows.length = n ∧ i < n, fun i H x H' => H' = H ∧ ∀ rows, H a = some (DnO w a rows) → ∃ r, rows[i]? = some r ∧ x = r.2.2, fun i H => ∃ rows, H a = some (DnO w a rows) ∧ rows.length = n ∧ n ≤ i⟩
theorem turn_dv {P : Program} {w : World} {K : PySem.W.Frag} {tg : Expr} (hw : w = WD.w) (a it : Addr) (n : Nat) : Turn P w K tg (Itv WD.w a n) [it] it (fun i h => h.IsValIter it a i n n) where
  mem := List.mem_singleton.mpr rfl
  obj := fun i h st b hb => by
    obtain rfl := List.mem_singleton.mp hb
    obtain ⟨o, e, c, d⟩ := st
    exact ⟨o, e, fun v z => by rw [d] at z; cases z⟩
  keep := fun i h h' st k => st.at fun o e => k it (List.mem_singleton.mpr rfl) o e
  item := by
    rintro X rfl rfl rfl hc i pins s σ H E I hf st ⟨rows, g, hn, hi⟩
    obtain ⟨⟨f1, f2, xs, f3, f4⟩, _⟩ := I.hok _ _ g
    have n2 : rows.length = xs.length := Paired.length f3
    obtain ⟨es, raw, sz, el⟩ := dn_raw f4
    obtain ⟨i0, i1, i2, i3, i4, i5⟩ := hf it (List.mem_singleton.mpr rfl)
    have e1 : es.size = n := by omega
    have e2 : xs.length = n := by omega
    rw [e2] at raw
    have hlt : i < es.size := by omega
    refine PySem.wpAny_pyNext_values_item_raw (es := es) (by rw [e1]; exact st) raw hlt fun h' st' sb => ?_
    have I1 : Inv X pins σ H { s with heap := h' } := I.turned (t' := s.toks) (fun b o hb e => (sb.2 b hb).trans e) i0 i1 i3 i4 i5
    obtain ⟨o, e, c, d⟩ := id st'
    have hr : rows[i]? = some rows[i] := List.getElem?_eq_getElem (by omega)
    have same : ∀ {rs : List (NestedKey × V × V)} {p : NestedKey × V × V}, H a = some (DnO WD.w a rs) → rs[i]? = some p → L2.RelV p.2.2 es[i].val := fun {rs p} g' hp => by
      obtain ⟨⟨_, _, ys, q3, q4⟩, _⟩ := I.hok _ _ g'
      obtain ⟨es', raw', sz', el'⟩ := dn_raw q4
      have ee : es' = es := by
        obtain ⟨o1, u1, _, u2⟩ := raw
        obtain ⟨o2, w1, _, w2⟩ := raw'
        rw [u1] at w1
        cases w1
        rw [u2] at w2
        injection w2 with w2
        exact w2.symm
      subst ee
      obtain ⟨y, hy, rel⟩ := paired_get q3 hp
      have ge : es'[i]? = some (NR.ent WD.w y) := by rw [ents_get el', hy]; rfl
      rw [Array.getElem?_eq_getElem hlt] at ge
      injection ge with ge
      rw [ge]
      exact rel.2.2
    refine ⟨es[i].val, rfl, go_of (s := { s with heap := h' }) e c d (by decide) ⟨rows[i].2.2, H, I1, same g hr, ⟨rfl, fun rs g' => ?_⟩, by rw [← e1]; exact (by rw [e1] at st' ⊢; exact st'), fun b hb => (hf b hb).1⟩⟩
    have l2 : rs.length = n := by
      obtain ⟨⟨_, _, ys, q3, q4⟩, _⟩ := I.hok _ _ g'
      obtain ⟨es', raw', sz', el'⟩ := dn_raw q4
      obtain ⟨o1, u1, _, u2⟩ := raw
      obtain ⟨o2, w1, _, w2⟩ := raw'
      rw [u1] at w1
      cases w1
      rw [u2] at w2
      injection w2 with _ w2
      have := Paired.length q3
      omega
    have hp : rs[i]? = some rs[i] := List.getElem?_eq_getElem (by omega)
    exact ⟨_, hp, by rw [← bV_of (same g hr), bV_of (same g' hp)]⟩
  done := by
    rintro X rfl rfl rfl hc i pins s σ H E I hf st ⟨rows, g, hn, hi⟩
    obtain ⟨⟨f1, f2, xs, f3, f4⟩, _⟩ := I.hok _ _ g
    have n2 : rows.length = xs.length := Paired.length f3
    obtain ⟨es, raw, sz, el⟩ := dn_raw f4
    obtain ⟨i0, i1, i2, i3, i4, i5⟩ := hf it (List.mem_singleton.mpr rfl)
    have e1 : es.size = n := by omega
    have e2 : xs.length = n := by omega
    rw [e2] at raw
    exact PySem.wpAny_pyNext_values_end_raw (es := es) (I.ok.hd hc) (by rw [e1]; exact st) raw (by omega) fun h' eb => ⟨rfl, I.turned (t' := s.toks) (fun b o hb e => eb b o hb e) i0 i1 i3 i4 i5⟩
  self := fun _ _ _ _ _ st h => wpAny_pyIter_valiter st h
theorem pi_dv {X : Cx} {tg e : Expr} {te : TE} {apos cpos : Pos} (hw : X.w = WD.w) (he : PE X e te) (hbase : attributeBase e "values" X.env (eval e X.env) = eval e X.env) (hline : (apos.endLine == cpos.line) = true) :
    PI X tg (.Call (.Attribute e "values" apos) [] [] cpos) (fun σ H R => te σ H fun x H1 => ∃ a rows, x = .ref a ∧ H1 a = some (DnO WD.w a rows) ∧ R (Itv WD.w a rows.length) H1) := by
  refine ⟨fun pins s σ H R I h => ?_⟩
  refine wpAny_Call_method (T := "dict") (id := "dict.values") hbase rfl hline PySem.F.plainAttrs_dict PySem.F.slot_dict_values PySem.F.type_dict_values (thn (he.run pins s σ H _ I h) fun u s1 ⟨x, H1, I1, r1, a, rows, ex, g, q⟩ => ?_)
  subst ex
  obtain rfl : u = Value.ref a := r1
  obtain ⟨⟨f1, f2, xs, f3, f4⟩, _⟩ := I1.hok _ _ g
  have n2 : rows.length = xs.length := Paired.length f3
  obtain ⟨es, raw, sz, el⟩ := dn_raw f4
  have e1 : es.size = rows.length := by omega
  rw [← n2] at raw
  obtain ⟨o, g1, g2, g3⟩ := id raw
  refine ⟨raw.typeIs, fun b eb => ⟨o, by cases eb; exact g1, ?_⟩, ?_⟩
  · obtain ⟨⟨_, _, zs, _, o', es', q1, q2, q3, _⟩, _⟩ := I1.hok _ _ g
    rw [g1] at q1
    cases q1
    exact q2.2.1
  have I2 : Inv X pins σ H1 { s1 with heap := s1.heap.push { cls := .type "dict_values", data := .fields #[.ref a] } } := I1.kept (t' := s1.toks) fun b ob q => Heap.get?_push_of_some _ q
  have raw2 : (s1.heap.push { cls := .type "dict_values", data := .fields #[.ref a] }).DictRaw a es rows.length := ⟨o, Heap.get?_push_of_some _ g1, g2, g3⟩
  obtain ⟨s2, hs2⟩ : ∃ s2 : Shared, ({ s1 with heap := s1.heap.push { cls := .type "dict_values", data := .fields #[.ref a] } } : Shared) = s2 := ⟨_, rfl⟩
  have fin : wpAny (model X.prog X.w) X.A (pyIter (.ref s1.heap.objs.size)) (PIE X pins σ tg R) X.xe { s1 with heap := s1.heap.push { cls := .type "dict_values", data := .fields #[.ref a] } } := by
    refine PySem.wpAny_pyIter_values_raw (d := a) ⟨_, Heap.get?_push_size _ rfl, rfl, rfl⟩ raw2 ?_
    rw [hs2] at I2 ⊢
    refine ⟨s2.heap.objs.size, [s2.heap.objs.size], _, _, H1, rfl, I2.kept (t' := s2.toks) fun b o e => Heap.get?_push_of_some _ e, turn_dv hw a _ rows.length, ⟨_, Heap.get?_push_size _ rfl, rfl, by rw [e1]; rfl⟩, fun b hb => ?_, q⟩
    obtain rfl := List.mem_singleton.mp hb
    exact I2.fpOk (Nat.le_refl _) (I2.hok.fresh (Nat.le_refl _))
  show wpAny _ _ (callWith cpos (.builtin "dict.values") [.ref a] [] []) _ X.xe s1
  exact method_meetsIn PySem.F.slot_dict_values PySem.F.entry_dict_values rfl (PySem.evalArgs_none ⟨rfl, raw.typeIs, PySem.F.args_dict_values_1 _, _, meets_dict_values_raw a f1, ⟨⟨es, _, raw⟩, fin⟩⟩)
section
variable {s : SC} {C : CallT} {k : Nat} {X : Cx} {W : WX}
theorem ad_vls {a : IE} {x tg : Expr} {p q : Pos} (A : Amb s C k X) (ha : pE X W C a x) (hb : baseB x = true) (hl : (p.endLine == q.line) = true) : PI X tg (.Call (.Attribute x "values" p) [] [] q) (tI X.K X.mg W C (.vls a)) := by
  refine pi_imp (pi_dv A.wd ha (base_of hb) hl) fun σ H R ⟨φ, S, q, E, fr, sr, hw, l, lx⟩ => ?_
  have hw : wE C a φ S (fun d S1 => vlsW d S1 fun s => q s S1) E := hw
  refine ⟨φ, S, _, E, fr, sr, hw, fun d S1 v H1 hz e1 s1 r => ?_, lx⟩
  dsimp only at hz
  unfold vlsW at hz
  split at hz
  · rename_i b
    cases r
    obtain ⟨kvs, h0, hq⟩ := hz
    obtain ⟨rows, g, nf, rel, nd⟩ := s1 _ _ h0
    have n1 : rows.length = kvs.length := Paired.length rel
    refine ⟨b, rows, rfl, g, l _ S1 H1 _ hq e1 s1 ⟨fun i S2 H2 hi t2 sr2 ok => ?_, fun i S2 H2 y H' dd hd t2 sr2 ok hy => ?_, fun i S2 H2 hi hj t2 sr2 ok => ?_⟩⟩
    · obtain ⟨rows2, g2, _, rel2, _⟩ := sr2 _ _ ok
      have n2 : rows2.length = kvs.length := Paired.length rel2
      have hi : i < (kvs.map (·.2)).length := hi
      rw [List.length_map] at hi
      exact ⟨rows2, g2, by omega, by omega⟩
    · obtain ⟨rfl, hy⟩ := hy
      obtain ⟨rows2, g2, _, rel2, _⟩ := sr2 _ _ ok
      obtain ⟨p, hp, rfl⟩ := hy rows2 g2
      have hd : (kvs.map (·.2))[i]? = some dd := hd
      rw [List.getElem?_map] at hd
      obtain ⟨z, hz, rfl⟩ := Option.map_eq_some_iff.mp hd
      obtain ⟨z', hz', rl⟩ := paired_get rel2 hp
      rw [hz] at hz'
      cases hz'
      exact ⟨Ev.refl, sr2, rl.2.2.2⟩
    · obtain ⟨rows2, g2, _, rel2, _⟩ := sr2 _ _ ok
      have n2 : rows2.length = kvs.length := Paired.length rel2
      have hj : i = (kvs.map (·.2)).length := hj
      rw [List.length_map] at hj
      exact ⟨rows2, g2, by omega, by omega⟩
  · exact hz.elim
end
end Pi

/-! PiComp: targets, list comprehensions. -/
namespace Pi
open PySem L2 PyProof.Rows
variable [WD]
/-! ### targets -/
def setS (σ : L2.St) : List Nat → List V → L2.St
  | i :: is, v :: vs => setS (σ.set i (some v)) is vs
  | _, _ => σ
theorem wipe_get (σ : L2.St) (j : Nat) : ∀ vs : List Nat, (wipe σ vs)[j]? = if j ∈ vs then (σ[j]?).map (fun _ => none) else σ[j]?
  | [] => by simp [wipe]
  | v :: vs => by
    unfold wipe
    by_cases h : v = j
    · subst h
      rw [if_pos List.mem_cons_self]
      by_cases hv : v < (wipe σ vs).length
      · rw [List.getElem?_set_self hv]
        rw [wipe_length] at hv
        rw [List.getElem?_eq_getElem hv]; rfl
      · rw [List.getElem?_eq_none (by rw [List.length_set]; omega)]
        rw [wipe_length] at hv
        rw [List.getElem?_eq_none (by omega)]; rfl
    · rw [List.getElem?_set_ne h, wipe_get σ j vs]
      have e : (j ∈ v :: vs) ↔ j ∈ vs := by
        rw [List.mem_cons]
        exact ⟨fun z => z.resolve_left fun e => h e.symm, .inr⟩
      simp only [e]
theorem wipe_set {σ : L2.St} {i : Nat} {x : Option V} {vs : List Nat} (h : i ∈ vs) : wipe (σ.set i x) vs = wipe σ vs := by
  refine List.ext_getElem? fun j => ?_
  rw [wipe_get, wipe_get]
  by_cases e : i = j
  · subst e
    rw [if_pos h, if_pos h]
    by_cases hi : i < σ.length
    · rw [List.getElem?_set_self hi, List.getElem?_eq_getElem hi]; rfl
    · rw [List.getElem?_eq_none (by rw [List.length_set]; omega), List.getElem?_eq_none (by omega)]
  · rw [List.getElem?_set_ne e]
theorem wipe_setS : ∀ {tg : List Nat} {xs : List V} {σ : L2.St} {vs : List Nat}, (∀ i ∈ tg, i ∈ vs) → wipe (setS σ tg xs) vs = wipe σ vs
  | [], xs, σ, vs, h => by unfold setS; rfl
  | i :: is, [], σ, vs, h => by unfold setS; rfl
  | i :: is, x :: xs, σ, vs, h => by
    have q : wipe (setS (σ.set i (some x)) is xs) vs = wipe σ vs := by
      rw [wipe_setS fun j hj => h j (List.mem_cons_of_mem _ hj), wipe_set (h i List.mem_cons_self)]
    exact q
theorem FR.setS {K : PySem.W.Frag} {mg : Str → Option Value} {H : Hp} : ∀ {tg : List Nat} {xs : List V} {ds : List D} {σ : L2.St} {φ : Fr}, FR K mg H σ φ → Rps K mg H xs ds → FR K mg H (setS σ tg xs) (setF φ tg ds)
  | [], xs, ds, σ, φ, f, r => by simpa [Pi.setS, setF] using f
  | i :: is, [], ds, σ, φ, f, r => by cases r; simpa [Pi.setS, setF] using f
  | i :: is, x :: xs, [], σ, φ, f, r => by cases r
  | i :: is, x :: xs, d :: ds, σ, φ, f, r => by
    cases r with
    | cons r rs =>
      have q := FR.setS (tg := is) (f.set (i := i) r) rs
      exact q
def tGs (tg : List Nat) : TGs := fun vs σ H Q => vs.length = tg.length ∧ Q (setS σ tg vs) H
/-- what a target asks -/
def tG (K : PySem.W.Frag) (mg : Str → Option Value) (tg : List Nat) (tup : Bool) : TG := fun v σ H Q => ∃ d φ S q, FR K mg H σ φ ∧ SR K mg S H ∧ Rp K mg H v d ∧ tgW tg tup d S φ q ∧
  ∀ φ' σ', q φ' → FR K mg H σ' φ' → (∀ vs, (∀ i ∈ tg, i ∈ vs) → wipe σ' vs = wipe σ vs) → Q σ' H
section
variable {s : SC} {C : CallT} {k : Nat} {X : Cx} {W : WX}
theorem pgs_imp {e : List Expr} {t t' : TGs} (h : PGs X e t) (i : ∀ v σ H Q, t' v σ H Q → t v σ H Q) : PGs X e t' := ⟨fun pins s σ H v u Q I r q => h.run pins s σ H v u Q I r (i v σ H Q q)⟩
theorem pg_imp {e : Expr} {t t' : TG} (h : PG X e t) (i : ∀ v σ H Q, t' v σ H Q → t v σ H Q) : PG X e t' := ⟨fun pins s σ H v u Q I r q => h.run pins s σ H v u Q I r (i v σ H Q q)⟩
theorem nameAt_ok (A : Amb s C k X) {i : Nat} {e : Expr} (h : nameAt s i e = true) : ∃ x p, e = .Name x p ∧ X.N[i]? = some x ∧ Loc X.env.scope x ∧ (X.fn x = true ∨ X.env.scope.names.lookup x = some .local) := by
  unfold nameAt at h
  split at h
  · rename_i x p
    simp only [Bool.and_eq_true] at h
    obtain ⟨a, b⟩ := A.st h.1.2
    exact ⟨x, p, rfl, A.ix h.1.1, a, b⟩
  · cases h
theorem namesAt_ok (A : Amb s C k X) : ∀ {tg : List Nat} {es : List Expr}, namesAt s tg es = true → PGs X es (tGs tg) ∧ (assignEach es X.env).length = tg.length ∧ (assignEach es X.env).findIdx? (·.1) = none
  | [], [], _ => ⟨pgs_imp pgs_nil fun vs σ H Q h => by
      obtain ⟨a, b⟩ := h
      exact ⟨List.eq_nil_of_length_eq_zero a, by unfold setS at b; exact b⟩, rfl, rfl⟩
  | [], _ :: _, h => by cases h
  | _ :: _, [], h => by cases h
  | i :: is, e :: es, h => by
    have h' : (nameAt s i e && namesAt s is es) = true := h
    rw [Bool.and_eq_true] at h'
    obtain ⟨x, p, rfl, h1, h2, h3⟩ := nameAt_ok A h'.1
    obtain ⟨a, b, c⟩ := namesAt_ok A h'.2
    refine ⟨pgs_imp (pgs_cons (pg_name (by rw [A.N]; exact A.nd) h1 h2 h3) a) fun vs σ H Q h => ?_, ?_, ?_⟩
    · obtain ⟨l, q⟩ := h
      cases vs with
      | nil => cases l
      | cons v vs => exact ⟨v, vs, rfl, Nat.succ.inj l, q⟩
    · show (assignEach es X.env).length + 1 = is.length + 1
      rw [b]
    · show ((false, assign (.Name x p) X.env) :: assignEach es X.env).findIdx? (·.1) = none
      rw [List.findIdx?_cons, c]
      rfl
theorem pg_tg (A : Amb s C k X) {tg : List Nat} {tup : Bool} {e : Expr} (h : tgB s tg tup e = true) : PG X e (tG X.K X.mg tg tup) := by
  unfold tgB at h
  split at h
  · rename_i ht
    subst ht
    split at h
    · rename_i es n p
      obtain ⟨a, b, c⟩ := namesAt_ok A h
      have pt := pg_tup (pos := p) (k := n) A.calm a b c
      have pl := pg_lst (pos := p) (k := n) A.calm a b c
      refine ⟨fun pins s σ H v u Q I r q0 => ?_⟩
      obtain ⟨d, φ, S, q, fr, sr, rr, hw, l⟩ := q0
      obtain ⟨ds, e, hlen, hq⟩ := hw
      rcases e with e | ⟨a', e, hl⟩
      · subst e
        cases rr with
        | tup g rr => exact pt.run pins s σ H _ u Q I r ⟨_, _, rfl, g, by rw [rr.len, hlen], by rw [rr.len, hlen], l _ _ hq (fr.setS rr) fun vs hv => wipe_setS hv⟩
      · subst e
        cases rr
        obtain ⟨vs, hv, rs⟩ := sr _ _ hl
        exact pl.run pins s σ H _ u Q I r ⟨_, _, rfl, SqL.of hv, by rw [rs.len, hlen], by rw [rs.len, hlen], l _ _ hq (fr.setS rs) fun vs hv => wipe_setS hv⟩
    · cases h
  · rename_i ht
    split at h
    · rename_i i
      obtain ⟨x, p, rfl, h1, h2, h3⟩ := nameAt_ok A h
      refine pg_imp (pg_name (by rw [A.N]; exact A.nd) h1 h2 h3) fun v σ H Q ⟨d, φ, S, q, fr, sr, r, hw, l⟩ => ?_
      unfold tgW at hw
      rw [if_neg ht] at hw
      obtain ⟨j, e, hq⟩ := hw
      cases e
      exact l _ _ hq (fr.set r) fun vs hv => wipe_set (hv _ (by simp))
    · cases h
/-! ### blocks -/
theorem Amb.blk (A : Amb s C k X) {scope : Scope} (hk : scope.kind = .function) (s_ : Shared) (H : Hp) (Cc : Addr) (cl : List (Str × Addr)) (fp : List Addr) : Amb (s.blk scope) C k (X.blk s_ H scope (compEnvC scope cl Cc X.env) fp) :=
  { wd := A.wd, N := A.N, nd := A.nd, sc := by show relS scope X.env.scope = relS scope s.sc; rw [A.sc], kd := hk, calm := A.calm, gu := A.gu, rm := A.rm, rm2 := fun h => (nomatch h), rm3 := A.rm3, lam := fun x h => (nomatch h), err := A.err, fn := fun x h => h, free := A.free, con := A.con, cl := A.cl, cal := A.cal, exc := A.exc }
def W0 : WX := fun _ _ _ _ => False
theorem takes_0 : Takes X W0 := fun u s' ⟨_, _, _, _, _, _, _, _, _, _, _, _, _, _, _, _, w⟩ => w.elim
/-! ### the loop of a comprehension -/
/-- the new list stands at D, no part of the store -/
def LcI (K : PySem.W.Frag) (mg : Str → Option Value) (L : Addr) (S1 : Sto) (H1 Hj : Hp) (P : List D → Sto → Prop) (H : Hp) : Prop :=
  ∃ S acc avs, SR K mg S H ∧ S L = none ∧ H L = some (.lst avs) ∧ Rps K mg H avs acc ∧ Ev S1 H1 S H ∧ Tk K Hj H ∧ P acc S
theorem side_write {K : PySem.W.Frag} {mg : Str → Option Value} {S : Sto} {H : Hp} (sr : SR K mg S H) {p : Addr} {xs ys : List V} (h : S p = none) (hp : H p = some (.lst xs)) : SR K mg S (upd H p (.lst ys)) ∧ Tk K H (upd H p (.lst ys)) := by
  have t : Tk K H (upd H p (.lst ys)) := tk_upd (fun zs z => by rcases z with z | ⟨o, z⟩ <;> (rw [hp] at z; cases z)) (fun ob zs z => by rw [hp] at z; cases z) fun u z f => by rw [hp] at z; cases z; obtain ⟨_, e⟩ := f.ext; cases e
  refine ⟨fun a w e => ?_, t⟩
  have ne : a ≠ p := fun z => by subst z; rw [h] at e; cases e
  exact (sr a w e).mono t (upd_ne ne)
theorem loop_lc {K : PySem.W.Frag} {mg : Str → Option Value} {L : Addr} {J : It} {src : Src} {S1 : Sto} {H1 Hj : Hp} {step : D → List D → Sto → (List D → Sto → Prop) → Prop} {fin : List D → Sto → Prop} {Dn : Hp → Prop} {B : V → Hp → (Hp → Prop) → Prop} {H0 : Hp}
    (jok : JOk K mg J Hj src) (hfin : ∀ H, LcI K mg L S1 H1 Hj fin H → Dn H)
    (hbody : ∀ x d H (N : List D → Sto → Prop), LcI K mg L S1 H1 Hj (fun acc S => step d acc S N) H → Rp K mg H x d → B x H (LcI K mg L S1 H1 Hj N))
    (h0 : LcI K mg L S1 H1 Hj (fun acc S => loopW src.ok step fin src.items acc S) H0) :
    ∃ Wt : Nat → Nat → Hp → Prop, (∃ m, Wt 0 m H0) ∧ ∀ i m H, Wt i m H →
      (J.stop i H ∧ Dn H) ∨ (J.go i H ∧ ∃ Nx : Hp → Prop, (∀ H', Nx H' → ∃ m', m' < m ∧ Wt (i + 1) m' H') ∧ ∀ x H', J.yld i H x H' → B x H' Nx) := by
  refine ⟨fun i m H => i + m = src.items.length ∧ LcI K mg L S1 H1 Hj (fun acc S => loopW src.ok step fin (src.items.drop i) acc S) H, ⟨src.items.length, Nat.zero_add _, by simpa using h0⟩, fun i m H ⟨him, S, acc, avs, sr, hL, hH, ra, ev, tk, hl⟩ => ?_⟩
  cases m with
  | zero =>
    rw [List.drop_eq_nil_of_le (by omega)] at hl
    unfold loopW at hl
    exact .inl ⟨jok.stop i S H (by omega) (by omega) tk sr hl.1, hfin H ⟨S, acc, avs, sr, hL, hH, ra, ev, tk, hl.2⟩⟩
  | succ m =>
    have hi : i < src.items.length := by omega
    rw [List.drop_eq_getElem_cons hi] at hl
    unfold loopW at hl
    refine .inr ⟨jok.go i S H hi tk sr hl.1, LcI K mg L S1 H1 Hj (fun acc S => loopW src.ok step fin (src.items.drop (i + 1)) acc S), fun H' q => ⟨m, Nat.lt_succ_self m, by omega, q⟩, fun x H' hy => ?_⟩
    obtain ⟨e2, s2, rx⟩ := jok.yld i S H x H' _ (List.getElem?_eq_getElem hi) tk sr hl.1 hy
    have t2 := e2.tk sr
    exact hbody x _ H' _ ⟨S, acc, avs, s2, hL, (e2 L _ hH (fun _ z => nomatch z) hL).1, ra.mono t2, ev.trans e2, tk.trans t2, hl.2⟩ rx
/-- what the part behind a store asks -/
theorem lc_app {C : CallT} {K : PySem.W.Frag} {mg : Str → Option Value} {L : Addr} {S1 : Sto} {H1 Hj : Hp} {elt : IE} {S : Sto} {H : Hp} {σ : L2.St} {φ : Fr} {acc : List D} {avs : List V} {N : List D → Sto → Prop} (sr : SR K mg S H) (hL : S L = none) (hH : H L = some (.lst avs)) (ra : Rps K mg H avs acc) (ev : Ev S1 H1 S H) (tk : Tk K Hj H) (hn : H1 L = none)
    (fr : FR K mg H σ φ) (hw : wE C elt φ S (fun y S4 => acc.length < sizeLine ∧ N (acc ++ [y]) S4) XF) :
    tE K mg W0 C elt σ H fun y H4 => ∃ acc, H4 L = some (.lst acc) ∧ acc.length < sizeLine ∧ LcI K mg L S1 H1 Hj N (upd H4 L (.lst (acc ++ [y]))) := by
  refine ⟨φ, S, _, XF, fr, sr, hw, fun y S4 v H4 ⟨hz, hN⟩ e4 s4 ry => ?_, .none⟩
  obtain ⟨g1, g2⟩ := e4 L _ hH (fun _ z => nomatch z) hL
  have t4 := e4.tk sr
  obtain ⟨s5, t5⟩ := side_write (ys := avs ++ [v]) s4 g2 g1
  refine ⟨avs, g1, by rw [ra.len]; exact hz, S4, acc ++ [y], avs ++ [v], s5, g2, upd_same, ((ra.mono t4).mono t5).app (.cons (ry.mono t5) .nil), ?_, (tk.trans t4).trans t5, hN⟩
  have e5 := ev.trans e4
  intro a o ha hn2 hs
  obtain ⟨q1, q2⟩ := e5 a o ha hn2 hs
  have ne : a ≠ L := fun e => by subst e; rw [hn] at ha; cases ha
  exact ⟨by rw [upd_ne ne]; exact q1, q2⟩
/-- the end of the loop: the list becomes the store's -/
theorem lc_fin {K : PySem.W.Frag} {mg : Str → Option Value} {L : Addr} {S S1 : Sto} {H H1 H5 : Hp} {q : KE} {Q : VK} (l : Lk K mg S H q Q) (e1 : Ev S H S1 H1) (hn : H1 L = none) (h : LcI K mg L S1 H1 H1 (fun acc S5 => ∀ p, S5 p = none → q (.ref p) (put S5 p (.lst acc))) H5) : Q (.ref L) H5 := by
  obtain ⟨S5, acc, avs, sr, hL, hH, ra, ev, tk, hq⟩ := h
  refine l _ _ _ _ (hq L hL) (e1.trans fun a o ha hn2 hs => ?_) (fun a o ho => ?_) (.ref L)
  · obtain ⟨q1, q2⟩ := ev a o ha hn2 hs
    have ne : a ≠ L := fun e => by subst e; rw [hn] at ha; cases ha
    exact ⟨q1, by rw [put_ne ne]; exact q2⟩
  · by_cases e : a = L
    · subst e
      rw [put_same] at ho
      injection ho with ho
      subst ho
      exact ⟨avs, hH, ra⟩
    · rw [put_ne e] at ho
      exact sr a o ho
theorem lc_start {K : PySem.W.Frag} {mg : Str → Option Value} {L : Addr} {S1 : Sto} {H1 : Hp} {P : List D → Sto → Prop} (s1 : SR K mg S1 H1) (hn : H1 L = none) (h : P [] S1) : LcI K mg L S1 H1 H1 P (upd H1 L (.lst [])) := by
  obtain ⟨s2, e2⟩ := s1.new (o := .lst []) hn
  exact ⟨S1, [], [], s2, s1.free hn, upd_same, .nil, e2, e2.tk s1, h⟩
theorem foldS_of {i : Expr} (h : notSet i = true) (env : Env) (x : Value) : foldedSetIterable i env x = pure x := by
  cases i <;> first | rfl | cases h
abbrev pI (X : Cx) (W : WX) (C : CallT) (tg : Expr) (e : II) (x : Expr) : Prop := PI X tg x (tI X.K X.mg W C e)
/-- a comprehension's tests -/
def pTs (X : Cx) (C : CallT) (ifs : IEs) (fs : List Expr) : Prop := PTs X fs (tBt X.K X.mg W0 C true ifs)
theorem pts_imp {e : List Expr} {t t' : TT} (h : PTs X e t) (i : ∀ σ H Q, t' σ H Q → t σ H Q) : PTs X e t' := ⟨fun pins s σ H Q I q => h.run pins s σ H Q I (i σ H Q q)⟩
theorem pTs_nil : pTs X C .nil [] := pts_imp pts_nil fun σ H Q ⟨φ, S, q, E, fr, sr, hw, l, lx⟩ => by
  obtain ⟨b, e, hb⟩ := l _ S H hw Ev.refl sr
  cases e
  exact hb
theorem pTs_one {a : IE} {f : Expr} (h : pT X W0 C a f) : pTs X C (.cons a .nil) [f] := pts_one h
theorem lc_goal {it : II} {elt : IE} {own tg : List Nat} {tup : Bool} {ifs : IEs} {K : PySem.W.Frag} {mg : Str → Option Value} (hin : ∀ i ∈ tg, i ∈ own) {σ : L2.St} {H : Hp} {Q : VK} (h : tE K mg W C (.lc elt own tg tup it ifs) σ H Q) :
    tLc (tI K mg W C it) (tG K mg tg tup) (tBt K mg W0 C true ifs) (tE K mg W0 C elt) own σ H Q := by
  obtain ⟨φ, S, q, E, fr, sr, hw, l, lx⟩ := h
  refine ⟨φ, S, _, E, fr, sr, hw, fun src S1 H1 J hq e1 s1 jok L hn => ?_, lx⟩
  have f1 := fr.mono (e1.tk sr)
  refine loop_lc (L := L) (S1 := S1) (H1 := H1) jok (fun H5 h5 => lc_fin l e1 hn h5) (fun x d H2 N h2 rx => ?_) (lc_start s1 hn hq)
  obtain ⟨S2, acc, avs, sr2, hL, hH, ra, ev, tk, hst⟩ := h2
  refine ⟨d, wipeF φ own, S2, _, (f1.mono tk).wipe own, sr2, rx, hst, fun φ' σ' hb f2 hwp => ⟨hwp own hin |>.trans ?_, ?_⟩⟩
  · refine List.ext_getElem? fun j => ?_
    rw [wipe_get, wipe_get]
    split
    · cases σ[j]? <;> rfl
    · rfl
  · refine ⟨φ', S2, _, XF, f2, sr2, hb, fun z S3 H3 ⟨kk, hz, hk⟩ e3 s3 => ⟨kk, hz, ?_⟩, .none⟩
    have t3 := e3.tk sr2
    obtain ⟨g1, g2⟩ := e3 L _ hH (fun _ z => nomatch z) hL
    cases kk with
    | true => exact lc_app s3 g2 g1 (ra.mono t3) (ev.trans e3) (tk.trans t3) hn (f2.mono t3) hk
    | false => exact ⟨S3, acc, avs, s3, g2, g1, ra.mono t3, ev.trans e3, tk.trans t3, hk⟩
theorem lcc_goal {it it1 : II} {elt : IE} {own tg vs tg1 : List Nat} {tup tup1 : Bool} {K : PySem.W.Frag} {mg : Str → Option Value} (hin : ∀ i ∈ tg, i ∈ own) (hin1 : ∀ i ∈ tg1, i ∈ vs) {σ : L2.St} {H : Hp} {Q : VK} (h : tE K mg W C (.lcc elt own tg tup it vs tg1 tup1 it1) σ H Q) :
    tLc2 (tI K mg W C it) (tG K mg tg tup) tYes (tI K mg W0 C it1) (tG K mg tg1 tup1) tYes (tE K mg W0 C elt) own vs σ H Q := by
  obtain ⟨φ, S, q, E, fr, sr, hw, l, lx⟩ := h
  refine ⟨φ, S, _, E, fr, sr, hw, fun src S1 H1 J hq e1 s1 jok L hn => ?_, lx⟩
  have f1 := fr.mono (e1.tk sr)
  have ww : ∀ (τ : L2.St) (ws : List Nat), wipe (wipe τ ws) ws = wipe τ ws := fun τ ws => by
    refine List.ext_getElem? fun j => ?_
    rw [wipe_get, wipe_get]
    split
    · cases τ[j]? <;> rfl
    · rfl
  refine loop_lc (L := L) (S1 := S1) (H1 := H1) jok (fun H5 h5 => lc_fin l e1 hn h5) (fun x d H2 N h2 rx => ?_) (lc_start s1 hn hq)
  obtain ⟨S2, acc, avs, sr2, hL, hH, ra, ev, tk, hst⟩ := h2
  refine ⟨d, wipeF φ own, S2, _, (f1.mono tk).wipe own, sr2, rx, hst, fun φ' σ' hb f2 hwp => ⟨(hwp own hin).trans (ww _ _), ?_⟩⟩
  unfold tYes
  simp only [if_true]
  refine ⟨φ', S2, _, XF, f2, sr2, hb, fun src1 S4 H4 J1 hq1 e4 s4 jok1 => ?_, .none⟩
  have t4 := e4.tk sr2
  obtain ⟨g1, g2⟩ := e4 L _ hH (fun _ z => nomatch z) hL
  have f4 := f2.mono t4
  refine loop_lc (L := L) (S1 := S1) (H1 := H1) jok1 (fun H5 ⟨S5, acc5, avs5, a1, a2, a3, a4, a5, a6, a7⟩ => ⟨S5, acc5, avs5, a1, a2, a3, a4, a5, a5.tk s1, a7⟩) (fun x1 d1 H6 N1 h6 rx1 => ?_) ⟨S4, acc, avs, s4, g2, g1, ra.mono t4, ev.trans e4, .refl, hq1⟩
  obtain ⟨S6, acc6, avs6, sr6, hL6, hH6, ra6, ev6, tk6, hst6⟩ := h6
  refine ⟨d1, wipeF φ' vs, S6, _, (f4.mono tk6).wipe vs, sr6, rx1, hst6, fun φ3 σ3 hb3 f3 hwp3 => ⟨(hwp3 vs hin1).trans (ww _ _), ?_⟩⟩
  exact lc_app sr6 hL6 hH6 ra6 ev6 tk6 hn f3 hb3
end
end Pi

/-! PiDc: dict comprehensions, keys of any depth. -/
namespace Pi
open PySem L2 PyProof.Rows
variable [WD]
/-- the dict at D takes a further key -/
def DcPut (K : PySem.W.Frag) (mg : Str → Option Value) (D : Addr) (y z : V) (H : Hp) (Nx : Hp → Prop) : Prop :=
  ∃ kd dk dz, SRo K mg H D (.dcn kd) ∧ Rp K mg H y dk ∧ Rp K mg H z dz ∧ KyB dk ∧ kd.length < sizeLine ∧ ∀ rows, ¬ FixO (DnO WD.w D rows) → Paired (DnR K mg H) rows (setN kd dk dz) → (rows.map (·.1)).Nodup → Nx (upd H D (DnO WD.w D rows))
def tDcN (K : PySem.W.Frag) (mg : Str → Option Value) (wi : TI) (g : TG) (tt : TT) (tk tv : TE) (vs : List Nat) : TE := fun σ H Q => wi σ H fun J H1 => ∀ D, H1 D = none → ¬ FixO (DnO WD.w D []) → ∃ Wt : Nat → Nat → Hp → Prop, (∃ m, Wt 0 m (upd H1 D (DnO WD.w D []))) ∧ ∀ i m H, Wt i m H →
  (J.stop i H ∧ Q (.ref D) H) ∨ (J.go i H ∧ ∃ Nx : Hp → Prop, (∀ H', Nx H' → ∃ m', m' < m ∧ Wt (i + 1) m' H') ∧ ∀ x H', J.yld i H x H' → g x (wipe σ vs) H' fun σ2 H2 => wipe σ2 vs = wipe σ vs ∧ tt σ2 H2 fun b H3 =>
    if b = true then tk σ2 H3 fun y H4 => tv σ2 H4 fun z H5 => DcPut K mg D y z H5 Nx else Nx H3)
section
variable {X : Cx}
theorem dcPut_ok {pins : List (Addr × Obj)} {σ : L2.St} {H : Hp} {s : Shared} {E : Value → Shared → Prop} {D : Addr} {y z : V} {u r : Value} {Nx : Hp → Prop} (hw : X.w = WD.w) (hu : X.A.units + 65 < cLine) (I : Inv X pins σ H s) (h : DcPut X.K X.mg D y z H Nx) (ry : L2.RelV y u) (rz : L2.RelV z r) :
    wpAny (model X.prog X.w) X.A (dictSet D u r) (fun _ s' => ∃ H', Inv X pins σ H' s' ∧ Nx H') E s := by
  obtain ⟨kd, dk, dz, so, ry', rz', ⟨k, hk, hd⟩, hz, nx⟩ := h
  obtain ⟨rows, xs, g, a1, a2, a3, a4, a5, a6, a7⟩ := dn_rows hw I so
  have n1 : rows.length = kd.length := Paired.length a1
  have n2 : rows.length = xs.length := Paired.length a2
  refine set_n (by omega) (Rp.kok I ry' ry hk hd) a4 a5 (by omega) fun h' nd sb => ?_
  have f : DnF WD.w D (setR rows k y z) h' := ⟨a6, Nat.le_trans (setR_len rows k y z) (by omega), _, set_xs a2 ry rz, by rw [← hw]; exact nd⟩
  obtain ⟨o, _, eo, _⟩ := id nd
  exact ⟨_, I.write (x := D) (e := D) (o := DnO WD.w D (setR rows k y z)) (t' := s.toks + k.draws) (by rw [g]; exact True.intro) (.inl rfl) (fun b ob ne e => (sb.2 b ne).trans e) ⟨o, eo⟩ (dnO_ok f), nx _ (dn_fix f) (set_kd a1 hk hd ry' rz') (setR_nd a3)⟩
/-- the block of a dict comprehension, with what is done behind it -/
theorem dcn_core {pins : List (Addr × Obj)} {s : Shared} {σ : L2.St} {H : Hp} {Q : VK} {kx vx tg iter : Expr} {ifs : List Expr} {scope : Scope} {own : List (Str × Nat)} {pos pos' : Pos} {wi : TI} {g : TG} {tt : TT} {tk tv : TE} {use : Option (Value → Sem Unit)} {Qf : Value → Shared → Prop}
    (hw : X.w = WD.w) (hu : X.A.units + 65 < cLine) (hc : X.calm = true) (hN : X.N.Nodup) (I : Inv X pins σ H s) (hi : PI X tg iter wi) (ok : BlkOk X.N X.env.scope scope own)
    (hg : ∀ (s : Shared) (H : Hp) (Cc : Addr) (cl : List (Str × Addr)) (fp : List Addr), PG (X.blk s H scope (compEnvC scope cl Cc X.env) fp) tg g) (ht : ∀ (s : Shared) (H : Hp) (Cc : Addr) (cl : List (Str × Addr)) (fp : List Addr), PTs (X.blk s H scope (compEnvC scope cl Cc X.env) fp) ifs tt)
    (hk : ∀ (s : Shared) (H : Hp) (Cc : Addr) (cl : List (Str × Addr)) (fp : List Addr), PE (X.blk s H scope (compEnvC scope cl Cc X.env) fp) kx tk)
    (hv : ∀ (s : Shared) (H : Hp) (Cc : Addr) (cl : List (Str × Addr)) (fp : List Addr), PE (X.blk s H scope (compEnvC scope cl Cc X.env) fp) vx tv) (hs : ∀ x, foldedSetIterable iter X.env x = pure x)
    (h : tDcN X.K X.mg wi g tt tk tv (own.map (·.2)) σ H Q)
    (hend : ∀ D Cc s' m H', Inv X pins σ H' s' → Q (.ref D) H' → s'.heap.Ns Cc m → FpOk X pins H' Cc → compPost (model X.prog X.w) X.A X.xe use Qf (.ref D) Cc (.ok .next) s') :
    wpAny (model X.prog X.w) X.A (comprehension (.DictComp kx vx [⟨tg, iter, ifs, 0⟩] scope pos) scope X.env pos' newDict false (eval iter X.env) use) Qf X.xe s := by
  have caught : ∀ y ∈ scope.names, y.2 = .free → ∃ c, X.env.cells.lookup y.1 = some c := fun y hy e => (ok.free y hy e).elim (fun q => I.ok.has _ (.inl q)) fun q => I.ok.has _ (.inr q)
  refine wpAny_comprehension_free (use := use) rfl hs (closure_ok caught) ok.kind (fun y hy e => by rw [ok.uniq y hy, e]) (thn (hi.run pins s σ H _ I h) fun xv s1 hx => thn hx fun itv s2 q2 => ?_)
  obtain ⟨it, fp, tn, J, H2, rfl, I2, T, st2, f2, q⟩ := q2
  refine wpAny_newObj_type (newEnv_comp ?_)
  obtain ⟨D, hD⟩ : ∃ D, s2.heap.objs.size = D := ⟨_, rfl⟩
  rw [hD]
  have mt : DnF WD.w D [] (s2.heap.push { cls := .type "dict", data := .dict #[] }) := by rw [← hD]; exact dn_empty s2.heap I2.big
  have free : H2 D = none := I2.hok.fresh (Nat.le_of_eq hD)
  obtain ⟨Wt, ⟨m0, w0⟩, turn⟩ := q D free (dn_fix mt)
  obtain ⟨s3, hs3⟩ : ∃ s3 : Shared, ({ s2 with heap := s2.heap.push { cls := .type "dict", data := .dict #[] } } : Shared) = s3 := ⟨_, rfl⟩
  obtain ⟨H3, hH3⟩ : ∃ H3, upd H2 D (DnO WD.w D []) = H3 := ⟨_, rfl⟩
  have heap3 : s3.heap = s2.heap.push { cls := .type "dict", data := .dict #[] } := by rw [← hs3]
  have I3 : Inv X pins σ H3 s3 := by
    rw [← hs3, ← hH3]
    exact I2.laid (t' := s2.toks) (fun b o e => Heap.get?_push_of_some _ e) (Nat.le_of_eq hD) (dnO_ok mt)
  have low : ∀ b ∈ fp, b < s2.heap.objs.size := fun b hb => let ⟨o, e, _⟩ := T.obj _ _ st2 b hb; Heap.lt_size e
  have f3 : ∀ b ∈ fp, FpOk X pins H3 b ∧ b < s3.heap.objs.size := fun b hb => by
    have hlt := low b hb
    refine ⟨⟨?_, (f2 b hb).2⟩, by rw [heap3, Heap.size_push]; exact Nat.lt_succ_of_lt hlt⟩
    rw [← hH3, upd_ne (by rw [← hD]; exact Nat.ne_of_lt hlt)]
    exact (f2 b hb).1
  rw [hH3] at w0
  have st3 : tn 0 s3.heap := T.keep _ _ _ st2 fun b _ o e => by rw [heap3]; exact Heap.get?_push_of_some _ e
  have I4 := block_start I3 ok hN f3
  show codeAny _ _ (.compStart (.DictComp kx vx [⟨tg, iter, ifs, 0⟩] scope pos) 0 (.ref it) (.ref D) (compEnvC scope (cellsFrom (({ s2 with heap := s2.heap.push { cls := .type "dict", data := .dict #[] } } : Shared).heap.objs.size + 1) scope.names (cloFrom X.env.cells scope.names [])) ({ s2 with heap := s2.heap.push { cls := .type "dict", data := .dict #[] } } : Shared).heap.objs.size X.env)) (compPost (model X.prog X.w) X.A X.xe use Qf (.ref D) ({ s2 with heap := s2.heap.push { cls := .type "dict", data := .dict #[] } } : Shared).heap.objs.size) { ({ s2 with heap := s2.heap.push { cls := .type "dict", data := .dict #[] } } : Shared) with heap := pushCells (({ s2 with heap := s2.heap.push { cls := .type "dict", data := .dict #[] } } : Shared).heap.push { cls := .type "dict", data := .dict #[] }) scope.names }
  rw [hs3]
  have pg := hg s3 H3 s3.heap.objs.size (cellsFrom (s3.heap.objs.size + 1) scope.names (cloFrom X.env.cells scope.names [])) fp
  have pt := ht s3 H3 s3.heap.objs.size (cellsFrom (s3.heap.objs.size + 1) scope.names (cloFrom X.env.cells scope.names [])) fp
  have pk := hk s3 H3 s3.heap.objs.size (cellsFrom (s3.heap.objs.size + 1) scope.names (cloFrom X.env.cells scope.names [])) fp
  have pv := hv s3 H3 s3.heap.objs.size (cellsFrom (s3.heap.objs.size + 1) scope.names (cloFrom X.env.cells scope.names [])) fp
  generalize hce : compEnvC scope (cellsFrom (s3.heap.objs.size + 1) scope.names (cloFrom X.env.cells scope.names [])) s3.heap.objs.size X.env = ce at I4 pg pt pk pv ⊢
  have cl : ce.locals = s3.heap.objs.size := by rw [← hce]; rfl
  have none3 : ∀ b ∈ fp, H3 b = none := fun b hb => (f3 b hb).1.1
  obtain ⟨s4, hs4⟩ : ∃ s4 : Shared, ({ s3 with heap := pushCells (s3.heap.push { cls := .type "dict", data := .dict #[] }) scope.names } : Shared) = s4 := ⟨_, rfl⟩
  rw [hs4] at I4 ⊢
  have st4 : tn 0 s4.heap := T.keep _ _ _ st3 fun b _ o e => by rw [← hs4]; exact pushCells_keeps _ _ _ _ (Heap.get?_push_of_some _ e)
  have own_ : ∀ {σ' : L2.St} {H' : Hp} {s' : Shared}, Inv (X.blk s3 H3 scope ce fp) [] σ' H' s' → (∀ b ∈ fp, H' b = none) → ∀ b ∈ fp, FpOk (X.blk s3 H3 scope ce fp) [] H' b := fun {σ' H' s'} I' hn b hb =>
    ⟨hn b hb, (I'.ok.exf b hb).1, I'.ok.exfs b hb, .inl hb, fun x c e => (I'.ok.exf b hb).2 x c e, fun p hp => nomatch (show p ∈ ([] : List (Addr × Obj)) from hp)⟩
  have loop : codeAny (model X.prog X.w) X.A (.compLoop (.DictComp kx vx [⟨tg, iter, ifs, 0⟩] scope pos) 0 (.ref it) (.ref D) ce) (compPost (model X.prog X.w) X.A X.xe use Qf (.ref D) s3.heap.objs.size) s4 := by
    refine compLoop_anyD (fun n s' => ∃ i H', Inv (X.blk s3 H3 scope ce fp) [] (wipe σ (own.map (·.2))) H' s' ∧ tn i s'.heap ∧ (∀ b ∈ fp, H' b = none) ∧ Wt i n H') ?_ m0 ⟨0, H3, I4, st4, none3, w0⟩
    rintro n s5 ⟨i, H5, I5, st5, n5, w5⟩
    rcases turn i n H5 w5 with ⟨stop, qq⟩ | ⟨go, Nx, hNx, step⟩
    · refine thnF (T.done (X.blk s3 H3 scope ce fp) rfl rfl rfl hc i [] s5 _ H5 (fun _ _ => False) I5 (own_ I5 n5) st5 stop) fun r s6 ⟨hr, I6⟩ => ?_
      subst hr
      have I7 : Inv X pins σ H5 s6 := I3.call' (ch := fp) I6.os I6.base I6.hok I6.bare fun b hb => let f := (f3 b hb).1; ⟨f.2.2.2.1, f.2.1, f.2.2.2.2.1, f.2.2.2.2.2⟩
      obtain ⟨m, hn, _⟩ := I6.loc
      have hn : s6.heap.Ns ce.locals m := hn
      have nC : H5 ce.locals = none := I6.free
      rw [cl] at hn nC
      exact hend D s3.heap.objs.size s6 m H5 I7 qq hn (I3.fpOk (Nat.le_refl _) nC)
    · refine thnF (T.item (X.blk s3 H3 scope ce fp) rfl rfl rfl hc i [] s5 _ H5 (fun _ _ => False) I5 (own_ I5 n5) st5 go) fun r s6 ⟨u, hr, h6⟩ => ?_
      subst hr
      refine thnF h6 fun _ s7 ⟨x, H7, I7, r7, y7, st7, n7⟩ => ?_
      refine thnF (pg.run _ s7 _ H7 x u _ (I7.pinned (own_ I7 n7) (T.obj _ _ st7)) r7 (step x H7 y7)) fun _ s8 ⟨σ8, H8, I8, hw8, q8⟩ => ?_
      refine thnF (pt.run _ s8 σ8 H8 _ I8 q8) fun b s9 ⟨H9, I9, q9⟩ => ?_
      have fin : ∀ {s' : Shared} {H' : Hp}, Inv (X.blk s3 H3 scope ce fp) ([] ++ pinsAt fp s7.heap) σ8 H' s' → Nx H' → ∃ m, m < n ∧ ∃ i H', Inv (X.blk s3 H3 scope ce fp) [] (wipe σ (own.map (·.2))) H' s' ∧ tn i s'.heap ∧ (∀ b ∈ fp, H' b = none) ∧ Wt i m H' := fun {s' H'} I' nx => by
        obtain ⟨m', hm, w'⟩ := hNx H' nx
        have pin' : ∀ b ∈ fp, ∀ o, s7.heap.get? b = some o → s'.heap.get? b = some o ∧ H' b = none := fun b hb o e =>
          let z := I'.pin (b, o) (List.mem_append_right _ (List.mem_append_right _ (mem_pinsAt hb e)))
          ⟨z.1, z.2.1⟩
        have hl : (wipe σ (own.map (·.2))).length = σ8.length := by rw [← hw8, wipe_length]
        refine ⟨m', hm, i + 1, H', (I'.unpinned (pins := [])).weak hl (fun j v e => ?_), T.keep _ _ _ st7 fun b hb o e => (pin' b hb o e).1, fun b hb => ?_, w'⟩
        · rw [← hw8] at e
          exact (wipe_some e).1
        · obtain ⟨o, e, _⟩ := T.obj _ _ st7 b hb
          exact (pin' b hb o e).2
      cases b with
      | false =>
        rw [if_neg Bool.false_ne_true] at q9 ⊢
        exact fin I9 q9
      | true =>
        rw [if_pos rfl] at q9 ⊢
        refine thnF (pk.run _ s9 σ8 H9 _ I9 q9) fun u1 s10 ⟨yk, H10, I10, r10, q10⟩ => ?_
        refine thnF (pv.run _ s10 σ8 H10 _ I10 q10) fun u2 s11 ⟨yv, H11, I11, r11, put⟩ => ?_
        -- the key's value is still what it was
        exact thnF (dcPut_ok (X := X.blk s3 H3 scope ce fp) hw hu I11 put r10 r11) fun _ s12 ⟨H12, I12, nx⟩ => fin I12 nx
  exact codeAny_compStart_dict loop (T.self X.A 0 _ _ _ st4 loop)
theorem pe_dcn {kx vx tg iter : Expr} {ifs : List Expr} {scope : Scope} {own : List (Str × Nat)} {pos : Pos} {wi : TI} {g : TG} {tt : TT} {tk tv : TE} (hw : X.w = WD.w) (hu : X.A.units + 65 < cLine) (hc : X.calm = true) (hN : X.N.Nodup) (hi : PI X tg iter wi) (ok : BlkOk X.N X.env.scope scope own)
    (hg : ∀ (s : Shared) (H : Hp) (Cc : Addr) (cl : List (Str × Addr)) (fp : List Addr), PG (X.blk s H scope (compEnvC scope cl Cc X.env) fp) tg g) (ht : ∀ (s : Shared) (H : Hp) (Cc : Addr) (cl : List (Str × Addr)) (fp : List Addr), PTs (X.blk s H scope (compEnvC scope cl Cc X.env) fp) ifs tt)
    (hk : ∀ (s : Shared) (H : Hp) (Cc : Addr) (cl : List (Str × Addr)) (fp : List Addr), PE (X.blk s H scope (compEnvC scope cl Cc X.env) fp) kx tk)
    (hv : ∀ (s : Shared) (H : Hp) (Cc : Addr) (cl : List (Str × Addr)) (fp : List Addr), PE (X.blk s H scope (compEnvC scope cl Cc X.env) fp) vx tv) (hs : ∀ x, foldedSetIterable iter X.env x = pure x) :
    PE X (.DictComp kx vx [⟨tg, iter, ifs, 0⟩] scope pos) (tDcN X.K X.mg wi g tt tk tv (own.map (·.2))) := by
  refine ⟨fun pins s σ H Q I h => ?_⟩
  rw [arm_eval_DictComp]
  exact dcn_core hw hu hc hN I hi ok hg ht hk hv hs h fun D Cc s' m H' I' q hn ⟨f0, f1, f2, f3, f4, f5⟩ => ⟨m, hn, fun h'' sb => ⟨.ref D, H', I'.turned (t' := s'.toks) (fun b o hb e => (sb.2 b hb).trans e) f0 f1 f3 f4 f5, rfl, q⟩⟩
/-- name = {..} on one line, the name a local -/
theorem ps_setDcn {i : Nat} {y : Str} {py : Pos} {kx vx tg iter : Expr} {ifs : List Expr} {scope : Scope} {own : List (Str × Nat)} {pos spos : Pos} {wi : TI} {g : TG} {tt : TT} {tk tv : TE} (hw : X.w = WD.w) (hu : X.A.units + 65 < cLine) (hc : X.calm = true) (hN : X.N.Nodup) (hy : X.N[i]? = some y) (hyl : X.env.scope.names.lookup y = some .local)
    (hsw : swapsWith (.DictComp kx vx [⟨tg, iter, ifs, 0⟩] scope pos) (some (.Name y py)) spos.line X.env = pure true) (hi : PI X tg iter wi) (ok : BlkOk X.N X.env.scope scope own)
    (hg : ∀ (s : Shared) (H : Hp) (Cc : Addr) (cl : List (Str × Addr)) (fp : List Addr), PG (X.blk s H scope (compEnvC scope cl Cc X.env) fp) tg g) (ht : ∀ (s : Shared) (H : Hp) (Cc : Addr) (cl : List (Str × Addr)) (fp : List Addr), PTs (X.blk s H scope (compEnvC scope cl Cc X.env) fp) ifs tt)
    (hk : ∀ (s : Shared) (H : Hp) (Cc : Addr) (cl : List (Str × Addr)) (fp : List Addr), PE (X.blk s H scope (compEnvC scope cl Cc X.env) fp) kx tk)
    (hv : ∀ (s : Shared) (H : Hp) (Cc : Addr) (cl : List (Str × Addr)) (fp : List Addr), PE (X.blk s H scope (compEnvC scope cl Cc X.env) fp) vx tv) (hs : ∀ x, foldedSetIterable iter X.env x = pure x) :
    PS X (.Assign [.Name y py] (.DictComp kx vx [⟨tg, iter, ifs, 0⟩] scope pos) spos) (tAsg (tDcN X.K X.mg wi g tt tk tv (own.map (·.2))) (gName i)) := by
  refine ⟨fun pins s σ H Dn I h => ?_⟩
  rw [exec_Assign_Name_used _ _ _ _ hsw]
  refine wpAny_bind (wpAny_standAt (wpAny_bind ?_))
  show wpAny _ X.A (do let _ ← comprehension (.DictComp kx vx [⟨tg, iter, ifs, 0⟩] scope pos) scope X.env (firstIterPos [⟨tg, iter, ifs, 0⟩] pos) newDict false (eval iter X.env) (some (assign (.Name y py) X.env))) _ _ s
  have h : tDcN X.K X.mg wi g tt tk tv (own.map (·.2)) σ H (fun x H1 => gName i x σ H1 Dn.nx) := h
  refine wpAny_bind (thn (dcn_core (Qf := fun _ s' => SP X pins Dn .next s') hw hu hc hN I hi ok hg ht hk hv hs h fun D Cc s' m H' I' q hn f => ?_) fun _ s' hq => wpAny_pure (wpAny_pure hq))
  show wpAny _ _ (assign (.Name y py) X.env (.ref D)) _ _ _
  refine wpAny_assign_Name (store_ok2 (v := V.ref D) I' hN hy (.inl hyl) rfl (fun s2 I2 ⟨a, sb, ha⟩ => ?_) (.inr hyl))
  obtain ⟨f0, f1, f2, f3, f4, f5⟩ := f
  have apart : Cc ≠ a := ha.elim (fun z => by rw [z]; exact f1) fun z e => f4 y a z e.symm
  exact ⟨m, hn.sameBut sb apart, fun h3 sb3 => ⟨_, H', I2.turned (t' := s2.toks) (fun b o hb e => (sb3.2 b hb).trans e) f0 f1 f3 f4 f5, q⟩⟩
end
/-! ### the loop, pure -/
/-- the new dict stands at D, no part of the store -/
def DcI (K : PySem.W.Frag) (mg : Str → Option Value) (L : Addr) (S1 : Sto) (H1 Hj : Hp) (P : List (D × D) → Sto → Prop) (H : Hp) : Prop :=
  ∃ S acc, SR K mg S H ∧ S L = none ∧ SRo K mg H L (.dcn acc) ∧ Ev S1 H1 S H ∧ Tk K Hj H ∧ P acc S
section
variable {K : PySem.W.Frag} {mg : Str → Option Value} {D0 : Addr} {S1 : Sto} {H1 Hj : Hp}
/-- the dict at D stays what it is -/
theorem dc_keep {S S' : Sto} {H H' : Hp} {acc : List (D × D)} (sr : SR K mg S H) (hD : S D0 = none) (so : SRo K mg H D0 (.dcn acc)) (e : Ev S H S' H') : S' D0 = none ∧ SRo K mg H' D0 (.dcn acc) := by
  obtain ⟨rows, g, nf, rel, nd⟩ := so
  obtain ⟨g1, g2⟩ := e D0 _ g (fun _ z => nomatch z) hD
  exact ⟨g2, rows, g1, nf, DnR.mono (e.tk sr) rel, nd⟩
theorem dc_write {S : Sto} {H : Hp} {rows rows' : List (NestedKey × V × V)} (sr : SR K mg S H) (hD : S D0 = none) (g : H D0 = some (DnO WD.w D0 rows)) (nf : ¬ FixO (DnO WD.w D0 rows)) : SR K mg S (upd H D0 (DnO WD.w D0 rows')) ∧ Tk K H (upd H D0 (DnO WD.w D0 rows')) := by
  have t : Tk K H (upd H D0 (DnO WD.w D0 rows')) := tk_upd (fun zs z => by rcases z with z | ⟨o, z⟩ <;> (rw [g] at z; cases z)) (fun ob zs z => by rw [g] at z; cases z) fun u z f => by rw [g] at z; cases z; exact nf f
  refine ⟨fun a w e => ?_, t⟩
  have ne : a ≠ D0 := fun z => by subst z; rw [hD] at e; cases e
  exact (sr a w e).mono t (upd_ne ne)
theorem loop_dc {J : It} {src : Src} {step : D → List (D × D) → Sto → (List (D × D) → Sto → Prop) → Prop} {fin : List (D × D) → Sto → Prop} {Dn : Hp → Prop} {B : V → Hp → (Hp → Prop) → Prop} {H0 : Hp}
    (jok : JOk K mg J Hj src) (hfin : ∀ H, DcI K mg D0 S1 H1 Hj fin H → Dn H)
    (hbody : ∀ x d H (N : List (D × D) → Sto → Prop), DcI K mg D0 S1 H1 Hj (fun acc S => step d acc S N) H → Rp K mg H x d → B x H (DcI K mg D0 S1 H1 Hj N))
    (h0 : DcI K mg D0 S1 H1 Hj (fun acc S => loopW src.ok step fin src.items acc S) H0) :
    ∃ Wt : Nat → Nat → Hp → Prop, (∃ m, Wt 0 m H0) ∧ ∀ i m H, Wt i m H →
      (J.stop i H ∧ Dn H) ∨ (J.go i H ∧ ∃ Nx : Hp → Prop, (∀ H', Nx H' → ∃ m', m' < m ∧ Wt (i + 1) m' H') ∧ ∀ x H', J.yld i H x H' → B x H' Nx) := by
  refine ⟨fun i m H => i + m = src.items.length ∧ DcI K mg D0 S1 H1 Hj (fun acc S => loopW src.ok step fin (src.items.drop i) acc S) H, ⟨src.items.length, Nat.zero_add _, by simpa using h0⟩, fun i m H ⟨him, S, acc, sr, hD, so, ev, tk, hl⟩ => ?_⟩
  cases m with
  | zero =>
    rw [List.drop_eq_nil_of_le (by omega)] at hl
    unfold loopW at hl
    exact .inl ⟨jok.stop i S H (by omega) (by omega) tk sr hl.1, hfin H ⟨S, acc, sr, hD, so, ev, tk, hl.2⟩⟩
  | succ m =>
    have hi : i < src.items.length := by omega
    rw [List.drop_eq_getElem_cons hi] at hl
    unfold loopW at hl
    refine .inr ⟨jok.go i S H hi tk sr hl.1, DcI K mg D0 S1 H1 Hj (fun acc S => loopW src.ok step fin (src.items.drop (i + 1)) acc S), fun H' q => ⟨m, Nat.lt_succ_self m, by omega, q⟩, fun x H' hy => ?_⟩
    obtain ⟨e2, s2, rx⟩ := jok.yld i S H x H' _ (List.getElem?_eq_getElem hi) tk sr hl.1 hy
    obtain ⟨k1, k2⟩ := dc_keep sr hD so e2
    exact hbody x _ H' _ ⟨S, acc, s2, k1, k2, ev.trans e2, tk.trans (e2.tk sr), hl.2⟩ rx
theorem dc_fin {S : Sto} {H H5 : Hp} {q : KE} {Q : VK} (l : Lk K mg S H q Q) (e1 : Ev S H S1 H1) (hn : H1 D0 = none) (h : DcI K mg D0 S1 H1 H1 (fun acc S5 => ∀ p, S5 p = none → q (.ref p) (Pi.put S5 p (.dcn acc))) H5) : Q (.ref D0) H5 := by
  obtain ⟨S5, acc, sr, hD, so, ev, tk, hq⟩ := h
  refine l _ _ _ _ (hq D0 hD) (e1.trans fun a o ha hn2 hs => ?_) (fun a o ho => ?_) (.ref D0)
  · obtain ⟨q1, q2⟩ := ev a o ha hn2 hs
    have ne : a ≠ D0 := fun e => by subst e; rw [hn] at ha; cases ha
    exact ⟨q1, by rw [put_ne ne]; exact q2⟩
  · by_cases e : a = D0
    · subst e
      rw [put_same] at ho
      injection ho with ho
      subst ho
      exact so
    · rw [put_ne e] at ho
      exact sr a o ho
theorem dcp_goal {C : CallT} {W : WX} {it : II} {kx vx : IE} {own tg : List Nat} {tup : Bool} {ifs : IEs} (hin : ∀ i ∈ tg, i ∈ own) {σ : L2.St} {H : Hp} {Q : VK} (h : tE K mg W C (.dcp kx vx own tg tup it ifs) σ H Q) :
    tDcN K mg (tI K mg W C it) (tG K mg tg tup) (tBt K mg W0 C true ifs) (tE K mg W0 C kx) (tE K mg W0 C vx) own σ H Q := by
  obtain ⟨φ, S, q, E, fr, sr, hw, l, lx⟩ := h
  refine ⟨φ, S, _, E, fr, sr, hw, fun src S1 H1 J hq e1 s1 jok D0 hn nf => ?_, lx⟩
  have f1 := fr.mono (e1.tk sr)
  obtain ⟨s2, e2⟩ := s1.new (o := DnO WD.w D0 []) hn
  refine loop_dc (D0 := D0) (S1 := S1) (H1 := H1) jok (fun H5 h5 => dc_fin l e1 hn h5) (fun x d H2 N h2 rx => ?_) ⟨S1, [], s2, s1.free hn, ⟨[], upd_same, nf, .nil, List.nodup_nil⟩, e2, e2.tk s1, hq⟩
  obtain ⟨S2, acc, sr2, hD, so, ev, tk, hst⟩ := h2
  refine ⟨d, wipeF φ own, S2, _, (f1.mono tk).wipe own, sr2, rx, hst, fun φ' σ' hb f2 hwp => ⟨hwp own hin |>.trans ?_, ?_⟩⟩
  · refine List.ext_getElem? fun j => ?_
    rw [wipe_get, wipe_get]
    split
    · cases σ[j]? <;> rfl
    · rfl
  · refine ⟨φ', S2, _, XF, f2, sr2, hb, fun z S3 H3 ⟨kk, hz, hk⟩ e3 s3 => ⟨kk, hz, ?_⟩, .none⟩
    have t3 := e3.tk sr2
    obtain ⟨k1, k2⟩ := dc_keep sr2 hD so e3
    cases kk with
    | false => exact ⟨S3, acc, s3, k1, k2, ev.trans e3, tk.trans t3, hk⟩
    | true =>
      dsimp only
      rw [if_pos rfl] at hk ⊢
      refine ⟨φ', S3, _, XF, f2.mono t3, s3, hk, fun y S4 vy H4 hy e4 s4 ry => ⟨φ', S4, _, XF, (f2.mono t3).mono (e4.tk s3), s4, hy, fun z S5 vz H5 ⟨hky, hlen, hN⟩ e5 s5 rz => ?_, .none⟩, .none⟩
      obtain ⟨k3, k4⟩ := dc_keep s3 k1 k2 e4
      obtain ⟨k5, k6⟩ := dc_keep s4 k3 k4 e5
      refine ⟨acc, y, z, k6, ry.mono (e5.tk s4), rz, hky, hlen, fun rows nf' rel nd => ?_⟩
      obtain ⟨rows0, g0, nf0, _, _⟩ := k6
      obtain ⟨s6, t6⟩ := dc_write (rows' := rows) s5 k5 g0 nf0
      have e345 := (ev.trans e3).trans (e4.trans e5)
      refine ⟨S5, _, s6, k5, ⟨rows, upd_same, nf', DnR.mono t6 rel, nd⟩, fun a o ha hn2 hs => ?_, ((tk.trans t3).trans (e4.tk s3)).trans ((e5.tk s4).trans t6), hN⟩
      obtain ⟨q1, q2⟩ := e345 a o ha hn2 hs
      have ne : a ≠ D0 := fun e => by subst e; rw [hn] at ha; cases ha
      exact ⟨by rw [upd_ne ne]; exact q1, q2⟩
end
end Pi

/-! PiDc2: dict comprehensions of two clauses, no tests. -/
namespace Pi
open PySem L2 PyProof.Rows
theorem turn_out (kx vx t0 i0 t1 i1 : Expr) (scope : Scope) (pos : Pos) (it acc : Value) (env : Env) :
    compTurn (.DictComp kx vx [⟨t0, i0, [], 0⟩, ⟨t1, i1, [], 0⟩] scope pos) 0 it acc env = (do
      standAt i0.pos
      match ← pyNext it with
      | none => pure (.done .next)
      | some v =>
        letOwnedTupleGo t0 it v
        assign t0 env v
        let mut ok := true
        for c in ([] : List Expr) do
          if ok then ok ← isTrue c env (eval c env)
        if ok then
          let x ← eval i1 env
          standAt i1.pos
          let x ← foldedSetIterable i1 env x
          let _ ← runOwn (.compStart (.DictComp kx vx [⟨t0, i0, [], 0⟩, ⟨t1, i1, [], 0⟩] scope pos) 1 (← holding [x] (pyIter x)) acc env) env
        again (.compLoop (.DictComp kx vx [⟨t0, i0, [], 0⟩, ⟨t1, i1, [], 0⟩] scope pos) 0 it acc env)) := by rfl
theorem turn_in (kx vx t0 i0 t1 i1 : Expr) (scope : Scope) (pos : Pos) (it : Value) (D : Addr) (env : Env) :
    compTurn (.DictComp kx vx [⟨t0, i0, [], 0⟩, ⟨t1, i1, [], 0⟩] scope pos) 1 it (.ref D) env = (do
      standAt i1.pos
      match ← pyNext it with
      | none => pure (.done .next)
      | some v =>
        letOwnedTupleGo t1 it v
        assign t1 env v
        let mut ok := true
        for c in ([] : List Expr) do
          if ok then ok ← isTrue c env (eval c env)
        if ok then
          (do
            let kv ← eval kx env
            let vv ← holding [kv] (eval vx env)
            standAt { kx.pos with endLine := vx.pos.endLine, endCol := vx.pos.endCol }
            holding [kv, vv] (dictSet D kv vv))
        again (.compLoop (.DictComp kx vx [⟨t0, i0, [], 0⟩, ⟨t1, i1, [], 0⟩] scope pos) 1 it (.ref D) env)) := by rfl
section
variable {prog : Program} {w : World} {A : Around} {R : Result → Shared → Prop} {s : Shared} {kx vx t0 i0 t1 i1 : Expr} {scope : Scope} {pos : Pos} {it : Value} {D : Addr} {env : Env}
/-- the loop of the first clause -/
theorem loop_out (hs : ∀ x, foldedSetIterable i1 env x = pure x) (I : Nat → Shared → Prop)
    (turn : ∀ n s, I n s → wpAny (model prog w) A (pyNext it) (fun r s₁ => match r with
      | none => R (.ok .next) s₁
      | some v => wpAny (model prog w) A (letOwnedTupleGo t0 it v) (fun _ s₁' => wpAny (model prog w) A (assign t0 env v) (fun _ s₂ =>
          wpAny (model prog w) A (eval i1 env) (fun x s₄ => wpAny (model prog w) A (pyIter x) (fun it1 s₅ =>
              codeAny (model prog w) A (.compStart (.DictComp kx vx [⟨t0, i0, [], 0⟩, ⟨t1, i1, [], 0⟩] scope pos) 1 it1 (.ref D) env) (fun r s' => match r with
                | .ok _ => ∃ m, m < n ∧ I m s'
                | .error _ => False) s₅) (notedBy (model prog w) A env fun e s' => R (.error e) s') s₄) (notedBy (model prog w) A env fun e s' => R (.error e) s') s₂) (notedBy (model prog w) A env fun e s' => R (.error e) s') s₁') (notedBy (model prog w) A env fun e s' => R (.error e) s') s₁) (notedBy (model prog w) A env fun e s' => R (.error e) s') s)
    (n : Nat) (h : I n s) :
    codeAny (model prog w) A (.compLoop (.DictComp kx vx [⟨t0, i0, [], 0⟩, ⟨t1, i1, [], 0⟩] scope pos) 0 it (.ref D) env) R s := by
  refine codeAny_loop rfl I (fun n s hI => ?_) n h
  show wpAny _ A ((compTurn (.DictComp kx vx [⟨t0, i0, [], 0⟩, ⟨t1, i1, [], 0⟩] scope pos) 0 it (.ref D) env).onRaise (fun x => do noteFrame x env; theTreesLotGoes x)) _ _ s
  refine wpAny_noted ?_
  rw [turn_out]
  refine wpAny_bind (wpAny_standAt (wpAny_bind (wpAny_mono (turn n s hI) (fun r s₁ h₁ => ?_) fun _ _ h' => h')))
  cases r with
  | none => exact wpAny_pure h₁
  | some v =>
    refine wpAny_bind (wpAny_mono h₁ (fun _ s₁' h₁' => ?_) fun _ _ h' => h')
    refine wpAny_bind (wpAny_mono h₁' (fun _ s₂ h₂ => ?_) fun _ _ h' => h')
    refine wpAny_bind (wpAny_pure ?_)
    refine wpAny_bind (wpAny_mono h₂ (fun x s₄ h₄ => ?_) fun _ _ h' => h')
    refine wpAny_bind (wpAny_standAt (wpAny_bind (wpAny_of_eq (hs x) (wpAny_bind (wpAny_holding (wpAny_mono h₄ (fun it1 s₅ h₅ => ?_) fun _ _ h' => h'))))))
    refine wpAny_bind (wpAny_runOwn ?_)
    rw [Around.mark_none]
    refine codeAny_mono h₅ fun r s' hr => ?_
    cases r with
    | ok f =>
      first
        | exact wpAny_pure ⟨rfl, hr⟩
        | exact wpAny_bind (wpAny_pure (wpAny_pure ⟨rfl, hr⟩))
    | error e => exact hr.elim
/-- the loop of the second -/
theorem loop_in (I : Nat → Shared → Prop)
    (turn : ∀ n s, I n s → wpAny (model prog w) A (pyNext it) (fun r s₁ => match r with
      | none => R (.ok .next) s₁
      | some v => wpAny (model prog w) A (letOwnedTupleGo t1 it v) (fun _ s₁' => wpAny (model prog w) A (assign t1 env v) (fun _ s₂ =>
          wpAny (model prog w) A (eval kx env) (fun kv s₄ => wpAny (model prog w) A (eval vx env) (fun vv s₅ =>
              wpAny (model prog w) A (dictSet D kv vv) (fun _ s₆ => ∃ m, m < n ∧ I m s₆) (notedBy (model prog w) A env fun e s' => R (.error e) s') s₅) (notedBy (model prog w) A env fun e s' => R (.error e) s') s₄) (notedBy (model prog w) A env fun e s' => R (.error e) s') s₂) (notedBy (model prog w) A env fun e s' => R (.error e) s') s₁') (notedBy (model prog w) A env fun e s' => R (.error e) s') s₁) (notedBy (model prog w) A env fun e s' => R (.error e) s') s)
    (n : Nat) (h : I n s) :
    codeAny (model prog w) A (.compLoop (.DictComp kx vx [⟨t0, i0, [], 0⟩, ⟨t1, i1, [], 0⟩] scope pos) 1 it (.ref D) env) R s := by
  refine codeAny_loop rfl I (fun n s hI => ?_) n h
  show wpAny _ A ((compTurn (.DictComp kx vx [⟨t0, i0, [], 0⟩, ⟨t1, i1, [], 0⟩] scope pos) 1 it (.ref D) env).onRaise (fun x => do noteFrame x env; theTreesLotGoes x)) _ _ s
  refine wpAny_noted ?_
  rw [turn_in]
  refine wpAny_bind (wpAny_standAt (wpAny_bind (wpAny_mono (turn n s hI) (fun r s₁ h₁ => ?_) fun _ _ h' => h')))
  cases r with
  | none => exact wpAny_pure h₁
  | some v =>
    refine wpAny_bind (wpAny_mono h₁ (fun _ s₁' h₁' => ?_) fun _ _ h' => h')
    refine wpAny_bind (wpAny_mono h₁' (fun _ s₂ h₂ => ?_) fun _ _ h' => h')
    refine wpAny_bind (wpAny_pure ?_)
    exact wpAny_bind (wpAny_bind (wpAny_mono h₂ (fun kv s₄ h₄ => wpAny_bind (wpAny_holding (wpAny_mono h₄ (fun vv s₅ h₅ => wpAny_bind (wpAny_standAt (wpAny_holding (wpAny_mono h₅ (fun _ s₆ h₆ => wpAny_pure ⟨rfl, h₆⟩) fun _ _ h' => h')))) fun _ _ h' => h'))) fun _ _ h' => h'))
/-- the second clause's start -/
theorem start_in (h0 : codeAny (model prog w) A (.compLoop (.DictComp kx vx [⟨t0, i0, [], 0⟩, ⟨t1, i1, [], 0⟩] scope pos) 1 it (.ref D) env) R s)
    (h : wpAny (model prog w) A (pyIter it) (fun it' s' => codeAny (model prog w) A (.compLoop (.DictComp kx vx [⟨t0, i0, [], 0⟩, ⟨t1, i1, [], 0⟩] scope pos) 1 it' (.ref D) env) R s')
      (notedBy (model prog w) A env fun x s' => R (.error x) s') s) :
    codeAny (model prog w) A (.compStart (.DictComp kx vx [⟨t0, i0, [], 0⟩, ⟨t1, i1, [], 0⟩] scope pos) 1 it (.ref D) env) R s := by
  refine codeAny_of_tree ?_
  show wpAny _ _ ((compStart (.DictComp kx vx [⟨t0, i0, [], 0⟩, ⟨t1, i1, [], 0⟩] scope pos) 1 it (.ref D) env).onRaise (fun x => do noteFrame x env; standAt theWindowsPlace)) _ _ s
  refine wpAny_notedAt ?_
  unfold compStart
  show wpAny _ _ (ask >>= _) _ _ s
  refine wpAny_bind (wpAny_askSetting (wpAny_ite ?_))
  split
  · first
      | exact wpAny_bind (wpAny_pure (wpAny_pure (And.intro rfl h0)))
      | exact wpAny_pure (And.intro rfl h0)
  · first
      | exact wpAny_bind (wpAny_rule (wpAny_bind (wpAny_standAt (wpAny_bind (wpAny_mono h (fun it' s' h' => wpAny_pure (And.intro rfl h')) fun _ _ x => x)))))
      | (refine wpAny_bind (wpAny_rule ?_); show wpAny _ _ (standAt i1.pos >>= _) _ _ s; exact wpAny_bind (wpAny_standAt (wpAny_bind (wpAny_mono h (fun it' s' h' => wpAny_pure (And.intro rfl h')) fun _ _ x => x))))
end
variable [WD]
def tDc2 (K : PySem.W.Frag) (mg : Str → Option Value) (wi : TI) (g : TG) (wi1 : TI) (g1 : TG) (tk tv : TE) (vs vs1 : List Nat) : TE := fun σ H Q => wi σ H fun J H1 => ∀ D, H1 D = none → ¬ FixO (DnO WD.w D []) → ∃ Wt : Nat → Nat → Hp → Prop, (∃ m, Wt 0 m (upd H1 D (DnO WD.w D []))) ∧ ∀ i m H, Wt i m H →
  (J.stop i H ∧ Q (.ref D) H) ∨ (J.go i H ∧ ∃ Nx : Hp → Prop, (∀ H', Nx H' → ∃ m', m' < m ∧ Wt (i + 1) m' H') ∧ ∀ x H', J.yld i H x H' → g x (wipe σ vs) H' fun σ2 H2 => wipe σ2 vs = wipe σ vs ∧
    wi1 σ2 H2 fun J1 H4 => ∃ W1 : Nat → Nat → Hp → Prop, (∃ m, W1 0 m H4) ∧ ∀ j k H, W1 j k H →
      (J1.stop j H ∧ Nx H) ∨ (J1.go j H ∧ ∃ Nx1 : Hp → Prop, (∀ H', Nx1 H' → ∃ k', k' < k ∧ W1 (j + 1) k' H') ∧ ∀ x H', J1.yld j H x H' → g1 x (wipe σ2 vs1) H' fun σ3 H5 => wipe σ3 vs1 = wipe σ2 vs1 ∧
        tk σ3 H5 fun y H6 => tv σ3 H6 fun z H7 => DcPut K mg D y z H7 Nx1))
section
variable {X : Cx}
theorem dc2_core {pins : List (Addr × Obj)} {s : Shared} {σ : L2.St} {H : Hp} {Q : VK} {kx vx tg iter tg1 iter1 : Expr} {scope : Scope} {own : List (Str × Nat)} {vs1 : List Nat} {pos pos' : Pos} {wi wi1 : TI} {g g1 : TG} {tk tv : TE} {use : Option (Value → Sem Unit)} {Qf : Value → Shared → Prop}
    (hw : X.w = WD.w) (hu : X.A.units + 65 < cLine) (hc : X.calm = true) (hN : X.N.Nodup) (I : Inv X pins σ H s) (hi : PI X tg iter wi) (ok : BlkOk X.N X.env.scope scope own) (hv1 : ∀ i ∈ vs1, i ∈ own.map (·.2))
    (hg : ∀ (s : Shared) (H : Hp) (Cc : Addr) (cl : List (Str × Addr)) (fp : List Addr), PG (X.blk s H scope (compEnvC scope cl Cc X.env) fp) tg g)
    (hi1 : ∀ (s : Shared) (H : Hp) (Cc : Addr) (cl : List (Str × Addr)) (fp : List Addr), PI (X.blk s H scope (compEnvC scope cl Cc X.env) fp) tg1 iter1 wi1)
    (hg1 : ∀ (s : Shared) (H : Hp) (Cc : Addr) (cl : List (Str × Addr)) (fp : List Addr), PG (X.blk s H scope (compEnvC scope cl Cc X.env) fp) tg1 g1)
    (hk : ∀ (s : Shared) (H : Hp) (Cc : Addr) (cl : List (Str × Addr)) (fp : List Addr), PE (X.blk s H scope (compEnvC scope cl Cc X.env) fp) kx tk)
    (hv : ∀ (s : Shared) (H : Hp) (Cc : Addr) (cl : List (Str × Addr)) (fp : List Addr), PE (X.blk s H scope (compEnvC scope cl Cc X.env) fp) vx tv) (hs : ∀ x, foldedSetIterable iter X.env x = pure x) (hs1 : ∀ env x, foldedSetIterable iter1 env x = pure x)
    (h : tDc2 X.K X.mg wi g wi1 g1 tk tv (own.map (·.2)) vs1 σ H Q)
    (hend : ∀ D Cc s' m H', Inv X pins σ H' s' → Q (.ref D) H' → s'.heap.Ns Cc m → FpOk X pins H' Cc → compPost (model X.prog X.w) X.A X.xe use Qf (.ref D) Cc (.ok .next) s') :
    wpAny (model X.prog X.w) X.A (comprehension (.DictComp kx vx [⟨tg, iter, [], 0⟩, ⟨tg1, iter1, [], 0⟩] scope pos) scope X.env pos' newDict false (eval iter X.env) use) Qf X.xe s := by
  have caught : ∀ y ∈ scope.names, y.2 = .free → ∃ c, X.env.cells.lookup y.1 = some c := fun y hy e => (ok.free y hy e).elim (fun q => I.ok.has _ (.inl q)) fun q => I.ok.has _ (.inr q)
  refine wpAny_comprehension_free (use := use) rfl hs (closure_ok caught) ok.kind (fun y hy e => by rw [ok.uniq y hy, e]) (thn (hi.run pins s σ H _ I h) fun xv s1 hx => thn hx fun itv s2 q2 => ?_)
  obtain ⟨it, fp, tn, J, H2, rfl, I2, T, st2, f2, q⟩ := q2
  refine wpAny_newObj_type (newEnv_comp ?_)
  obtain ⟨D, hD⟩ : ∃ D, s2.heap.objs.size = D := ⟨_, rfl⟩
  rw [hD]
  have mt : DnF WD.w D [] (s2.heap.push { cls := .type "dict", data := .dict #[] }) := by rw [← hD]; exact dn_empty s2.heap I2.big
  have free : H2 D = none := I2.hok.fresh (Nat.le_of_eq hD)
  obtain ⟨Wt, ⟨m0, w0⟩, turn⟩ := q D free (dn_fix mt)
  obtain ⟨s3, hs3⟩ : ∃ s3 : Shared, ({ s2 with heap := s2.heap.push { cls := .type "dict", data := .dict #[] } } : Shared) = s3 := ⟨_, rfl⟩
  obtain ⟨H3, hH3⟩ : ∃ H3, upd H2 D (DnO WD.w D []) = H3 := ⟨_, rfl⟩
  have heap3 : s3.heap = s2.heap.push { cls := .type "dict", data := .dict #[] } := by rw [← hs3]
  have I3 : Inv X pins σ H3 s3 := by
    rw [← hs3, ← hH3]
    exact I2.laid (t' := s2.toks) (fun b o e => Heap.get?_push_of_some _ e) (Nat.le_of_eq hD) (dnO_ok mt)
  have low : ∀ b ∈ fp, b < s2.heap.objs.size := fun b hb => let ⟨o, e, _⟩ := T.obj _ _ st2 b hb; Heap.lt_size e
  have f3 : ∀ b ∈ fp, FpOk X pins H3 b ∧ b < s3.heap.objs.size := fun b hb => by
    have hlt := low b hb
    refine ⟨⟨?_, (f2 b hb).2⟩, by rw [heap3, Heap.size_push]; exact Nat.lt_succ_of_lt hlt⟩
    rw [← hH3, upd_ne (by rw [← hD]; exact Nat.ne_of_lt hlt)]
    exact (f2 b hb).1
  rw [hH3] at w0
  have st3 : tn 0 s3.heap := T.keep _ _ _ st2 fun b _ o e => by rw [heap3]; exact Heap.get?_push_of_some _ e
  have I4 := block_start I3 ok hN f3
  show codeAny _ _ (.compStart (.DictComp kx vx [⟨tg, iter, [], 0⟩, ⟨tg1, iter1, [], 0⟩] scope pos) 0 (.ref it) (.ref D) (compEnvC scope (cellsFrom (({ s2 with heap := s2.heap.push { cls := .type "dict", data := .dict #[] } } : Shared).heap.objs.size + 1) scope.names (cloFrom X.env.cells scope.names [])) ({ s2 with heap := s2.heap.push { cls := .type "dict", data := .dict #[] } } : Shared).heap.objs.size X.env)) (compPost (model X.prog X.w) X.A X.xe use Qf (.ref D) ({ s2 with heap := s2.heap.push { cls := .type "dict", data := .dict #[] } } : Shared).heap.objs.size) { ({ s2 with heap := s2.heap.push { cls := .type "dict", data := .dict #[] } } : Shared) with heap := pushCells (({ s2 with heap := s2.heap.push { cls := .type "dict", data := .dict #[] } } : Shared).heap.push { cls := .type "dict", data := .dict #[] }) scope.names }
  rw [hs3]
  have pg := hg s3 H3 s3.heap.objs.size (cellsFrom (s3.heap.objs.size + 1) scope.names (cloFrom X.env.cells scope.names [])) fp
  have pi1 := hi1 s3 H3 s3.heap.objs.size (cellsFrom (s3.heap.objs.size + 1) scope.names (cloFrom X.env.cells scope.names [])) fp
  have pg1 := hg1 s3 H3 s3.heap.objs.size (cellsFrom (s3.heap.objs.size + 1) scope.names (cloFrom X.env.cells scope.names [])) fp
  have pk := hk s3 H3 s3.heap.objs.size (cellsFrom (s3.heap.objs.size + 1) scope.names (cloFrom X.env.cells scope.names [])) fp
  have pv := hv s3 H3 s3.heap.objs.size (cellsFrom (s3.heap.objs.size + 1) scope.names (cloFrom X.env.cells scope.names [])) fp
  generalize hce : compEnvC scope (cellsFrom (s3.heap.objs.size + 1) scope.names (cloFrom X.env.cells scope.names [])) s3.heap.objs.size X.env = ce at I4 pg pi1 pg1 pk pv ⊢
  have cl : ce.locals = s3.heap.objs.size := by rw [← hce]; rfl
  have none3 : ∀ b ∈ fp, H3 b = none := fun b hb => (f3 b hb).1.1
  obtain ⟨s4, hs4⟩ : ∃ s4 : Shared, ({ s3 with heap := pushCells (s3.heap.push { cls := .type "dict", data := .dict #[] }) scope.names } : Shared) = s4 := ⟨_, rfl⟩
  rw [hs4] at I4 ⊢
  have st4 : tn 0 s4.heap := T.keep _ _ _ st3 fun b _ o e => by rw [← hs4]; exact pushCells_keeps _ _ _ _ (Heap.get?_push_of_some _ e)
  have own_ : ∀ {σ' : L2.St} {H' : Hp} {s' : Shared}, Inv (X.blk s3 H3 scope ce fp) [] σ' H' s' → (∀ b ∈ fp, H' b = none) → ∀ b ∈ fp, FpOk (X.blk s3 H3 scope ce fp) [] H' b := fun {σ' H' s'} I' hn b hb =>
    ⟨hn b hb, (I'.ok.exf b hb).1, I'.ok.exfs b hb, .inl hb, fun x c e => (I'.ok.exf b hb).2 x c e, fun p hp => nomatch (show p ∈ ([] : List (Addr × Obj)) from hp)⟩
  have loop : codeAny (model X.prog X.w) X.A (.compLoop (.DictComp kx vx [⟨tg, iter, [], 0⟩, ⟨tg1, iter1, [], 0⟩] scope pos) 0 (.ref it) (.ref D) ce) (compPost (model X.prog X.w) X.A X.xe use Qf (.ref D) s3.heap.objs.size) s4 := by
    refine loop_out (hs1 ce) (fun n s' => ∃ i H', Inv (X.blk s3 H3 scope ce fp) [] (wipe σ (own.map (·.2))) H' s' ∧ tn i s'.heap ∧ (∀ b ∈ fp, H' b = none) ∧ Wt i n H') ?_ m0 ⟨0, H3, I4, st4, none3, w0⟩
    rintro n s5 ⟨i, H5, I5, st5, n5, w5⟩
    rcases turn i n H5 w5 with ⟨stop, qq⟩ | ⟨go, Nx, hNx, step⟩
    · refine thnF (T.done (X.blk s3 H3 scope ce fp) rfl rfl rfl hc i [] s5 _ H5 (fun _ _ => False) I5 (own_ I5 n5) st5 stop) fun r s6 ⟨hr, I6⟩ => ?_
      subst hr
      have I7 : Inv X pins σ H5 s6 := I3.call' (ch := fp) I6.os I6.base I6.hok I6.bare fun b hb => let f := (f3 b hb).1; ⟨f.2.2.2.1, f.2.1, f.2.2.2.2.1, f.2.2.2.2.2⟩
      obtain ⟨m, hn, _⟩ := I6.loc
      have hn : s6.heap.Ns ce.locals m := hn
      have nC : H5 ce.locals = none := I6.free
      rw [cl] at hn nC
      exact hend D s3.heap.objs.size s6 m H5 I7 qq hn (I3.fpOk (Nat.le_refl _) nC)
    · refine thnF (T.item (X.blk s3 H3 scope ce fp) rfl rfl rfl hc i [] s5 _ H5 (fun _ _ => False) I5 (own_ I5 n5) st5 go) fun r s6 ⟨u, hr, h6⟩ => ?_
      subst hr
      refine thnF h6 fun _ s7 ⟨x, H7, I7, r7, y7, st7, n7⟩ => ?_
      refine thnF (pg.run _ s7 _ H7 x u _ (I7.pinned (own_ I7 n7) (T.obj _ _ st7)) r7 (step x H7 y7)) fun _ s8 ⟨σ8, H8, I8, hw8, q8⟩ => ?_
      have fin : ∀ {σ9 : L2.St} {s' : Shared} {H' : Hp}, Inv (X.blk s3 H3 scope ce fp) ([] ++ pinsAt fp s7.heap) σ9 H' s' → (wipe σ (own.map (·.2))).length = σ9.length → (∀ (j : Nat) v, (wipe σ (own.map (·.2)))[j]? = some (some v) → σ9[j]? = some (some v)) → Nx H' →
          ∃ m, m < n ∧ ∃ i H', Inv (X.blk s3 H3 scope ce fp) [] (wipe σ (own.map (·.2))) H' s' ∧ tn i s'.heap ∧ (∀ b ∈ fp, H' b = none) ∧ Wt i m H' := fun {σ9 s' H'} I' hl hk nx => by
        obtain ⟨m', hm, w'⟩ := hNx H' nx
        have pin' : ∀ b ∈ fp, ∀ o, s7.heap.get? b = some o → s'.heap.get? b = some o ∧ H' b = none := fun b hb o e =>
          let z := I'.pin (b, o) (List.mem_append_right _ (List.mem_append_right _ (mem_pinsAt hb e)))
          ⟨z.1, z.2.1⟩
        refine ⟨m', hm, i + 1, H', (I'.unpinned (pins := [])).weak hl hk, T.keep _ _ _ st7 fun b hb o e => (pin' b hb o e).1, fun b hb => ?_, w'⟩
        obtain ⟨o, e, _⟩ := T.obj _ _ st7 b hb
        exact (pin' b hb o e).2
      have hl8 : (wipe σ (own.map (·.2))).length = σ8.length := by rw [← hw8, wipe_length]
      have hk9 : ∀ (j : Nat) v, (wipe σ (own.map (·.2)))[j]? = some (some v) → (wipe σ8 vs1)[j]? = some (some v) := fun j v e => by
        rw [← hw8] at e
        obtain ⟨e1, e2⟩ := wipe_some e
        rw [wipe_out fun z => e2 (hv1 j z)]
        exact e1
      refine thnF (pi1.run _ s8 σ8 H8 _ I8 q8) fun xv s10 hx => thnF hx fun itv s11 h11 => ?_
      obtain ⟨it1, fp1, tn1, J1, H11, e1, I11, T1, st11, f11, W1, ⟨m1, w1⟩, turn1⟩ := h11
      subst e1
      have stat1 : ∀ {H' : Hp}, (∀ b ∈ fp1, H' b = none) → ∀ b ∈ fp1, FpOk (X.blk s3 H3 scope ce fp) ([] ++ pinsAt fp s7.heap) H' b := fun hn b hb => ⟨hn b hb, (f11 b hb).2⟩
      have loop1 : codeAny (model X.prog X.w) X.A (.compLoop (.DictComp kx vx [⟨tg, iter, [], 0⟩, ⟨tg1, iter1, [], 0⟩] scope pos) 1 (.ref it1) (.ref D) ce)
          (fun r s' => match r with
            | .ok _ => ∃ m, m < n ∧ ∃ i H', Inv (X.blk s3 H3 scope ce fp) [] (wipe σ (own.map (·.2))) H' s' ∧ tn i s'.heap ∧ (∀ b ∈ fp, H' b = none) ∧ Wt i m H'
            | .error _ => False) s11 := by
        refine loop_in (fun k s' => ∃ j H', Inv (X.blk s3 H3 scope ce fp) ([] ++ pinsAt fp s7.heap) (wipe σ8 vs1) H' s' ∧ tn1 j s'.heap ∧ (∀ b ∈ fp1, H' b = none) ∧ W1 j k H') ?_ m1 ⟨0, H11, I11.weak (wipe_length _ _) (fun j v e => (wipe_some e).1), st11, fun b hb => (f11 b hb).1, w1⟩
        rintro k s12 ⟨j, H12, I12, st12, n12, w12⟩
        rcases turn1 j k H12 w12 with ⟨stop1, nx1⟩ | ⟨go1, Nx1, hNx1, step1⟩
        · refine thnF (T1.done (X.blk s3 H3 scope ce fp) rfl rfl rfl hc j _ s12 (wipe σ8 vs1) H12 (fun _ _ => False) I12 (stat1 n12) st12 stop1) fun r s13 ⟨hr, I13⟩ => ?_
          subst hr
          exact fin I13 (hl8.trans (wipe_length σ8 vs1).symm) hk9 nx1
        · refine thnF (T1.item (X.blk s3 H3 scope ce fp) rfl rfl rfl hc j _ s12 (wipe σ8 vs1) H12 (fun _ _ => False) I12 (stat1 n12) st12 go1) fun r s13 ⟨u1, hr, h13⟩ => ?_
          subst hr
          refine thnF h13 fun _ s14 ⟨x1, H14, I14, r14, y14, st14, n14⟩ => ?_
          have I14' := I14.pinned (stat1 n14) (T1.obj _ _ st14)
          refine thnF (pg1.run _ s14 (wipe σ8 vs1) H14 x1 u1 _ I14' r14 (step1 x1 H14 y14)) fun _ s15 ⟨σ15, H15, I15, hw15, q15⟩ => ?_
          have fin1 : ∀ {s' : Shared} {H' : Hp}, Inv (X.blk s3 H3 scope ce fp) (([] ++ pinsAt fp s7.heap) ++ pinsAt fp1 s14.heap) σ15 H' s' → Nx1 H' → ∃ m, m < k ∧ ∃ j H', Inv (X.blk s3 H3 scope ce fp) ([] ++ pinsAt fp s7.heap) (wipe σ8 vs1) H' s' ∧ tn1 j s'.heap ∧ (∀ b ∈ fp1, H' b = none) ∧ W1 j m H' := fun {s' H'} I' nx => by
            obtain ⟨m', hm, w'⟩ := hNx1 H' nx
            have pin' : ∀ b ∈ fp1, ∀ o, s14.heap.get? b = some o → s'.heap.get? b = some o ∧ H' b = none := fun b hb o e =>
              let z := I'.pin (b, o) (List.mem_append_right _ (List.mem_append_right _ (mem_pinsAt hb e)))
              ⟨z.1, z.2.1⟩
            refine ⟨m', hm, j + 1, H', I'.unpinned.weak (by rw [← hw15, wipe_length]) (fun j v e => by rw [← hw15] at e; exact (wipe_some e).1), T1.keep _ _ _ st14 fun b hb o e => (pin' b hb o e).1, fun b hb => ?_, w'⟩
            obtain ⟨o, e, _⟩ := T1.obj _ _ st14 b hb
            exact (pin' b hb o e).2
          refine thnF (pk.run _ s15 σ15 H15 _ I15 q15) fun u2 s17 ⟨yk, H17, I17, r17, q17⟩ => ?_
          refine thnF (pv.run _ s17 σ15 H17 _ I17 q17) fun u3 s18 ⟨yv, H18, I18, r18, put⟩ => ?_
          exact thnF (dcPut_ok (X := X.blk s3 H3 scope ce fp) hw hu I18 put r17 r18) fun _ s19 ⟨H19, I19, nx⟩ => fin1 I19 nx
      exact start_in loop1 (T1.self X.A 0 _ _ _ st11 loop1)
  exact codeAny_compStart_dict loop (T.self X.A 0 _ _ _ st4 loop)
theorem pe_dc2 {kx vx tg iter tg1 iter1 : Expr} {scope : Scope} {own : List (Str × Nat)} {vs1 : List Nat} {pos : Pos} {wi wi1 : TI} {g g1 : TG} {tk tv : TE} (hw : X.w = WD.w) (hu : X.A.units + 65 < cLine) (hc : X.calm = true) (hN : X.N.Nodup) (hi : PI X tg iter wi) (ok : BlkOk X.N X.env.scope scope own) (hv1 : ∀ i ∈ vs1, i ∈ own.map (·.2))
    (hg : ∀ (s : Shared) (H : Hp) (Cc : Addr) (cl : List (Str × Addr)) (fp : List Addr), PG (X.blk s H scope (compEnvC scope cl Cc X.env) fp) tg g)
    (hi1 : ∀ (s : Shared) (H : Hp) (Cc : Addr) (cl : List (Str × Addr)) (fp : List Addr), PI (X.blk s H scope (compEnvC scope cl Cc X.env) fp) tg1 iter1 wi1)
    (hg1 : ∀ (s : Shared) (H : Hp) (Cc : Addr) (cl : List (Str × Addr)) (fp : List Addr), PG (X.blk s H scope (compEnvC scope cl Cc X.env) fp) tg1 g1)
    (hk : ∀ (s : Shared) (H : Hp) (Cc : Addr) (cl : List (Str × Addr)) (fp : List Addr), PE (X.blk s H scope (compEnvC scope cl Cc X.env) fp) kx tk)
    (hv : ∀ (s : Shared) (H : Hp) (Cc : Addr) (cl : List (Str × Addr)) (fp : List Addr), PE (X.blk s H scope (compEnvC scope cl Cc X.env) fp) vx tv) (hs : ∀ x, foldedSetIterable iter X.env x = pure x) (hs1 : ∀ env x, foldedSetIterable iter1 env x = pure x) :
    PE X (.DictComp kx vx [⟨tg, iter, [], 0⟩, ⟨tg1, iter1, [], 0⟩] scope pos) (tDc2 X.K X.mg wi g wi1 g1 tk tv (own.map (·.2)) vs1) := by
  refine ⟨fun pins s σ H Q I h => ?_⟩
  rw [arm_eval_DictComp]
  exact dc2_core hw hu hc hN I hi ok hv1 hg hi1 hg1 hk hv hs hs1 h fun D Cc s' m H' I' q hn ⟨f0, f1, f2, f3, f4, f5⟩ => ⟨m, hn, fun h'' sb => ⟨.ref D, H', I'.turned (t' := s'.toks) (fun b o hb e => (sb.2 b hb).trans e) f0 f1 f3 f4 f5, rfl, q⟩⟩
theorem ps_setDc2 {i : Nat} {y : Str} {py : Pos} {kx vx tg iter tg1 iter1 : Expr} {scope : Scope} {own : List (Str × Nat)} {vs1 : List Nat} {pos spos : Pos} {wi wi1 : TI} {g g1 : TG} {tk tv : TE} (hw : X.w = WD.w) (hu : X.A.units + 65 < cLine) (hc : X.calm = true) (hN : X.N.Nodup) (hy : X.N[i]? = some y) (hyl : X.env.scope.names.lookup y = some .local)
    (hsw : swapsWith (.DictComp kx vx [⟨tg, iter, [], 0⟩, ⟨tg1, iter1, [], 0⟩] scope pos) (some (.Name y py)) spos.line X.env = pure true) (hi : PI X tg iter wi) (ok : BlkOk X.N X.env.scope scope own) (hv1 : ∀ i ∈ vs1, i ∈ own.map (·.2))
    (hg : ∀ (s : Shared) (H : Hp) (Cc : Addr) (cl : List (Str × Addr)) (fp : List Addr), PG (X.blk s H scope (compEnvC scope cl Cc X.env) fp) tg g)
    (hi1 : ∀ (s : Shared) (H : Hp) (Cc : Addr) (cl : List (Str × Addr)) (fp : List Addr), PI (X.blk s H scope (compEnvC scope cl Cc X.env) fp) tg1 iter1 wi1)
    (hg1 : ∀ (s : Shared) (H : Hp) (Cc : Addr) (cl : List (Str × Addr)) (fp : List Addr), PG (X.blk s H scope (compEnvC scope cl Cc X.env) fp) tg1 g1)
    (hk : ∀ (s : Shared) (H : Hp) (Cc : Addr) (cl : List (Str × Addr)) (fp : List Addr), PE (X.blk s H scope (compEnvC scope cl Cc X.env) fp) kx tk)
    (hv : ∀ (s : Shared) (H : Hp) (Cc : Addr) (cl : List (Str × Addr)) (fp : List Addr), PE (X.blk s H scope (compEnvC scope cl Cc X.env) fp) vx tv) (hs : ∀ x, foldedSetIterable iter X.env x = pure x) (hs1 : ∀ env x, foldedSetIterable iter1 env x = pure x) :
    PS X (.Assign [.Name y py] (.DictComp kx vx [⟨tg, iter, [], 0⟩, ⟨tg1, iter1, [], 0⟩] scope pos) spos) (tAsg (tDc2 X.K X.mg wi g wi1 g1 tk tv (own.map (·.2)) vs1) (gName i)) := by
  refine ⟨fun pins s σ H Dn I h => ?_⟩
  rw [exec_Assign_Name_used _ _ _ _ hsw]
  refine wpAny_bind (wpAny_standAt (wpAny_bind ?_))
  show wpAny _ X.A (do let _ ← comprehension (.DictComp kx vx [⟨tg, iter, [], 0⟩, ⟨tg1, iter1, [], 0⟩] scope pos) scope X.env (firstIterPos [⟨tg, iter, [], 0⟩, ⟨tg1, iter1, [], 0⟩] pos) newDict false (eval iter X.env) (some (assign (.Name y py) X.env))) _ _ s
  have h : tDc2 X.K X.mg wi g wi1 g1 tk tv (own.map (·.2)) vs1 σ H (fun x H1 => gName i x σ H1 Dn.nx) := h
  refine wpAny_bind (thn (dc2_core (Qf := fun _ s' => SP X pins Dn .next s') hw hu hc hN I hi ok hv1 hg hi1 hg1 hk hv hs hs1 h fun D Cc s' m H' I' q hn f => ?_) fun _ s' hq => wpAny_pure (wpAny_pure hq))
  show wpAny _ _ (assign (.Name y py) X.env (.ref D)) _ _ _
  refine wpAny_assign_Name (store_ok2 (v := V.ref D) I' hN hy (.inl hyl) rfl (fun s2 I2 ⟨a, sb, ha⟩ => ?_) (.inr hyl))
  obtain ⟨f0, f1, f2, f3, f4, f5⟩ := f
  have apart : Cc ≠ a := ha.elim (fun z => by rw [z]; exact f1) fun z e => f4 y a z e.symm
  exact ⟨m, hn.sameBut sb apart, fun h3 sb3 => ⟨_, H', I2.turned (t' := s2.toks) (fun b o hb e => (sb3.2 b hb).trans e) f0 f1 f3 f4 f5, q⟩⟩
end
section
variable {K : PySem.W.Frag} {mg : Str → Option Value}
theorem dc2_goal {C : CallT} {W : WX} {it it1 : II} {kx vx : IE} {own tg vs tg1 : List Nat} {tup tup1 : Bool} (hin : ∀ i ∈ tg, i ∈ own) (hin1 : ∀ i ∈ tg1, i ∈ vs) {σ : L2.St} {H : Hp} {Q : VK} (h : tE K mg W C (.dc2 kx vx own tg tup it vs tg1 tup1 it1) σ H Q) :
    tDc2 K mg (tI K mg W C it) (tG K mg tg tup) (tI K mg W0 C it1) (tG K mg tg1 tup1) (tE K mg W0 C kx) (tE K mg W0 C vx) own vs σ H Q := by
  obtain ⟨φ, S, q, E, fr, sr, hw, l, lx⟩ := h
  refine ⟨φ, S, _, E, fr, sr, hw, fun src S1 H1 J hq e1 s1 jok D0 hn nf => ?_, lx⟩
  have f1 := fr.mono (e1.tk sr)
  have ww : ∀ (τ : L2.St) (ws : List Nat), wipe (wipe τ ws) ws = wipe τ ws := fun τ ws => by
    refine List.ext_getElem? fun j => ?_
    rw [wipe_get, wipe_get]
    split
    · cases τ[j]? <;> rfl
    · rfl
  obtain ⟨s2, e2⟩ := s1.new (o := DnO WD.w D0 []) hn
  refine loop_dc (D0 := D0) (S1 := S1) (H1 := H1) jok (fun H5 h5 => dc_fin l e1 hn h5) (fun x d H2 N h2 rx => ?_) ⟨S1, [], s2, s1.free hn, ⟨[], upd_same, nf, .nil, List.nodup_nil⟩, e2, e2.tk s1, hq⟩
  obtain ⟨S2, acc, sr2, hD, so, ev, tk, hst⟩ := h2
  refine ⟨d, wipeF φ own, S2, _, (f1.mono tk).wipe own, sr2, rx, hst, fun φ' σ' hb f2 hwp => ⟨(hwp own hin).trans (ww _ _), ?_⟩⟩
  refine ⟨φ', S2, _, XF, f2, sr2, hb, fun src1 S4 H4 J1 hq1 e4 s4 jok1 => ?_, .none⟩
  have t4 := e4.tk sr2
  obtain ⟨k1, k2⟩ := dc_keep sr2 hD so e4
  have f4 := f2.mono t4
  refine loop_dc (D0 := D0) (S1 := S1) (H1 := H1) jok1 (fun H5 ⟨S5, acc5, a1, a2, a3, a4, a5, a6⟩ => ⟨S5, acc5, a1, a2, a3, a4, a4.tk s1, a6⟩) (fun x1 d1 H6 N1 h6 rx1 => ?_) ⟨S4, acc, s4, k1, k2, ev.trans e4, .refl, hq1⟩
  obtain ⟨S6, acc6, sr6, hD6, so6, ev6, tk6, hst6⟩ := h6
  refine ⟨d1, wipeF φ' vs, S6, _, (f4.mono tk6).wipe vs, sr6, rx1, hst6, fun φ3 σ3 hb3 f3 hwp3 => ⟨(hwp3 vs hin1).trans (ww _ _), ?_⟩⟩
  refine ⟨φ3, S6, _, XF, f3, sr6, hb3, fun y S7 vy H7 hy e7 s7 ry => ⟨φ3, S7, _, XF, f3.mono (e7.tk sr6), s7, hy, fun z S8 vz H8 ⟨hky, hlen, hN⟩ e8 s8 rz => ?_, .none⟩, .none⟩
  obtain ⟨k3, k4⟩ := dc_keep sr6 hD6 so6 e7
  obtain ⟨k5, k6⟩ := dc_keep s7 k3 k4 e8
  refine ⟨acc6, y, z, k6, ry.mono (e8.tk s7), rz, hky, hlen, fun rows nf' rel nd => ?_⟩
  obtain ⟨rows0, g0, nf0, _, _⟩ := k6
  obtain ⟨s9, t9⟩ := dc_write (rows' := rows) s8 k5 g0 nf0
  have e678 := ev6.trans (e7.trans e8)
  refine ⟨S8, _, s9, k5, ⟨rows, upd_same, nf', DnR.mono t9 rel, nd⟩, fun a o ha hn2 hs => ?_, (tk6.trans (e7.tk sr6)).trans ((e8.tk s7).trans t9), hN⟩
  obtain ⟨q1, q2⟩ := e678 a o ha hn2 hs
  have ne : a ≠ D0 := fun e => by subst e; rw [hn] at ha; cases ha
  exact ⟨by rw [upd_ne ne]; exact q1, q2⟩
end
end Pi

/-! PiCau: caught errors: isinstance of one, f(lambda: e). -/
namespace Pi
open PySem L2 PyProof.Rows
variable [WD]
section
variable {s : SC} {C : CallT} {k : Nat} {X : Cx} {W : WX}
theorem ad_iso {a : IE} {c : Str} {ds : List Str} {x : Expr} {p q pos : Pos} (A : Amb s C k X) (hg : glB s.sc ("isinstance" : Str) = true) (hf : freeB s ("isinstance" : Str) = true) (hx : notStar x = true) (ha : pE X W C a x) (hc : glB s.sc c = true) (hn : okName c = true)
    (hk : c ∈ s.kits) (hd : ∀ d ∈ ds, d ∈ s.hits) : pE X W C (.iso a c ds) (.Call (.Name "isinstance" p) [x, .Name c q] [] pos) := by
  obtain ⟨T, e1, e2, e3⟩ := A.err.kit c hk
  have pc : PE X (.Name c q) (tC (.ref T)) := pe_glob (A.gl hc) e1 rfl (okName_ok hn).1
  refine pe_imp (pe_callB call_iso (A.gl hg) (A.free _ hf) boot_isinstance (pa_cons ha (pa_cons pc pa_nil rfl) (star_not hx)) (by decide) (by decide) (star_not hx) rfl) ?_
  rintro σ H Q ⟨φ, S, q, E, fr, sr, hw, l, lx⟩
  refine ⟨φ, S, _, E, fr, sr, hw, fun d S1 v H1 h1 ev s1 r => ?_, lx⟩
  cases r with
  | non => exact ⟨.non, T, false, rfl, .inl ⟨rfl, e2⟩, l.after ev |>.here s1 h1 (.bl _)⟩
  | exc g m =>
    rename_i d a D
    obtain ⟨D2, m2, Cl, _⟩ := A.err.hit d (hd d h1.1)
    rw [m] at m2
    cases m2
    exact ⟨_, T, _, rfl, .inr ⟨a, D, rfl, g, Cl, e3 d (hd d h1.1) D m⟩, l.after ev |>.here s1 h1.2 (.bl _)⟩
  | _ => exact h1.elim
theorem Amb.lmb (A : Amb s C k X) {sco : Scope} (hk : sco.kind = .function) {A' : Around} {outer : List Env} {st : Shared} {H : Hp} {E : XK} {f co : Addr} (gu : A'.guards = some []) (rm : Room k (A'.deeper (LamX.lamEnv X sco st.heap.objs.size f co))) : Amb (s.lmb sco) C k (LamX.lamCx X A' outer st H E sco f co) :=
  { wd := A.wd, N := A.N, nd := A.nd, sc := rfl, kd := hk, calm := rfl, gu := gu, rm := rm, rm2 := fun h => (nomatch h), rm3 := fun h => (nomatch h), lam := fun x h => (nomatch h), err := A.err, fn := fun x h => (nomatch h), free := A.free, con := A.con, cl := A.cl, cal := A.cal, exc := A.exc }
theorem takes_lam {A' : Around} {outer : List Env} {st : Shared} {H : Hp} {E : XK} {sco : Scope} {f co : Addr} : Takes (LamX.lamCx X A' outer st H E sco f co) (fun cls d _ G => E cls d G) := takes_of rfl rfl rfl rfl
/-- the heaps behind the making of a lambda -/
theorem grown {K : PySem.W.Frag} {mg : Str → Option Value} {S : Sto} {H H1 : Hp} (sr : SR K mg S H) (g : LamX.ExtN H H1) (tb : ∀ P x, S P = some (.tab x) → LamX.TabS H1 P ((x ++ ".<locals>.") ++ "<lambda>")) : SR K mg S H1 ∧ Ev S H S H1 := by
  have ev : Ev S H S H1 := fun a o h n f => ⟨g a o h n, f⟩
  have tk := ev.tk sr
  refine ⟨fun a o e => ?_, ev⟩
  have q := sr a o e
  cases o with
  | lst ds => obtain ⟨vs, z, r⟩ := q; exact ⟨vs, g _ _ z (fun _ y => nomatch y), r.mono tk⟩
  | dct ds => obtain ⟨vs, z, r⟩ := q; exact ⟨vs, g _ _ z (fun _ y => nomatch y), r.mono tk⟩
  | tab x => exact ⟨tb a x e, q.2⟩
  | dcn ds => obtain ⟨vs, z, nf, r, nd⟩ := q; exact ⟨vs, g _ _ z (fun _ y => nomatch y), nf, DnR.mono tk r, nd⟩
theorem ad_cau {f x : Str} {cs : List Str} {e : IE} {bd : Expr} {sco : Scope} {p lp pos : Pos} (A : Amb s C k X) (hg : glB s.sc f = true) (hn : okName f = true) (hh : s.here = some x) (hc : s.cau = some f) (hd : ∀ d ∈ cs, d ∈ s.hits) (hl : LamX.lamSB s.sc sco = true)
    (he : ∀ {X' : Cx} {W' : WX}, Amb (s.lmb sco) C k X' → Takes X' W' → pE X' W' C e bd) : pE X W C (.cau f x cs e) (.Call (.Name f p) [.Lambda ⟨[], [], none, [], [], none, []⟩ bd sco lp] [] pos) := by
  obtain ⟨ar, v, er, g, CS, pg, sg, dV, kV, doc, pm, cdv, ct, oc, an, od, osl, q1, q2, q3, q4, q5, q6, q7, q8, q9, q10, q11, q12, q13, q14, j1, cS, mke, mf, hk, lk, hcg, hb, Sg, d1, d2⟩ := A.err.cau f hc
  obtain ⟨l1, l2, l3⟩ := A.lam x hh
  have L : LamX.LamS X.env.scope sco := by rw [A.sc]; exact LamX.lamS_by hl
  refine pe_imp (pe_cau (t := fun E => tE X.K X.mg (fun cls d _ G => E cls d G) C e) cS mke (A.gl hg) mf hk lk hcg hb Sg l3 l2 (A.rm2 (by rw [hh]; rfl)) A.gu L rfl (fun _ _ _ _ _ => rfl)
    (fun A' outer st H E fl co gu rm => he (A.lmb L.kind gu rm) takes_lam) (okName_ok hn).1 d1 d2) ?_
  rintro σ H Q ⟨φ, S, q, E, fr, sr, ⟨⟨P, hP⟩, hw⟩, l, lx⟩
  have hP2 := (sr _ _ hP).2
  refine ⟨fun P q => ∃ x, S P = some (.tab x) ∧ q = (x ++ ".<locals>.") ++ "<lambda>", fun P q ⟨y, hy, eq⟩ => by rw [eq]; exact (sr _ _ hy).1, ⟨x, by rw [← hP2]; exact hP, by rw [l1]⟩, fun P q q' ⟨y, hy, eq⟩ ⟨y', hy', eq'⟩ => by rw [hy] at hy'; cases hy'; rw [eq, eq'], fun H1 gr tb => ?_⟩
  obtain ⟨s1, ev⟩ := grown sr gr fun P y hy => tb P _ ⟨y, hy, rfl⟩
  refine ⟨φ, S, _, _, fr.mono (ev.tk sr), s1, hw, fun z S2 u H2 hz e2 s2 _ => l _ S2 .non H2 hz (ev.trans e2) s2 .non, ?_⟩
  rintro c a S2 cls dx σ2 H2 ⟨hm, hq⟩ e2 s2 _ ⟨D, m1, rfl, rfl⟩
  obtain ⟨D2, m2, Cl, hit⟩ := A.err.hit c (hd c hm)
  rw [m1] at m2
  cases m2
  refine ⟨rfl, hit CS mke, fun b nb => ?_⟩
  obtain ⟨s3, e3⟩ := s2.new (o := ErrO (.ref D) b) nb
  exact l _ S2 (.ref b) _ hq ((ev.trans e2).trans e3) s3 (.exc upd_same m1)
end
end Pi

/-! PiSrtE: tuples can be sorted, empty ones among them too. -/
namespace Pi
open PySem L2 PyProof.Rows PySem.W PySem.SeqAt
theorem call_tuple_lt {A : Around} {s : Shared} {prog : Program} {w : World} {E : Value → Shared → Prop} {Q : Value → Shared → Prop} {l b : Addr} {items items2 : Array Value} {e r : Nat → Bool} (hl : s.heap.IsTuple l items) (hb : s.heap.IsTuple b items2)
    (he : ∀ j (h1 : j < items.size) (h2 : j < items2.size), EqAt A.in1 s items[j] items2[j] (e j)) (hr : ∀ j (h1 : j < items.size) (h2 : j < items2.size), e j = false → RcLt A.in1 s items[j] items2[j] (r j))
    (h : Q (.bool (firstLt e r (decide (items.size < items2.size)) (List.range (min items.size items2.size)))) s) : wpAny (model prog w) A (call (.builtin "tuple.__lt__") [.ref l, .ref b]) Q E s := by
  obtain ⟨⟨cls, dd, data, sl⟩, ho, hc, n, hd⟩ := id hl
  obtain ⟨⟨cls2, dd2, data2, sl2⟩, ho2, hc2, n2, hd2⟩ := id hb
  simp only at hc hd hc2 hd2
  subst hc hd hc2 hd2
  exact call_meets F.slot_tuple_lt ⟨_, ho, rfl⟩ F.entry_tuple_lt (F.args_tuple_lt_2 _ _) (tuple_ltAt l b items items2 n n2 dd dd2 sl sl2 e r) ⟨ho, ho2, he, hr, h⟩
theorem oneLt_tup {prog : Program} {w : World} {A : Around} {s : Shared} {E : Value → Shared → Prop} {f : Bool} {xs ys : List PyData} {a b : Value} {as bs : List Addr} {Q : Bool → Shared → Prop} (ra : Reads s.heap a (.tuple xs) as) (rb : Reads s.heap b (.tuple ys) bs) (h : alike (.tuple xs) (.tuple ys) = true)
    (hu : A.units + min (PyData.depth (.tuple xs)) (PyData.depth (.tuple ys)) < cLine) (hq : Q (dataLt (.tuple xs) (.tuple ys)) s) : wpAny (model prog w) A (oneLt' f a b) Q E s := by
  cases f with
  | false => exact oneLt_alike (fun e => nomatch e) ra rb h (fun e => nomatch e) hu hq
  | true =>
    have hal : alikeAll xs ys = true := by simpa [alike] using h
    cases ra with
    | @tuple l o vs n _ as₁ h1 h2 h3 h4 =>
      cases rb with
      | @tuple l' o' vs' n' _ bs₁ k1 k2 k3 k4 =>
        have n1 : vs.size = xs.length := by simpa using ReadsAll.length _ _ _ h4
        have n2 : vs'.size = ys.length := by simpa using ReadsAll.length _ _ _ k4
        rw [dataLt_tuple, ← firstLt_toks xs ys hal, ← n1, ← n2] at hq
        rw [oneLt'_eq]
        simp only [if_true]
        refine wpAny_bind (wpAny_cRoomFor (room_here hu) ?_)
        refine wpAny_bind (wpAny_callSpecialIfBound?_slot (T := "tuple") ⟨_, h1, h2⟩ F.slot_tuple_lt (call_tuple_lt (e := pairEq xs ys) (r := fun j => dataLt (xs.getD j .none) (ys.getD j .none)) ⟨_, h1, h2, _, h3⟩ ⟨_, k1, k2, _, k3⟩ (fun j j1 j2 => ?_) (fun j j1 j2 hj => ?_) ?_))
        · have := eqAt_alikeAll xs ys A.in1 s vs.toList vs'.toList _ _ h4 k4 hal (room_in hu) j (by simpa using j1) (by simpa using j2)
          simpa using this
        · have := rcLt_alikeAll xs ys A.in1 s vs.toList vs'.toList _ _ h4 k4 hal (room_in hu) j (by simpa using j1) (by simpa using j2) hj
          simpa using this
        · exact wpAny_truthy_bool hq
/-- tuples and their first items -/
def TupOpt (h : Heap) : List Value → List (Option Value) → Prop
  | [], [] => True
  | v :: vs, f :: fs => (∃ a o xs n, v = .ref a ∧ h.get? a = some o ∧ o.cls = .type "tuple" ∧ o.data = .seq xs n ∧ xs[0]? = f) ∧ TupOpt h vs fs
  | _, _ => False
theorem tupOpt_len {h : Heap} : ∀ {vs : List Value} {fs : List (Option Value)}, TupOpt h vs fs → fs.length = vs.length
  | [], [], _ => rfl
  | _ :: _, _ :: _, t => congrArg (· + 1) (tupOpt_len t.2)
  | [], _ :: _, t => t.elim
  | _ :: _, [], t => t.elim
section
variable {M : Model} {A : Around} {E : Value → Shared → Prop} {s : Shared}
theorem opt_firsts : ∀ (vs : List Value) (fs : List (Option Value)) {Q : List (Option Value) → Shared → Prop}, TupOpt s.heap vs fs → Q fs s → wpAny M A (vs.mapM firstOfTuple') Q E s
  | [], [], _, _, h => by rw [List.mapM_nil]; exact wpAny_pure h
  | [], _ :: _, _, t, _ => t.elim
  | _ :: _, [], _, t, _ => t.elim
  | v :: vs, f :: fs, Q, t, h => by
    obtain ⟨⟨a, o, xs, n, rfl, ho, hc, hd, hf⟩, t⟩ := t
    rw [List.mapM_cons]
    refine wpAny_bind ?_
    rw [kas_first_eq]
    refine wpAny_bind (Looks.here (show Looks M s.heap (typeOf (.ref a)) o.cls from (Looks.ld ho).andThen .now) ?_)
    rw [hc, if_neg (by first | decide | simp)]
    refine wpAny_bind (listItems_at ho hd (wpAny_pure ?_))
    rw [hf]
    exact wpAny_bind (opt_firsts vs fs (Q := fun bs s' => wpAny M A (pure (f :: bs)) Q E s') t (wpAny_pure h))
/-- the kind of keys of tuples, an empty one among them -/
def optKind (fs : List (Option Value)) : SortKind := if ((fs.toArray)[0]?.bind id).isSome then general' else oneType'
theorem opt_typeOf : ∀ {vs : List Value} {fs : List (Option Value)}, TupOpt s.heap vs fs → ∀ v ∈ vs, Looks M s.heap (typeOf v) (.type "tuple")
  | v :: vs, f :: fs, t, u, hu => by
    rcases List.mem_cons.mp hu with rfl | hu
    · obtain ⟨⟨a, o, xs, n, rfl, ho, hc, hd, hf⟩, t⟩ := t
      rw [← hc]
      exact (Looks.ld ho).andThen .now
    · exact opt_typeOf t.2 u hu
  | [], _, _, _, hu => nomatch hu
  | _ :: _, [], t, _, _ => t.elim
theorem opt_kind {vs : List Value} {fs : List (Option Value)} {Q : SortKind → Shared → Prop} (t : TupOpt s.heap vs fs) (hn : none ∈ fs) (h : Q (optKind fs) s) : wpAny M A (keyKind' vs.toArray) Q E s := by
  have ne : 0 < vs.length := by rw [← tupOpt_len t]; exact List.length_pos_of_mem hn
  rw [keyKind'_eq, List.mapM_toArray, map_eq_pure_bind]
  refine wpAny_bind (wpAny_bind (opt_firsts vs fs t (wpAny_pure ?_)))
  have nall : ¬ (fs.toArray.all fun x => x.isSome) = true := by
    simp only [List.all_toArray, List.all_eq_true]
    intro hh
    have := hh _ hn
    cases this
  rw [if_neg nall]
  unfold optKind at h
  by_cases hf : ((fs.toArray)[0]?.bind id).isSome = true
  · rw [if_pos hf] at h ⊢
    exact wpAny_pure h
  · rw [if_neg hf] at h ⊢
    rw [oneTypeOnly'_eq, List.mapM_toArray, map_eq_pure_bind]
    refine wpAny_bind (wpAny_bind (wpAny_bind (kas_mapM (r := Value.type "tuple") _ (fun v hv Q' hq => (opt_typeOf (M := M) t v hv).here hq) (wpAny_pure ?_))))
    obtain ⟨v₁, rest, rfl⟩ : ∃ v₁ rest, vs = v₁ :: rest := by
      match vs, ne with
      | v₁ :: rest, _ => exact ⟨v₁, rest, rfl⟩
    have hall : ((List.map (fun _ => Value.type "tuple") (v₁ :: rest)).toArray.all fun x => x == Value.type "tuple") = true := by
      simp only [List.all_toArray, List.all_map, List.all_eq_true]
      intro _ _
      rfl
    have h0 : (List.map (fun _ => Value.type "tuple") (v₁ :: rest)).toArray[0]? = some (Value.type "tuple") := by simp
    rw [h0]
    simp only [hall, if_true]
    exact wpAny_pure (wpAny_pure h)
end
theorem each_opt {h : Heap} : ∀ {vs : List Value} {ds : List PyData}, EachIs (fun v d => ∃ as, Reads h v d as) vs ds → (∀ d ∈ ds, ∃ xs, d = .tuple xs) → ∃ fs, TupOpt h vs fs ∧ (PyData.tuple [] ∈ ds → none ∈ fs)
  | _, _, .nil, _ => ⟨[], trivial, fun h => nomatch h⟩
  | _, _, .cons (b := d) ⟨as, r⟩ t, ht => by
    obtain ⟨fs, h1, h2⟩ := each_opt t fun d hd => ht d (List.mem_cons_of_mem _ hd)
    obtain ⟨xs, rfl⟩ := ht d (List.mem_cons_self ..)
    cases r with
    | @tuple a o vs n _ _ ho hc hd hr =>
      refine ⟨vs[0]? :: fs, ⟨⟨a, o, vs, n, rfl, ho, hc, hd, rfl⟩, h1⟩, fun hm => ?_⟩
      rcases List.mem_cons.mp hm with e | hm
      · injection e with e
        subst e
        have len := ReadsAll.length _ _ _ hr
        have : vs.size = 0 := by simpa using len
        exact List.mem_cons.mpr (.inl (by simp [this]))
      · exact List.mem_cons_of_mem _ (h2 hm)
/-- values that read as alike tuples can be sorted -/
theorem sorts_tups {prog : Program} {w : World} {A : Around} {s : Shared} {vs : List Value} {ds : List PyData} (e : EachIs (fun v d => ∃ as, Reads s.heap v d as) vs ds) (hal : AllAlike ds) (hk : ∀ d ∈ ds, ∃ xs, d = .tuple xs) (hu : ∀ d, d ∈ ds → A.units + d.depth < cLine) : SortsAt prog w A s (dataKind s.heap ds) vs := by
  by_cases hm : PyData.tuple [] ∈ ds
  case neg =>
    exact SortsAt.data e hal (.inl fun d hd => by
      obtain ⟨xs, rfl⟩ := hk d hd
      cases xs with
      | nil => exact absurd hd hm
      | cons x r => exact ⟨x, r, rfl⟩) hu
  case pos =>
    obtain ⟨fs, t, hn⟩ := each_opt e hk
    refine ⟨fun v hv => ?_, optKind fs, ?_, fun h2 E Q hq => opt_kind t (hn hm) hq⟩
    · obtain ⟨d, hd, as, r⟩ := e.left v hv
      exact ⟨_, dataKind_some hal hd r⟩
    · intro E x y a b Q ha hb hq
      obtain ⟨d, as, hd, ra, rfl⟩ := dataKind_inv ha
      obtain ⟨d', as', hd', rb, rfl⟩ := dataKind_inv hb
      have hdd := hal d hd d' hd'
      have hroom : A.units + min d.depth d'.depth < cLine := Nat.lt_of_le_of_lt (Nat.add_le_add_left (Nat.min_le_left _ _) _) (hu d hd)
      obtain ⟨xs, rfl⟩ := hk d hd
      obtain ⟨ys, rfl⟩ := hk d' hd'
      have key : ∀ f : Bool, wpAny (model prog w) A (oneLt' f x y) Q E s := fun f => oneLt_tup ra rb hdd hroom hq
      unfold optKind
      split
      · exact key false
      · rw [keyLt'_oneType]
        exact key true
theorem SrtOk.at {prog : Program} {w : World} {A : Around} {s : Shared} {vs : List Value} {ds : List PyData} (hk : SrtOk ds) (e : EachIs (fun v d => ∃ as, Reads s.heap v d as) vs ds) (hal : AllAlike ds) (hu : ∀ d, d ∈ ds → A.units + d.depth < cLine) : SortsAt prog w A s (dataKind s.heap ds) vs := by
  rcases hk with hk | hk
  · exact SortsAt.data e hal hk hu
  · exact sorts_tups e hal hk hu
/-- sorted(xs), tuples empty or not -/
theorem sorted_data' {prog : Program} {w : World} {A : Around} {E : Value → Shared → Prop} {s : Shared} {β : Type} {vs : List Value} {bs : List β} {enc : β → PyData} {R : Value → β → Prop} {l : Addr} {Q : Value → Shared → Prop} (hl : s.heap.IsList l vs.toArray) (e : EachIs R vs bs) (er : EachIs (fun v b => ∃ as, Reads s.heap v (enc b) as) vs bs) (hal : AllAlike (bs.map enc)) (hk : SrtOk (bs.map enc)) (hL : bs.length ≤ sizeLine)
    (hu : ∀ b, b ∈ bs → A.units + 2 + (enc b).depth < cLine) (h : ∀ out, out.length = bs.length → EachIs R out (bs.mergeSort (dataLe false enc)) → Q (.ref (s.heap.objs.size + 1)) { s with heap := sortedAll s.heap vs (List.toArray out) }) :
    wpAny (model prog w) A (call (.builtin "sorted") [.ref l]) Q E s := by
  have er' : EachIs (fun v b => ∃ as, Reads (sortingHeap (copyHeap s.heap vs) (s.heap.objs.size + 1) vs) v (enc b) as) vs bs := er.mono fun _ _ ⟨as, r⟩ => ⟨as, PyProof.Rows.Reads.keeps (fun _ _ => sorting_copy_old) r⟩
  exact sorted_vals hl (hk.at (s := { s with heap := sortingHeap (copyHeap s.heap vs) (s.heap.objs.size + 1) vs }) (each_map (R := fun v d => ∃ as, Reads (sortingHeap (copyHeap s.heap vs) (s.heap.objs.size + 1) vs) v d as) enc er') hal (bound_map hu)) (by rw [e.length]; exact hL)
    (h _ (by rw [sortVals_length false rfl]; exact e.length) (sortVals_data false e er' hal))
end Pi

/-! PiSrt: sorted(xs), sorted(xs, key=f). -/
namespace Pi
open PySem L2 PyProof.Rows PySem.W
variable [WD]
section
variable {K : PySem.W.Frag} {mg : Str → Option Value} {H : Hp}
abbrev RvD (K : PySem.W.Frag) (mg : Str → Option Value) (H : Hp) (u : Value) (d : D) : Prop := ∃ v, RelV v u ∧ Rp K mg H v d
theorem each_rv : ∀ {vs : List V} {us : List Value} {xs : List D}, Vals vs us → Rps K mg H vs xs → EachIs (RvD K mg H) us xs
  | _, _, _, .nil, r => by cases r; exact .nil
  | _, _, _, .cons a b, r => by cases r with | cons r1 r2 => exact .cons ⟨_, a, r1⟩ (each_rv b r2)
theorem each_zip {R : Value → D → Prop} : ∀ {us : List Value} {xs : List D} {ks : List PyData}, EachIs R us xs → xs.length = ks.length → EachIs (fun u (p : D × PyData) => R u p.1) us (xs.zip ks)
  | _, _, [], .nil, _ => .nil
  | _, _, [], .cons _ _, h => nomatch h
  | _, _, _ :: _, .nil, h => nomatch h
  | _, _, k :: ks, .cons a b, h => .cons a (each_zip b (Nat.succ.inj h))
theorem each_back : ∀ {us : List Value} {ps : List (D × PyData)}, EachIs (fun u (p : D × PyData) => RvD K mg H u p.1) us ps → ∃ vs, Vals vs us ∧ Rps K mg H vs (ps.map (·.1))
  | _, _, .nil => ⟨[], .nil, .nil⟩
  | _, _, .cons ⟨v, a, r⟩ b => by
    obtain ⟨vs, h1, h2⟩ := each_back b
    exact ⟨v :: vs, .cons a h1, .cons r h2⟩
theorem srtD_eq (xs : List D) (ks : List PyData) : srtD xs ks = ((xs.zip ks).mergeSort (dataLe false (fun p : D × PyData => p.2))).map (·.1) := rfl
theorem zip_snd {xs : List D} {ks : List PyData} (h : xs.length = ks.length) : (xs.zip ks).map (·.2) = ks := List.map_snd_zip (by omega)
theorem pyOfs_len : ∀ {S : Sto} {ks : List PyData} {xs : List D}, PyOfs S xs ks → xs.length = ks.length
  | _, _, _, .nil => rfl
  | _, _, _, .cons _ b => congrArg (· + 1) (pyOfs_len b)
end
section
variable {X : Cx}
def rSrt (K : PySem.W.Frag) (mg : Str → Option Value) : List V → Hp → VK → Prop := fun vs H Q => ∃ S d q v, vs = [v] ∧ SR K mg S H ∧ Rp K mg H v d ∧ srtW d S q ∧ Lk K mg S H q Q
theorem cr_srt (hu : X.A.units + 70 < cLine) : CallR X (.builtin "sorted") (rSrt X.K X.mg) := by
  intro pins s σ H vs us Q I r ⟨S, d, q, v, e, sr, rd, hb, l⟩
  subst e
  obtain ⟨xs, ks, ⟨a, e, h0⟩, h1, h2, h3, h4, h5, hq⟩ := hb
  subst e
  cases rd
  obtain ⟨vs, g, rr⟩ := sr.isL h0
  obtain ⟨its, rv, hl, hz⟩ := I.list (SqL.of g)
  rw [Vals.ref1 r]
  have len := pyOfs_len h1
  obtain ⟨as, ra⟩ := Dp.readsAll I ks vs its (h1.dp sr rr) rv
  have ee := each_zip (each_rv rv rr) len
  have er : EachIs (fun v (b : D × PyData) => ∃ as, Reads s.heap v b.2 as) its (xs.zip ks) := readsAll_each (fun p : D × PyData => p.2) (by rw [zip_snd len]; exact ra)
  have lz : (xs.zip ks).length = xs.length := by rw [List.length_zip]; omega
  refine sorted_data' (bs := xs.zip ks) (enc := fun p : D × PyData => p.2) hl.isList ee er (by rw [zip_snd len]; exact h2) (by rw [zip_snd len]; exact h3) (by rw [lz]; exact h5) (fun b hb => ?_) fun out hlen ho => ?_
  · have := h4 b.2 (List.of_mem_zip hb).2
    omega
  · obtain ⟨vs', rv', rr'⟩ := each_back ho
    rw [← srtD_eq] at rr'
    obtain ⟨ep, he'⟩ := sortedAll_at s.heap its out.toArray
    have n1 : vs'.length = out.length := rv'.length
    have hl' : vs'.length ≤ sizeLine := by omega
    exact ⟨.ref _, _, I.laid (o := .lst vs') (t' := s.toks) (fun _ _ => sortedAll_old) (Nat.le_succ _) ⟨hl', out, ep, rv', he'⟩, rfl, l.newL sr hq rr' _ (I.hok.fresh (Nat.le_succ _))⟩
end
section
variable {X : Cx} {k : Nat} {f : Addr} {fd : FuncData} {p0 : Str} {C : CallT} {nm : Str}
/-- what the def that is asked promises -/
abbrev spOf (K : PySem.W.Frag) (mg : Str → Option Value) (C : CallT) (nm : Str) (n : Nat) : Sp := fun vs H Q E => vs.length = n ∧ ∃ S ds q e, SR K mg S H ∧ Rps K mg H vs ds ∧ C nm ds S q e ∧ Lk K mg S H q Q ∧
      ∀ c a S' cls dx H', e c a S' → Ev S H S' H' → SR K mg S' H' → RX mg c cls dx → E cls dx H'
theorem key_call {A : Around} {pins : List (Addr × Obj)} {σ : L2.St} {H : Hp} {s : Shared} {Q : VK} {u : Value} {v : V} {d : D} {S : Sto} {q : KE} (F : FnG X.prog X.w X.K X.mg X.base k f fd [p0] (spOf X.K X.mg C nm 1)) (hr : Room k A) (hg : A.guards = some []) (hf : A.frames = some X.stack)
    (hb : ∀ us : List Value, us.length = 1 → bindArgs fd ⟨us, []⟩ = pure ([p0].zip us)) (I : Inv X pins σ H s) (r : RelV v u) (sr : SR X.K X.mg S H) (rd : Rp X.K X.mg H v d) (hc : C nm [d] S q fun _ _ _ => False) (l : Lk X.K X.mg S H q Q) :
    wpAny (model X.prog X.w) A (call (.ref f) [u]) (EP X pins σ Q) (fun _ _ => False) s := by
  have e0 : Env0 X.prog X.w X.K X.mg X.base A X.stack s H := { I.env0 with frames := hf }
  refine wpAny_call (codeAny_mono (F.run A X.stack s H ⟨[u], []⟩ [u] [v] Q (fun _ _ _ => False) hr hg e0 (.of_eq (hb [u] rfl)) (.cons r .nil) ⟨rfl, S, [d], q, _, sr, .cons rd .nil, hc, l, fun _ _ _ _ _ _ h => h.elim⟩) fun r s' hq => ?_)
  cases r with
  | error e =>
    obtain ⟨_, _, _, _, _, _, _, _, _, _, _, _, h⟩ := hq
    exact h.elim
  | ok fl =>
    cases fl with
    | ret u => exact I.after hq
    | next => exact False.elim hq
    | brk => exact False.elim hq
    | cont => exact False.elim hq
/-- the key list's one turn, the rest -/
theorem fp_keep {pins pl : List (Addr × Obj)} {σ' : L2.St} {H H' : Hp} {s' : Shared} {b : Addr} {o : Obj} (f : FpOk X pins H b) (I : Inv X (pins ++ pl) σ' H' s') (m : (b, o) ∈ pl) : FpOk X pins H' b ∧ s'.heap.get? b = some o := by
  have z := I.pin (b, o) (List.mem_append_right _ (List.mem_append_right _ m))
  exact ⟨⟨z.2.1, f.2.1, f.2.2.1, f.2.2.2.1, f.2.2.2.2.1, f.2.2.2.2.2⟩, z.1⟩
theorem rps_snoc {K : PySem.W.Frag} {mg : Str → Option Value} {H : Hp} {vs : List V} {ds : List D} {v : V} {d : D} (a : Rps K mg H vs ds) (b : Rp K mg H v d) : Rps K mg H (vs ++ [v]) (ds ++ [d]) := a.app (.cons b .nil)
/-- the keys so far -/
def KyI (X : Cx) (S0 : Sto) (H0 : Hp) (H : Hp) (S : Sto) (ks : List PyData) (us : List Value) : Prop :=
  SR X.K X.mg S H ∧ ExtS S0 S ∧ Ev S0 H0 S H ∧ Tk X.K H0 H ∧ ∃ vs ds, Vals vs us ∧ Rps X.K X.mg H vs ds ∧ PyOfs (fun _ => none) ds ks
theorem pyOfs_snoc {S : Sto} {d : D} {k : PyData} (h : PyOf S d k) : ∀ {ds : List D} {ks : List PyData}, PyOfs S ds ks → PyOfs S (ds ++ [d]) (ks ++ [k])
  | _, _, .nil => .cons h .nil
  | _, _, .cons a b => .cons a (pyOfs_snoc h b)
theorem vals_snoc {v : V} {u : Value} (h : RelV v u) : ∀ {vs : List V} {us : List Value}, Vals vs us → Vals (vs ++ [v]) (us ++ [u])
  | _, _, .nil => .cons h .nil
  | _, _, .cons a b => .cons a (vals_snoc h b)
mutual
theorem PyOf.any {S : Sto} : ∀ {p : PyData} {d : D}, PyOf (fun _ => none) d p → PyOf S d p
  | _, _, .non => .non
  | _, _, .bl _ => .bl _
  | _, _, .int _ => .int _
  | _, _, .str _ => .str _
  | _, _, .tup h => .tup (PyOfs.any h)
  | _, _, .lst h _ => nomatch h
theorem PyOfs.any {S : Sto} : ∀ {ps : List PyData} {ds : List D}, PyOfs (fun _ => none) ds ps → PyOfs S ds ps
  | _, _, .nil => .nil
  | _, _, .cons a b => .cons (PyOf.any a) (PyOfs.any b)
end
theorem srk_rest {A : Around} {pins : List (Addr × Obj)} {σ : L2.St} {H : Hp} {s : Shared} {E : Value → Shared → Prop} {a kS : Addr} {e1 : Nat} {its : List Value} {vs : List V} {xs : List D} {ks : List PyData} {S : Sto}
    (F : FnG X.prog X.w X.K X.mg X.base k f fd [p0] (spOf X.K X.mg C nm 1)) (hr : Room k A) (hg : A.guards = some []) (hf : A.frames = some X.stack) (hb : ∀ us : List Value, us.length = 1 → bindArgs fd ⟨us, []⟩ = pure ([p0].zip us))
    (I : Inv X pins σ H s) (fa : FpOk X pins H a) (fk : FpOk X pins H kS) (na : s.heap.get? a = some (seqObj "list" #[] e1)) (nk : s.heap.get? kS = some (seqObj "list" #[] 0)) (hka : kS ≠ a)
    (rv : Vals vs its) (rr : Rps X.K X.mg H vs xs) (sr : SR X.K X.mg S H) (len : xs.length = ks.length) (hz : xs.length ≤ sizeLine)
    (hC : ∀ p ∈ xs.zip ks, ∀ S', ExtS S S' → C nm [p.1] S' (fun v S'' => ExtS S' S'' ∧ PyOf (fun _ => none) v p.2) fun _ _ _ => False) (hal : AllAlike ks) (hsk : Sortable ks) (hu : ∀ d, d ∈ ks → A.units + d.depth < cLine) :
    wpAny (model X.prog X.w) A (ksk_rest a (.ref f) false its.toArray e1 (.ref kS)) (fun fin s' => fin = .done (.ret .none) ∧ ∃ H' S' out c, Inv X pins σ H' s' ∧ SR X.K X.mg S' H' ∧ ExtS S S' ∧ Ev S H S' H' ∧ FpOk X pins H' a ∧
      s'.heap.get? a = some (seqObj "list" (List.toArray out) c) ∧ EachIs (fun u (p : D × PyData) => RvD X.K X.mg H' u p.1) out ((xs.zip ks).mergeSort (dataLe false fun p : D × PyData => p.2))) E s := by
  have n1 : vs.length = its.length := rv.length
  have n2 : vs.length = xs.length := rr.len
  unfold ksk_rest
  refine wpAny_bind (wpAny_rule ?_)
  rw [List.forIn_toArray]
  refine wpAny_bind (ksk_fold (fun i s' => ∃ H' S' kA e, Inv X pins σ H' s' ∧ FpOk X pins H' a ∧ FpOk X pins H' kS ∧ s'.heap.get? a = some (seqObj "list" #[] e1) ∧ s'.heap.get? kS = some (seqObj "list" kA e) ∧ KyI X S H H' S' (ks.take i) kA.toList) its 0 s
    ⟨H, S, #[], 0, I, fa, fk, na, nk, sr, fun _ _ h => h, Ev.refl, .refl, [], [], .nil, .nil, by rw [List.take_zero]; exact .nil⟩ ?step ?done)
  case step =>
    rintro j x s1 hx ⟨H1, S1, kA, e, I1, fa1, fk1, na1, nk1, sr1, ex1, ev1, tk1, kvs, kds, r1, r2, r3⟩
    simp only [Nat.zero_add] at r3 ⊢
    have hj : j < its.length := (List.getElem?_eq_some_iff.mp hx).1
    have hjx : j < xs.length := by omega
    have hjk : j < ks.length := by omega
    have hjv : j < vs.length := by omega
    have hxd : xs[j]? = some xs[j] := List.getElem?_eq_getElem hjx
    have hkd : ks[j]? = some ks[j] := List.getElem?_eq_getElem hjk
    have mem : (xs[j], ks[j]) ∈ xs.zip ks := List.mem_of_getElem? (i := j) (by rw [List.getElem?_zip_eq_some]; exact ⟨hxd, hkd⟩)
    have rvj : RelV vs[j] x := by
      have := Vals.get rv (List.getElem?_eq_getElem hjv)
      obtain ⟨u, e1, e2⟩ := this
      rw [hx] at e1
      cases e1
      exact e2
    obtain ⟨w, hw, rw_⟩ := rr.get hxd
    rw [List.getElem?_eq_getElem hjv] at hw
    injection hw with hw
    subst hw
    have I1p := I1.pinned (fp := [a, kS]) (fun b hb => by
      rcases List.mem_cons.mp hb with e | hb
      · subst e; exact fa1
      · rw [List.mem_singleton.mp hb]; exact fk1) (fun b hb => by
      rcases List.mem_cons.mp hb with e | hb
      · subst e; exact ⟨_, na1, fun _ z => nomatch z⟩
      · rw [List.mem_singleton.mp hb]; exact ⟨_, nk1, fun _ z => nomatch z⟩)
    have ma : (a, seqObj "list" #[] e1) ∈ pinsAt [a, kS] s1.heap := mem_pinsAt (by simp) na1
    have mk : (kS, seqObj "list" kA e) ∈ pinsAt [a, kS] s1.heap := mem_pinsAt (by simp) nk1
    refine wpAny_bind (wpAny_attempt (wpAny_mono (key_call (Q := fun v H2 => ∃ S2 d, SR X.K X.mg S2 H2 ∧ Ev S1 H1 S2 H2 ∧ Rp X.K X.mg H2 v d ∧ ExtS S1 S2 ∧ PyOf (fun _ => none) d ks[j]) F hr hg hf hb I1p rvj sr1 (rw_.mono tk1) (hC _ mem S1 ex1) fun z S2 v H2 hq ev2 s2 rp => ⟨S2, z, s2, ev2, rp, hq.1, hq.2⟩)
      (fun u s2 he => ?_) fun _ _ hF => hF.elim))
    obtain ⟨v, H2, I2, ru, S2, d, sr2, ev2, rp, ex2, hd⟩ := he
    obtain ⟨fa2, na2⟩ := fp_keep fa1 I2 ma
    obtain ⟨fk2, nk2⟩ := fp_keep fk1 I2 mk
    have I2' := I2.unpinned (pins := pins)
    have hz2 : kA.size ≤ sizeLine := by
      have l1 := r1.length
      have l2 := r2.len
      have l3 := pyOfs_len r3
      rw [List.length_take] at l3
      rw [← Array.length_toList]
      omega
    have sb := Heap.SameBut.update s2.heap kS (Obj.mapSeq (·.push u))
    obtain ⟨c2, hc2⟩ : ∃ c2, (s2.heap.update kS (Obj.mapSeq (·.push u))).get? kS = some (seqObj "list" (kA.push u) c2) := ⟨_, get?_update_seq nk2 (·.push u)⟩
    have ek : ks.take (j + 1) = ks.take j ++ [ks[j]] := by rw [List.take_add_one, hkd]; rfl
    have ea : (kA.push u).toList = kA.toList ++ [u] := by simp
    have hs : kA.size < sizeLine + 1 := by omega
    refine wpAny_bind (listUpdate_at nk2 rfl ?_ hz2 (by rw [Array.size_push]; exact hs))
    have t2 := ev2.tk sr1
    refine wpAny_pure ⟨rfl, H2, S2, kA.push u, c2, I2'.turned (t' := s2.toks) (fun b o hbk e => (sb.2 b hbk).trans e) fk2.1 fk2.2.1 fk2.2.2.2.1 fk2.2.2.2.2.1 fk2.2.2.2.2.2, fa2, fk2, (sb.2 a hka.symm).trans na2, hc2, sr2, fun p o h => ex2 p o (ex1 p o h), ev1.trans ev2, tk1.trans t2,
      kvs ++ [v], kds ++ [d], ?_, rps_snoc (r2.mono t2) rp, ?_⟩
    · rw [ea]; exact vals_snoc ru r1
    · rw [ek]; exact pyOfs_snoc hd r3
  case done =>
    rintro s1 ⟨H1, S1, kA, e, I1, fa1, fk1, na1, nk1, sr1, ex1, ev1, tk1, kvs, kds, r1, r2, r3⟩
    have e3 : ks.take (0 + its.length) = ks := List.take_of_length_le (by omega)
    rw [e3] at r3
    obtain ⟨as, ra⟩ := Dp.readsAll I1 ks kvs kA.toList ((PyOfs.any r3).dp sr1 r2) r1
    have hk : EachIs (fun v (q : PyData) => ∃ as, Reads s1.heap v q as) kA.toList ks := by
      have := readsAll_each (fun q : PyData => q) (h := s1.heap) (vs := kA.toList) (bs := ks) (as := as) (by rw [List.map_id']; exact ra)
      exact this
    have hsz : kA.size = its.length := by
      have h1 := hk.length
      rw [Array.length_toList] at h1
      omega
    refine wpAny_bind (listItems_at nk1 rfl ?_)
    have hid : (PySem.W.hideAll s1.heap [kS]).get? kS = none := PySem.W.hideAll_none _ (List.mem_singleton.mpr rfl)
    have kp : KeepsBut a (PySem.W.hideAll s1.heap [kS]) s1.heap := fun b o _ e => PySem.W.of_hideAll _ e
    refine keyH_end (κ := dataKind s1.heap ks) (h₁ := PySem.W.hideAll s1.heap [kS]) kp hid nk1 na1 hka (SortsAt.data hk hal hsk hu) hsz (by omega) fun h3 tk3 c k3 n3 => ⟨rfl, H1, S1, _, c, ?_, sr1, ex1, ev1, fa1, n3, ?_⟩
    · refine I1.turnedL (t' := tk3) (ch := [a, kS]) (fun b o hb e => ?_) fun b hb => ?_
      · have hb1 : b ≠ a := fun z => hb (by simp [z])
        have hb2 : b ≠ kS := fun z => hb (by simp [z])
        exact k3 b o hb1 (PySem.W.hideAll_get _ e (by simpa using hb2))
      · rcases List.mem_cons.mp hb with e | hb
        · subst e; exact fa1
        · rw [List.mem_singleton.mp hb]; exact fk1
    · have ez : (xs.zip ks).map (fun p : D × PyData => p.2) = ks := zip_snd len
      refine keyedOut_each (rev := false) (fun p : D × PyData => p.2) (vs := its) ⟨s1.heap, kA.toList, by rw [ez]; exact hal, by rw [ez], by rw [ez]; exact hk⟩ ?_
      exact each_zip (each_rv rv (rr.mono tk1)) len
theorem boot_sorted : bootBuiltins ("sorted" : Str) = some (.builtin "sorted") := by decide +kernel
def rSrk (K : PySem.W.Frag) (mg : Str → Option Value) (C : CallT) (nm : Str) (f : Addr) : List V → List V → Hp → VK → Prop := fun vs zs H Q => ∃ S d q v, vs = [v] ∧ zs = [.ref f] ∧ SR K mg S H ∧ Rp K mg H v d ∧ srkW C nm d S q ∧ Lk K mg S H q Q
theorem collect_tup {A : Around} {s : Shared} {prog : Program} {w : World} {E : Value → Shared → Prop} {l : Addr} {vs : List Value} {Q : List Value → Shared → Prop} (hl : s.heap.IsTuple l vs.toArray)
    (h : Q vs { s with heap := (s.heap.push (seqObj "list" #[] 0)).update s.heap.objs.size (Obj.mapSeq (· ++ vs.toArray)) }) (hsz : vs.length ≤ sizeLine) :
    wpAny (model prog w) A (collect (.ref l)) Q E s := by
  obtain ⟨o, ho, hc, n, hd⟩ := id hl
  unfold collect
  refine wpAny_bind (wpAny_runValue (codeAny_builtin entry_proto_collect' ?_))
  show wpAny _ _ (do again (.builtin "list.__iadd__" ⟨[← newList [], .ref l], []⟩)) _ _ s
  refine wpAny_bind (wpAny_newList (wpAny_pure ⟨Code.quiet_builtin _ (by decide +kernel), codeAny_builtin entry_list_iadd' ?_⟩))
  show wpAny _ _ (Builtin.List.listExtendWith (.ref s.heap.objs.size) (.ref l) (.ref s.heap.objs.size)) _ _ { s with heap := s.heap.push (seqObj "list" #[] 0) }
  unfold Builtin.List.listExtendWith
  have ho' : (s.heap.push (seqObj "list" #[] 0)).get? l = some o := Heap.get?_push_of_some _ ho
  refine wpAny_bind (wpAny_typeOf (T := "tuple") ⟨o, ho', hc⟩ ?_)
  have ht : (Value.type "tuple" == Value.type "tuple") = true := by rfl
  rw [if_pos (by rw [ht]; simp)]
  refine wpAny_bind (listItems_at ho' hd ?_)
  refine wpAny_bind (listItems_at (xs := #[]) (n := 0) (Heap.get?_push_size _ rfl) rfl ?_)
  rw [if_neg (by simp)]
  refine wpAny_bind (listUpdate_at (xs := #[]) (n := 0) (Heap.get?_push_size _ rfl) rfl ?_ (Nat.zero_le _) (by show (#[] ++ vs.toArray).size ≤ sizeLine + 1; simp only [Array.size_append, List.size_toArray, List.length_nil]; omega))
  refine wpAny_pure ?_
  show wpAny (model prog w) A (do
      let o ← load s.heap.objs.size
      match o.data with
      | .seq xs _ => pure xs.toList
      | _ => unsupported "internal:collect") Q E { s with heap := (s.heap.push (seqObj "list" #[] 0)).update s.heap.objs.size (Obj.mapSeq (· ++ vs.toArray)) }
  refine wpAny_bind (wpAny_load (get?_update_seq (Heap.get?_push_size _ rfl) _) ?_)
  show wpAny _ _ (pure ((#[] : Array Value) ++ vs.toArray).toList) Q E _
  rw [show ((#[] : Array Value) ++ vs.toArray).toList = vs by simp]
  exact wpAny_pure h
/-- sorted(xs, ..) of a list or a tuple is list.sort(..) on a new list of xs's items -/
theorem sorted_of_both {A : Around} {s : Shared} {prog : Program} {w : World} {E : Value → Shared → Prop} {l : Addr} {vs : List Value} {kw : List (Str × Value)} {Q : Value → Shared → Prop} (hl : s.heap.IsList l vs.toArray ∨ s.heap.IsTuple l vs.toArray) (hL : vs.length ≤ sizeLine) (ha1 : argsOk "sorted" ⟨[.ref l], kw⟩) (ha2 : ∀ x, argsOk "list.sort" ⟨[.ref x], kw⟩)
    (body : ∀ E' : Value → Shared → Prop, wpAny (model prog w) A.in1.in1 (Builtin.«list.sort» ⟨[.ref (s.heap.objs.size + 1)], kw⟩) (fun f s' => f = .done (.ret .none) ∧ Q (.ref (s.heap.objs.size + 1)) s') E' { s with heap := copyHeap s.heap vs }) :
    wpAny (model prog w) A (call (.builtin "sorted") [.ref l] kw) Q E s := by
  rcases hl with hl | hl
  · exact sorted_of_sort hl hL ha1 ha2 body
  refine call_function_entry_kw kind_sorted plain_sorted entry_sorted ha1 ?_
  unfold Builtin.«sorted»
  refine wpAny_bind (m := checkCount "sorted" 1 1 _) (wpAny_pure ?_)
  refine wpAny_bind (collect_tup hl ?_ hL)
  refine wpAny_bind (wpAny_newList ?_ hL)
  have hsz : ((s.heap.push (seqObj "list" #[] 0)).update s.heap.objs.size (Obj.mapSeq (· ++ vs.toArray))).objs.size = s.heap.objs.size + 1 := by
    rw [Heap.size_update, size_push']
  show wpAny _ _ _ _ _ { s with heap := copyHeap s.heap vs }
  rw [hsz]
  refine wpAny_bind (wpAny_holding (wpAny_call_entry_kw slot_list_sort ⟨_, copyHeap_at s.heap vs, rfl⟩ entry_list_sort ?body (ha2 _)))
  case body =>
    show wpAny (model prog w) A.in1.in1 (Builtin.«list.sort» ⟨[.ref (s.heap.objs.size + 1)], kw⟩) _ _ _
    refine wpAny_mono (body _) (fun f s' hf => ?_) fun _ _ e => e
    obtain ⟨rfl, hq⟩ := hf
    exact ⟨_, rfl, wpAny_pure ⟨_, rfl, hq⟩⟩
theorem cr_srk (F : FnG X.prog X.w X.K X.mg X.base k f fd [p0] (spOf X.K X.mg C nm 1)) (hr : Room (k + 2) X.A) (hg : X.A.guards = some []) (hb : ∀ us : List Value, us.length = 1 → bindArgs fd ⟨us, []⟩ = pure ([p0].zip us)) :
    CallRK X (.builtin "sorted") [Str.ofString "key"] (rSrk X.K X.mg C nm f) := by
  intro pins s σ H xs0 zs us ws Q I r rz ⟨S, d, q, v, e, e2, sr, rd, hb', l⟩
  subst e e2
  obtain ⟨xs, ks, hls, len, hC, hal, hsk, hd, hz, hq⟩ := hb'
  obtain ⟨b, vs, its, e, rr, rv, hl, hz'⟩ : ∃ (b : Addr) (vs : List V) (its : List Value), v = .ref b ∧ Rps X.K X.mg H vs xs ∧ Vals vs its ∧ (s.heap.IsList b its.toArray ∨ s.heap.IsTuple b its.toArray) ∧ vs.length ≤ sizeLine := by
    cases rd with
    | tup g rr =>
      have hls : xs = _ := hls
      subst hls
      obtain ⟨its, rv, hl, hz'⟩ := I.tuple g
      exact ⟨_, _, its, rfl, rr, rv, .inr hl, hz'⟩
    | ref b =>
      obtain ⟨b', e, h0⟩ := hls
      cases e
      obtain ⟨vs, g, rr⟩ := sr.isL h0
      obtain ⟨its, rv, hl, hz'⟩ := I.list (SqL.of g)
      exact ⟨_, _, its, rfl, rr, rv, .inl hl.isList, hz'⟩
    | non => obtain ⟨b', e, h0⟩ := hls; cases e
    | bl => obtain ⟨b', e, h0⟩ := hls; cases e
    | int => obtain ⟨b', e, h0⟩ := hls; cases e
    | str => obtain ⟨b', e, h0⟩ := hls; cases e
    | fn => obtain ⟨b', e, h0⟩ := hls; cases e
    | cls => obtain ⟨b', e, h0⟩ := hls; cases e
    | fls => obtain ⟨b', e, h0⟩ := hls; cases e
    | exc => obtain ⟨b', e, h0⟩ := hls; cases e
  subst e
  obtain rfl := Vals.ref1 r
  obtain rfl := Vals.ref1 rz
  have n1 : vs.length = its.length := rv.length
  have n2 : vs.length = xs.length := rr.len
  have hr1 : Room k X.A.in1.in1 := Room.in1 (Room.in1 hr)
  refine sorted_of_both hl (by omega) (ksk_s1 _ _) (fun _ => ksk_l1 _ _) fun E' => ?_
  rw [show Builtin.«list.sort» ⟨[Value.ref (s.heap.objs.size + 1)], [Str.ofString "key"].zip [Value.ref f]⟩ = ksk_tree (s.heap.objs.size + 1) (.ref f) false from ksk_t1 f (s.heap.objs.size + 1)]
  obtain ⟨a, ha⟩ : ∃ a, s.heap.objs.size + 1 = a := ⟨_, rfl⟩
  rw [ha]
  have hc : (copyHeap s.heap its).get? a = some (seqObj "list" its.toArray 0) := by rw [← ha]; exact copyHeap_at s.heap its
  have ca : a < (copyHeap s.heap its).objs.size := Heap.lt_size hc
  obtain ⟨e1, ho1⟩ : ∃ e1, ((copyHeap s.heap its).update a (Obj.mapSeq fun _ => (#[] : Array Value))).get? a = some (seqObj "list" #[] e1) := ⟨_, get?_update_seq hc fun _ => #[]⟩
  have zl : its.length ≤ sizeLine := by omega
  unfold ksk_tree
  refine wpAny_bind (listItems_at hc rfl ?_)
  refine wpAny_bind (listUpdate_at hc rfl ?_ (by rw [List.size_toArray]; exact zl) (Nat.zero_le _))
  refine wpAny_bind (seqEpoch_at ho1 rfl ?_)
  refine wpAny_bind (wpAny_newTuple ?_ (by show its.length ≤ _; exact zl))
  refine wpAny_bind (wpAny_newList ?_ (Nat.zero_le _))
  refine wpAny_holding ?_
  obtain ⟨kS, hk⟩ : ∃ kS, (((copyHeap s.heap its).update a (Obj.mapSeq fun _ => (#[] : Array Value))).push (seqObj "tuple" its.toArray 0)).objs.size = kS := ⟨_, rfl⟩
  have hk2 : kS = (copyHeap s.heap its).objs.size + 1 := by rw [← hk, size_push', Heap.size_update]
  have hka : kS ≠ a := by omega
  obtain ⟨h1, hh1⟩ : ∃ h1, (((copyHeap s.heap its).update a (Obj.mapSeq fun _ => (#[] : Array Value))).push (seqObj "tuple" its.toArray 0)).push (seqObj "list" #[] 0) = h1 := ⟨_, rfl⟩
  have na : h1.get? a = some (seqObj "list" #[] e1) := by rw [← hh1]; exact Heap.get?_push_of_some _ (Heap.get?_push_of_some _ ho1)
  have nk : h1.get? kS = some (seqObj "list" #[] 0) := by rw [← hh1, ← hk]; exact Heap.get?_push_size _ rfl
  have keep : ∀ b o, s.heap.get? b = some o → h1.get? b = some o := fun b o e => by
    rw [← hh1]
    have ne : b ≠ a := by rw [← ha]; exact Nat.ne_of_lt (Nat.lt_succ_of_lt (Heap.lt_size e))
    exact Heap.get?_push_of_some _ (Heap.get?_push_of_some _ ((Heap.get?_update_ne _ _ _ _ ne).trans (copyHeap_old e)))
  show wpAny _ _ (ksk_rest a (.ref f) false its.toArray e1 (.ref (((copyHeap s.heap its).update a (Obj.mapSeq fun _ => (#[] : Array Value))).push (seqObj "tuple" its.toArray 0)).objs.size)) _ _ { s with heap := (((copyHeap s.heap its).update a (Obj.mapSeq fun _ => (#[] : Array Value))).push (seqObj "tuple" its.toArray 0)).push (seqObj "list" #[] 0) }
  rw [hk, hh1]
  have I1 : Inv X pins σ H { s with heap := h1, toks := s.toks } := I.kept keep
  have fresh : ∀ b, s.heap.objs.size ≤ b → FpOk X pins H b := fun b hb => I.fpOk hb (I.hok.fresh hb)
  refine wpAny_mono (srk_rest (xs := xs) (ks := ks) F hr1 hg I.ok.frames hb I1 (fresh a (by omega)) (fresh kS (by omega)) na nk hka rv rr sr len hz hC hal hsk (fun d hd' => ?_)) (fun fin s2 ⟨hf, H2, S2, out, c, I2, sr2, ex2, ev2, fa2, na2, ho⟩ => ⟨hf, ?_⟩) (fun _ _ h => h)
  · have := hr1.un
    have := hd d hd'
    omega
  · obtain ⟨vs', rv', rr'⟩ := each_back ho
    rw [← srtD_eq] at rr'
    have n3 : vs'.length = out.length := rv'.length
    have n4 : out.length = (xs.zip ks).length := by rw [ho.length, List.length_mergeSort]
    have n5 : (xs.zip ks).length ≤ xs.length := by rw [List.length_zip]; omega
    have hl' : vs'.length ≤ sizeLine := by omega
    obtain ⟨hp2, gg, dd, tt, oo⟩ := s2
    refine ⟨.ref a, upd H2 a (.lst vs'), I2.take (h' := hp2) (t' := tt) (o := .lst vs') (fun b o _ e => e) fa2 ⟨hl', out, c, rv', na2⟩, rfl, ?_⟩
    exact (l.after ev2).newL sr2 (hq S2 ex2) rr' a fa2.1
end
section
variable {s : SC} {C : CallT} {k : Nat} {X : Cx} {W : WX}
theorem ad_srt {a : IE} {x : Expr} {p pos : Pos} (A : Amb s C k X) (hg : glB s.sc ("sorted" : Str) = true) (hf : freeB s ("sorted" : Str) = true) (ha : pE X W C a x) (hx : notStar x = true) : pE X W C (.srt a) (.Call (.Name "sorted" p) [x] [] pos) := by
  refine pe_imp (pe_callB (cr_srt (by have := A.hu; omega)) (A.gl hg) (A.free _ hf) boot_sorted (pa_cons ha pa_nil (star_not hx)) (by decide) (by decide) (star_not hx) rfl) ?_
  rintro σ H Q ⟨φ, S, q, E, fr, sr, hw, l, lx⟩
  exact ⟨φ, S, _, E, fr, sr, hw, fun d S1 v H1 hz e1 s1 r => ⟨S1, d, q, v, rfl, s1, r, hz, l.after e1⟩, lx⟩
theorem ad_srk {f : Str} {fd : FD} {a : IE} {x : Expr} {p q2 q3 pos : Pos} (A : Amb s C k X) (hd : s.dp = true) (hg : glB s.sc ("sorted" : Str) = true) (hf : freeB s ("sorted" : Str) = true) (ha : pE X W C a x) (hx : notStar x = true) (gf : glB s.sc f = true) (nf : okName f = true) (hfd : s.tab.lookup f = some fd) (h1 : fd.ps.length = 1) :
    pE X W C (.srk f a) (.Call (.Name "sorted" p) [x] [⟨some "key", .Name f q2, q3⟩] pos) := by
  obtain ⟨fa, fdt, g, kp, hb, F, _⟩ := A.cal f fd hfd
  obtain ⟨p0, ep⟩ : ∃ p0, fd.ps = [p0] := List.length_eq_one_iff.mp h1
  rw [ep] at hb F
  have pf : PE X (.Name f q2) (tC (.ref fa)) := pe_glob (v := .ref fa) (A.gl gf) g rfl (okName_ok nf).1
  refine pe_imp (pe_callBK (cr_srk F (A.rm3 hd) A.gu (fun us e => hb us e)) (A.gl hg) (A.free _ hf) boot_sorted (pa_cons ha pa_nil (star_not hx)) (pk_cons pf pk_nil) (by decide) (by decide) (by rw [star_not hx]; rfl) (by rw [star_not hx]; rfl)) fun σ H Q ⟨φ, S, q, E, fr, sr, hw, l, lx⟩ => ?_
  have hw : wE C a φ S (fun x S1 => srkW C f x S1 q) E := hw
  exact ⟨φ, S, _, E, fr, sr, hw, fun d S1 v H1 hz e1 s1 r => ⟨S1, d, q, v, rfl, rfl, s1, r, hz, l.after e1⟩, lx⟩
end
end Pi

/-! PiSet: sets of keys of one kind (ints, texts), made of a list's items. -/
namespace Pi
open PySem PySem.Spec PyProof.Rows L2
section
variable {P : Program} {w : World} {K : Type} [DecidableEq K]
/-- a set's keys, in some order -/
def SetG (knd : KeyKind P w K) (kf : Value → K) (h : Heap) (a : Addr) (ks : List K) : Prop :=
  ∃ o es ep t, h.get? a = some o ∧ o.ExactSet ∧ o.data = .set es ep t ∧ ElemsOf knd es.toList ∧ (es.toList.map fun e => kf e.2).Perm ks ∧ ks.Nodup ∧
    es.size < scanBound ∧ t.fits es.size = true ∧ Ris t.place.toList ∧ (w.params.followText "set-order" = true ∨ t.led = true)
/-- what a key is read by -/
def Reads1 (knd : KeyKind P w K) (kf : Value → K) : Prop := ∀ k v, knd.is k v = true → kf v = k
variable {knd : KeyKind P w K} {kf : Value → K}
theorem SetG.at {h h' : Heap} {a : Addr} {ks : List K} (R : SetG knd kf h a ks) (k : ∀ o, h.get? a = some o → h'.get? a = some o) : SetG knd kf h' a ks := by
  obtain ⟨o, es, ep, t, ho, r⟩ := R
  exact ⟨o, es, ep, t, k o ho, r⟩
theorem elems_key {es : List (Int × Value)} (hk : Reads1 knd kf) (g : ElemsOf knd es) (k : K) : k ∈ es.map (fun e => kf e.2) ↔ ∃ e ∈ es, knd.is k e.2 = true := by
  rw [List.mem_map]
  constructor
  · rintro ⟨e, he, q⟩
    obtain ⟨⟨k0, h1, _⟩, _⟩ := g e he
    have := hk k0 e.2 h1
    exact ⟨e, he, by rw [← q, this]; exact h1⟩
  · rintro ⟨e, he, q⟩
    exact ⟨e, he, hk k e.2 q⟩
variable {A : Around} {E : Value → Shared → Prop} {s : Shared} {a : Addr}
theorem setG_store {g : Bool → Sem Unit} (hg : ∀ (b : Bool) (s₁ : Shared) (Q' : Unit → Shared → Prop), Q' () s₁ → wpAny (model P w) A (g b) Q' E s₁)
    {o : Obj} {es es1 : Array (Int × Value)} {ep : Nat} {t t2 : SetTable} {ks : List K} {d : Bool} {R : Option Bool → Shared → Prop} (ho : s.heap.get? a = some o) (hex : o.ExactSet) (hd : o.data = .set es ep t)
    (g1 : ElemsOf knd es1.toList) (p1 : (es1.toList.map fun e => kf e.2).Perm ks) (nd : ks.Nodup) (hb : es1.size < scanBound) (hf : t2.fits es1.size = true) (hr : Ris t2.place.toList) (hl : w.params.followText "set-order" = true ∨ t2.led = true)
    (hR : ∀ h', Heap.SameBut a s.heap h' → SetG knd kf h' a ks → R (some true) { s with heap := h' }) :
    wpAny (model P w) A (do
        storeSet a es1 t2
        if (!d && t2.tooFull) = true then do
            g (relayAll t2 es1 (SetTable.grown es1.size)).2.2
            storeSet a (relayAll t2 es1 (SetTable.grown es1.size)).1 (relayAll t2 es1 (SetTable.grown es1.size)).2.1
            pure (some true)
          else pure (some true)) R E s := by
  have ho1 := store_at (es' := es1) (t' := t2) ho hd
  have sb := Heap.SameBut.update s.heap a (Obj.putSet es1 t2)
  refine wpAny_bind (wpAny_storeSet_of ho hd ?_ (fits_of_scanBound hb))
  split
  · have q1 := relayAll_perm t2 es1 (SetTable.grown es1.size)
    have q2 := relayAll_fits t2 es1 (SetTable.grown es1.size)
    have q3 := relayAll_ris t2 es1 (SetTable.grown es1.size)
    have q4 := relayAll_led t2 es1 (SetTable.grown es1.size)
    generalize relayAll t2 es1 (SetTable.grown es1.size) = z at q1 q2 q3 q4 ⊢
    obtain ⟨es2, t3, gv⟩ := z
    dsimp only at q1 q2 q3 q4 ⊢
    have n2 : es2.size = es1.size := by rw [← Array.length_toList, q1.length_eq, Array.length_toList]
    have b2 : es2.size < scanBound := by omega
    refine wpAny_bind (hg _ _ _ (wpAny_bind (wpAny_storeSet_of ho1 rfl (wpAny_pure (hR _ (sb.trans (Heap.SameBut.update _ a _)) ?_)) (fits_of_scanBound b2))))
    exact ⟨_, es2, _, t3, store_at (es' := es2) (t' := t3) ho1 rfl, hex, rfl, fun e he => g1 e (q1.mem_iff.mp he), (q1.map _).trans p1, nd, b2, q2, q3, hl.imp id fun z => by rw [q4]; exact z⟩
  · exact wpAny_pure (hR _ sb ⟨_, es1, _, t2, ho1, hex, rfl, g1, p1, nd, hb, hf, hr, hl⟩)
theorem setG_add {k : K} {v : Value} {ks : List K} {Q : Bool → Shared → Prop} (hk : Reads1 knd kf) (hv : knd.is k v = true) (hsc : v.scannable = true) (R : SetG knd kf s.heap a ks) (room : ks.length + 1 < scanBound)
    (hQ : ∀ h' b, Heap.SameBut a s.heap h' → SetG knd kf h' a (if k ∈ ks then ks else k :: ks) → Q b { s with heap := h' }) :
    wpAny (model P w) A (setAddHashed a v (knd.hash k)) Q E s := by
  obtain ⟨o, es, ep, t, ho, hex, hd, g, pm, nd, hb, hf, hr, hl⟩ := R
  have hmem : ∀ x, x ∈ ks ↔ ∃ e ∈ es.toList, knd.is x e.2 = true := fun x => by rw [← pm.mem_iff]; exact elems_key hk g x
  unfold setAddHashed setAddHashedIn
  refine wpAny_holding (wpAny_bind (wpAny_setState_of ho hd hf ?_))
  dsimp only
  rw [byScan_of hsc hb g]
  simp only [↓reduceIte]
  unfold setAddByScan
  refine wpAny_bind (wpAny_bind (wpAny_rule (wpAny_bind (wpAny_setScan_of hv ho hd hf g ?_))))
  cases hi : List.findIdx? (fun e => knd.is k e.2) es.toList with
  | some j =>
    dsimp only
    obtain ⟨l1, l2, _⟩ := List.findIdx?_eq_some_iff_getElem.mp hi
    have m : k ∈ ks := (hmem k).mpr ⟨_, List.getElem_mem l1, l2⟩
    have q := hQ s.heap false (Heap.SameBut.refl a s.heap)
    rw [if_pos m] at q
    exact wpAny_pure (wpAny_pure (q ⟨o, es, ep, t, ho, hex, hd, g, pm, nd, hb, hf, hr, hl⟩))
  | none =>
    dsimp only
    have m : k ∉ ks := fun z => by
      obtain ⟨e, he, q⟩ := (hmem k).mp z
      have c := List.findIdx?_eq_none_iff.mp hi e he
      rw [q] at c
      cases c
    have q := fun h' => hQ h' true
    rw [if_neg m] at q
    have y1 := layNew_perm t es (knd.hash k) v
    have y2 := layNew_fits t es (knd.hash k) v
    have y3 := layNew_ris t es (knd.hash k) v hr
    have y4 := layNew_led t es (knd.hash k) v
    have gv : ∀ (b : Bool) (s₁ : Shared) (Q' : Unit → Shared → Prop), Q' () s₁ → wpAny (model P w) A (match b with | true => rule "set.scan.the-table-gave-way" | false => pure ()) Q' E s₁ := by
      intro b s₁ Q' z
      cases b
      · exact wpAny_pure z
      · exact wpAny_rule z
    generalize layNew t es (knd.hash k) v = z at y1 y2 y3 y4 ⊢
    obtain ⟨es1, t1, wd, ga⟩ := z
    dsimp only at y1 y2 y3 y4 ⊢
    rw [Array.toList_push] at y1
    have y5 := y1.trans (List.perm_append_singleton _ _)
    have e1 : ElemsOf knd es1.toList := fun e he => by
      rcases List.mem_cons.mp (y5.mem_iff.mp he) with z | z
      · rw [z]; exact ⟨⟨k, hv, rfl⟩, hsc⟩
      · exact g e z
    have p1 : (es1.toList.map fun e => kf e.2).Perm (k :: ks) := by
      have z := y5.map fun e => kf e.2
      rw [List.map_cons, hk k v hv] at z
      exact z.trans (pm.cons k)
    have nd1 : (k :: ks).Nodup := List.nodup_cons.mpr ⟨m, nd⟩
    have n1 : es1.size = ks.length + 1 := by
      have z := p1.length_eq
      rw [List.length_map, Array.length_toList, List.length_cons] at z
      exact z
    have b1 : es1.size < scanBound := by omega
    have l1 : w.params.followText "set-order" = true ∨ t1.led = true := hl.imp id fun z => by rw [y4]; exact z
    refine wpAny_bind (gv _ _ _ ?_)
    split
    · refine wpAny_bind ?_
      rw [hashByValue_scannable 8 hsc]
      refine wpAny_pure (setG_store gv ho hex hd e1 p1 nd1 b1 ?_ ?_ ?_ fun h' sb r => ?_)
      · first | (split <;> first | exact y2 | exact SetTable.fits_plain_off y2) | exact y2
      · first | (split <;> exact y3) | exact y3
      · first | (split <;> exact l1) | exact l1
      · dsimp only
        exact wpAny_pure (q h' sb r)
    · refine wpAny_bind (wpAny_pure ?_)
      simp only [↓reduceIte]
      refine setG_store gv ho hex hd e1 p1 nd1 b1 y2 y3 l1 fun h' sb r => ?_
      dsimp only
      exact wpAny_pure (q h' sb r)

theorem setG_loop {I : Addr} {fp wr : List Addr} {G : Array GenState → Array GenState → Prop} {n : Nat} {Pv : Nat → Value → Prop} {St : Nat → Shared → Prop} {R : Result → Shared → Prop} (hk : Reads1 knd kf)
    (W : WalksS P w A.in1 I fp wr G n Pv St) (S : Addr) (hSf : S ∉ fp) (xs : List K) (hn : n = xs.length) (hb : xs.length + 1 < scanBound) (hval : ∀ i v, Pv i v → ∃ k, xs[i]? = some k ∧ knd.is k v = true ∧ v.scannable = true) :
    ∀ (m i : Nat) (s : Shared), n - i = m → i ≤ n → St i s → (∃ ks, ks.length ≤ i ∧ (∀ x, x ∈ ks ↔ x ∈ xs.take i) ∧ SetG knd kf s.heap S ks) →
      (∀ s' ks, Moved (S :: wr) G s s' → ks.length ≤ n → (∀ x, x ∈ ks ↔ x ∈ xs) → SetG knd kf s'.heap S ks → R (.ok (.ret .none)) s') →
      codeAny (model P w) A (.builtin "set.update.loop" ⟨[.ref S, .ref I], []⟩) R s := by
  have nS : S ∉ wr := fun z => hSf (W.sub _ z)
  have sub : ∀ b ∈ wr, b ∈ S :: wr := fun b z => List.mem_cons_of_mem _ z
  intro m
  induction m with
  | zero =>
    intro i s hm hi st ⟨ks, c1, c2, c3⟩ hR
    have e : i = n := by omega
    subst e
    refine codeAny_builtin F.entry_set_update_loop ?_
    rw [Around.under_plainId F.plain_set_update_loop _]
    show wpAny _ A.in1 (pyNext (.ref I) >>= _) _ _ s
    refine wpAny_bind (W.done s _ _ st fun s' mv => ?_)
    show wpAny _ A.in1 (ret Value.none) _ _ s'
    rw [show xs.take i = xs from List.take_of_length_le (by omega)] at c2
    exact wpAny_pure (hR s' ks (mv.mono sub) c1 c2 (c3.at fun o z => mv.heap S o nS z))
  | succ m ih =>
    intro i s hm hi st ⟨ks, c1, c2, c3⟩ hR
    have lt : i < n := by omega
    refine codeAny_builtin F.entry_set_update_loop ?_
    rw [Around.under_plainId F.plain_set_update_loop _]
    show wpAny _ A.in1 (pyNext (.ref I) >>= _) _ _ s
    refine wpAny_bind (W.item i s _ _ lt st fun v s' pv st' mv => ?_)
    obtain ⟨k, k1, k2, k3⟩ := hval i v pv
    have c4 : SetG knd kf s'.heap S ks := c3.at fun o z => mv.heap S o nS z
    show wpAny _ A.in1 (holding [v] (setAdd S v) >>= _) _ _ s'
    refine wpAny_bind (wpAny_holding ?_)
    unfold setAdd
    refine wpAny_holding (wpAny_bind (knd.pyHash k2 ?_))
    refine setG_add (s := { s' with toks := s'.toks + 1 }) hk k2 k3 c4 (by omega) fun h' b sb c5 => ?_
    refine wpAny_pure ⟨plainId_quiet F.plain_set_update_loop _, ih (i + 1) _ (by omega) lt (W.frame _ s' _ _ st' (Nat.le_succ _) fun b hb o e => ?_) ⟨_, ?_, fun x => ?_, c5⟩ fun s'' ks2 mv2 q1 q2 q3 => ?_⟩
    · rw [sb.2 b (fun z : b = S => hSf (by rw [← z]; exact hb))]
      exact e
    · split
      · omega
      · rw [List.length_cons]; omega
    · rw [List.take_add_one, k1, List.mem_append]
      split
      · rename_i y
        rw [c2]
        refine ⟨.inl, fun z => z.elim id fun z => ?_⟩
        have z : x = k := by simpa using z
        rw [z]
        exact (c2 k).mp y
      · rw [List.mem_cons, c2]
        constructor
        · rintro (z | z)
          · right; simp [z]
          · exact .inl z
        · rintro (z | z)
          · exact .inr z
          · left; simpa using z
    · refine hR s'' ks2 (Moved.trans W.gtrans ((mv.mono sub).then_heap (Nat.le_succ _) fun b o hb e => ?_) mv2) q1 q2 q3
      rw [sb.2 b (fun z : b = S => hb (by rw [z]; exact List.mem_cons_self))]
      exact e
theorem setG_new {h : Heap} (ho : h.get? a = some { cls := .type "set", dict := none, data := .set #[] 0 (.fresh 0 0 (!w.params.followText "set-order")) }) : SetG knd kf h a [] :=
  ⟨_, #[], 0, _, ho, ⟨rfl, rfl, rfl⟩, rfl, (fun e he => by simp at he), .refl _, .nil, by decide, by rfl, List.Pairwise.nil, by
    show _ ∨ (!w.params.followText "set-order") = true
    cases w.params.followText "set-order"
    · exact .inr rfl
    · exact .inl rfl⟩

abbrev bareSet (w : World) : Obj := { cls := .type "set", dict := none, data := .set #[] 0 (.fresh 0 0 (!w.params.followText "set-order")) }
/-- set(a list), of keys of one kind -/
theorem call_setG {l : Addr} {items : Array Value} (xs : List K) {Q : Value → Shared → Prop} (hk : Reads1 knd kf) (hh : A.handled = none) (hl : s.heap.IsList l items) (hs : items.size = xs.length) (hb : xs.length + 1 < scanBound)
    (hval : ∀ (i : Nat) (v : Value), items[i]? = some v → ∃ k, xs[i]? = some k ∧ knd.is k v = true ∧ v.scannable = true)
    (h : ∀ (h' : Heap) (tk : Nat) (ks : List K), SetG knd kf h' s.heap.objs.size ks → ks.length ≤ xs.length → (∀ x, x ∈ ks ↔ x ∈ xs) → (∀ b o, s.heap.get? b = some o → h'.get? b = some o) → Q (.ref s.heap.objs.size) { s with heap := h', toks := tk }) :
    wpAny (model P w) A (call (.type "set") [.ref l]) Q E s := by
  obtain ⟨c, tl, hmro⟩ := F.called_set.mro
  have hmade := F.called_set.made
  have hsub := F.called_set.sub
  have h1 := F.called_set.notType
  have h2 := F.called_set.canCreate
  have hct := F.typeCall_set_1 (.ref l)
  refine wpAny_call (codeAny_of_tree ?_)
  show wpAny _ _ (callAny (.type "set") _) _ _ _
  refine wpAny_pure ⟨Code.quiet_builtin _ (by decide +kernel), codeAny_builtin F.entry_type_call ?_⟩
  rw [Around.under_plain (weight_type_call_type "set" [.ref l] []) rfl]
  repeat (any_goals (first | assumption | wp_step))
  refine codeAny_mono (code_set_led1 (.ref l) (E := E) (Q₁ := fun obj s₁ => obj = .ref s.heap.objs.size ∧ s₁ = { s with heap := s.heap.push (bareSet w) }) ⟨rfl, rfl⟩) fun r s₁ hr => ?_
  cases r with
  | error e => exact hr
  | ok fl =>
    cases fl with
    | ret obj =>
      obtain ⟨rfl, rfl⟩ := hr
      have hS : (s.heap.push (bareSet w)).get? s.heap.objs.size = some (bareSet w) := Heap.get?_push_size _ rfl
      have hT : Shared.TypeIs { s with heap := s.heap.push (bareSet w) } (.ref s.heap.objs.size) "set" := ⟨_, hS, rfl⟩
      have hli := F.called_set.init.lookup
      have hbi := F.called_set.init.bind (.ref s.heap.objs.size)
      repeat (any_goals (first | assumption | wp_step))
      refine codeAny_mono (codeAny_call_builtin (R := wants (fun r s₂ => r = .none ∧ ∃ h' tk ks, s₂ = { s with heap := h', toks := tk } ∧ SetG knd kf h' s.heap.objs.size ks ∧ ks.length ≤ xs.length ∧ (∀ x, x ∈ ks ↔ x ∈ xs) ∧
          (∀ b o, s.heap.get? b = some o → h'.get? b = some o)) E) F.called_set.init.plain F.entry_set_init (check_set_init_1 hT ?_)) fun r₂ s₂ hr₂ => ?_
      · obtain ⟨⟨ocls, odict, odata, oslots⟩, hol, hcl, nl, hdl⟩ := hl
        simp only at hcl hdl
        subst hcl; subst hdl
        have hol' : (s.heap.push (bareSet w)).get? l = some { cls := .type "list", dict := odict, data := .seq items nl, slots := oslots } := Heap.get?_push_of_some _ hol
        have hsls := F.sub_list_set
        have hslf := F.sub_list_frozenset
        have hne : (Value.type "list" == Value.type "dict") = false := by decide
        have hl1 : (s.heap.push (bareSet w)).IsList l items := ⟨_, hol', rfl, nl, rfl⟩
        unfold Builtin.«set.__init__» noKeywords Builtin.Frozenset.updateFrom
        generalize hPI : pyIter = PI
        wp_walk
        subst hPI
        refine wpAny_pyIter_list hl1 ?_
        refine wpAny_bind (wpAny_runValue ?_)
        have hlS : l < s.heap.objs.size := Heap.lt_size hol
        have hh3 : A.in1.in1.in1.handled = none := by simp [hh]
        have hneI : l ≠ (s.heap.push (bareSet w)).objs.size := by
          rw [Heap.size_push]; exact Nat.ne_of_lt (Nat.lt_succ_of_lt hlS)
        have hSf : s.heap.objs.size ∉ [(s.heap.push (bareSet w)).objs.size, l] := by
          rw [Heap.size_push]
          simp only [List.mem_cons, List.not_mem_nil, or_false, not_or]
          exact ⟨Nat.ne_of_lt (Nat.lt_succ_self _), Nat.ne_of_gt hlS⟩
        refine setG_loop hk ((Walks.list hh3 _ l hneI items).toS) s.heap.objs.size hSf xs hs hb hval (items.size - 0) 0 _ (by omega) (Nat.zero_le _)
          ⟨⟨_, Heap.get?_push_size _ rfl, rfl, rfl⟩, hl1.push _⟩ ⟨[], Nat.le_refl 0, fun x => by simp, setG_new (Heap.get?_push_of_some _ hS)⟩ ?_
        intro s' ks mv q1 q2 q3
        obtain ⟨h', g2, d', tk', os'⟩ := s'
        have eg : g2 = s.gens := mv.gens
        have ed : d' = s.drawn := mv.drawn
        have eo : os' = s.os := mv.os
        subst eg; subst ed; subst eo
        show wpAny _ _ _ _ _ _
        refine wpAny_pure ?_
        show wpAny _ _ (ret Value.none) _ _ _
        refine wpAny_pure ⟨rfl, h', tk', ks, rfl, q3, by omega, q2, fun b o e => ?_⟩
        have b0 : b < s.heap.objs.size := Heap.lt_size e
        refine mv.heap b o ?_ (Heap.get?_push_of_some _ (Heap.get?_push_of_some _ e))
        rw [Heap.size_push]
        simp only [List.mem_cons, List.not_mem_nil, or_false, not_or]
        exact ⟨Nat.ne_of_lt b0, Nat.ne_of_lt (Nat.lt_succ_of_lt b0)⟩
      · cases r₂ with
        | error e => exact hr₂
        | ok fl₂ =>
          cases fl₂ with
          | ret r =>
            obtain ⟨rfl, h', tk, ks, rfl, q3, q1, q2, q4⟩ := hr₂
            repeat (any_goals (first | assumption | wp_step))
            exact h _ _ _ q3 q1 q2 q4
          | _ => exact hr₂.elim
    | _ => exact hr.elim
end
end Pi

/-! PiSetS: sorted(set(..)). -/
namespace Pi
open PySem PySem.Spec PyProof.Rows L2 PySem.W
section
variable {P : Program} {w : World} {K : Type} [DecidableEq K] {knd : KeyKind P w K} {kf : Value → K} {A : Around} {E : Value → Shared → Prop} {s : Shared} {a : Addr}
theorem each_by {R : Value → K → Prop} : ∀ {vs : List Value}, (∀ v ∈ vs, R v (kf v)) → EachIs R vs (vs.map kf)
  | [], _ => .nil
  | v :: vs, h => .cons (h v List.mem_cons_self) (each_by fun u hu => h u (List.mem_cons_of_mem _ hu))
theorem sorted_setG {ks : List K} {Q : Value → Shared → Prop} (hk : Reads1 knd kf) (enc : K → PyData) (henc : ∀ (h : Heap) k v, knd.is k v = true → ∃ as, Reads h v (enc k) as) (hal : ∀ a b, alike (enc a) (enc b) = true) (hn : ∀ a, enc a ≠ .none ∧ ∀ xs, enc a ≠ .tuple xs) (hd0 : ∀ a, (enc a).depth = 0)
    (R : SetG knd kf s.heap a ks) (hh : A.handled = none) (hu : A.units + 70 < cLine)
    (hQ : ∀ s' p (out : List Value) (c : Nat) (bs : List K), (∀ b o, s.heap.get? b = some o → s'.heap.get? b = some o) → s'.gens = s.gens → s'.os = s.os → s.heap.objs.size ≤ p →
      s'.heap.get? p = some (seqObj "list" out.toArray c) → bs.Perm ks → EachIs (fun v k => knd.is k v = true) out (bs.mergeSort (dataLe false enc)) → Q (.ref p) s') :
    wpAny (model P w) A (call (.builtin "sorted") [.ref a]) Q E s := by
  obtain ⟨o, es, ep, t, ho, hex, hd, g, pm, nd, hb, hf, hr, hl⟩ := R
  refine Calls.call_function_entry kind_sorted plain_sorted entry_sorted (args_sorted1 _) ?_
  unfold Builtin.«sorted»
  refine wpAny_bind (m := checkCount "sorted" 1 1 _) (wpAny_pure ?_)
  refine wpAny_bind (collect_set (A := A.in1) hh ⟨o, ho, hex.1, hd⟩ hf hb hr hl fun s1 vs k1 hz g1 o1 pv => ?_)
  have vl : vs.length = es.size := by rw [pv.length_eq, List.length_map, Array.length_toList]
  have sb : scanBound ≤ sizeLine := by rw [sizeLine_eq]; unfold scanBound; omega
  have ev : EachIs (fun v k => knd.is k v = true) vs (vs.map kf) := each_by fun v hv => by
    obtain ⟨e, he, rfl⟩ := List.mem_map.mp (pv.mem_iff.mp hv)
    obtain ⟨⟨k, h1, _⟩, _⟩ := g e he
    rw [hk k _ h1]
    exact h1
  have pb : (vs.map kf).Perm ks := by
    have z := pv.map kf
    rw [List.map_map] at z
    exact z.trans pm
  refine wpAny_bind (wpAny_newList ?_ (by omega))
  have hoL : (s1.heap.push (seqObj "list" vs.toArray 0)).get? s1.heap.objs.size = some (seqObj "list" vs.toArray 0) := Heap.get?_push_size _ rfl
  have er : ∀ h : Heap, EachIs (fun v b => ∃ as, Reads h v (enc b) as) vs (vs.map kf) := fun h => ev.mono fun v k z => henc h k v z
  have hal' : AllAlike ((vs.map kf).map enc) := fun d hd d' hd' => by
    obtain ⟨x, _, rfl⟩ := List.mem_map.mp hd
    obtain ⟨y, _, rfl⟩ := List.mem_map.mp hd'
    exact hal x y
  have hsr : Sortable ((vs.map kf).map enc) := .inr fun d hd => by
    obtain ⟨x, _, rfl⟩ := List.mem_map.mp hd
    exact hn x
  refine wpAny_bind (wpAny_holding (wpAny_call_entry slot_list_sort ⟨_, hoL, rfl⟩ entry_list_sort ?_ (args_list_sort _)))
  refine list_sort_vals (s := { s1 with heap := s1.heap.push (seqObj "list" vs.toArray 0) }) hoL (SortsAt.data (each_map (R := fun v d => ∃ as, Reads (sortingHeap (s1.heap.push (seqObj "list" vs.toArray 0)) s1.heap.objs.size vs) v d as) enc (er _)) hal' hsr fun d hd => ?_) (by omega) ⟨_, rfl, ?_⟩
  · obtain ⟨x, _, rfl⟩ := List.mem_map.mp hd
    rw [hd0 x]
    simp only [Around.in1_units]
    omega
  · have so := sortVals_data (h' := sortingHeap (s1.heap.push (seqObj "list" vs.toArray 0)) s1.heap.objs.size vs) (enc := enc) false ev (er _) hal'
    obtain ⟨c, hc⟩ := sortedHeap_at (vs := vs) (out := (sortVals (dataKind (sortingHeap (s1.heap.push (seqObj "list" vs.toArray 0)) s1.heap.objs.size vs) ((vs.map kf).map enc)) false vs vs).toArray) hoL
    refine wpAny_pure ⟨_, rfl, hQ _ s1.heap.objs.size _ c (vs.map kf) (fun b u e => ?_) g1 o1 hz hc pb so⟩
    have q := k1 b u e
    have hlt := Heap.lt_size q
    show (sortedHeap (s1.heap.push (seqObj "list" vs.toArray 0)) s1.heap.objs.size vs _).get? b = some u
    rw [sortedHeap_old (Nat.ne_of_lt hlt) (by rw [size_push']; exact Nat.lt_succ_of_lt hlt)]
    exact Heap.get?_push_of_some _ q
end
end Pi

/-! PiSetE: sorted(set(xs)) as one expression, of texts or of ints. -/
namespace Pi
open PySem L2 PyProof.Rows PySem.W
/-- a kind of keys that stands for values of the layer -/
structure KT (P : Program) (w : World) (K : Type) [DecidableEq K] where
  knd : PySem.KeyKind P w K
  kf : Value → K
  enc : K → PyData
  mv : K → V
  rd : Reads1 knd kf
  is : ∀ k v, knd.is k v = true ↔ RelV (mv k) v
  sc : ∀ k v, knd.is k v = true → v.scannable = true
  rds : ∀ (h : Heap) k v, knd.is k v = true → ∃ as, Reads h v (enc k) as
  al : ∀ a b, alike (enc a) (enc b) = true
  nt : ∀ a, enc a ≠ .none ∧ ∀ xs, enc a ≠ .tuple xs
  dp : ∀ a, (enc a).depth = 0
def ktS (P : Program) (w : World) : KT P w Str where
  knd := PySem.strKind P w
  kf := fun v => match v with | .str x _ => x | _ => Str.empty
  enc := .str
  mv := .str
  rd := fun k v h => by obtain ⟨t, rfl⟩ := Value.isStrOf_shape h; rfl
  is := fun k v => by
    constructor
    · intro h
      exact Value.isStrOf_shape h
    · rintro ⟨t, rfl⟩
      exact strKind_is P w k t
  sc := fun k v h => by obtain ⟨t, rfl⟩ := Value.isStrOf_shape h; rfl
  rds := fun h k v e => by obtain ⟨t, rfl⟩ := Value.isStrOf_shape e; exact ⟨[], .str _ _⟩
  al := fun _ _ => rfl
  nt := fun _ => ⟨nofun, nofun⟩
  dp := fun _ => rfl
def ktI (P : Program) (w : World) : KT P w Int where
  knd := PySem.intKind P w
  kf := fun v => match v with | .int x _ => x | _ => 0
  enc := .int
  mv := .int
  rd := fun k v h => by obtain ⟨t, rfl⟩ := Value.isInt_shape h; rfl
  is := fun k v => by
    constructor
    · intro h
      exact Value.isInt_shape h
    · rintro ⟨t, rfl⟩
      exact intKind_is P w k t
  sc := fun k v h => by obtain ⟨t, rfl⟩ := Value.isInt_shape h; rfl
  rds := fun h k v e => by obtain ⟨t, rfl⟩ := Value.isInt_shape e; exact ⟨[], .int _ _⟩
  al := fun _ _ => rfl
  nt := fun _ => ⟨nofun, nofun⟩
  dp := fun _ => rfl
section
variable {X : Cx} {K : Type} [DecidableEq K] (t : KT X.prog X.w K)
/-- the set, as the layer keeps it -/
def SetH (a : Addr) (ks : List K) : HO := .ext fun h => SetG t.knd t.kf h a ks
theorem setH_new {H : Hp} {h : Heap} {a : Addr} {ks : List K} (R : SetG t.knd t.kf h a ks) : ObjOk X.prog X.w H h a (SetH t a ks) := by
  have ⟨o, _, _, _, ho, _⟩ := R
  exact ⟨R, ⟨o, ho⟩, fun h1 h2 p k => SetG.at p k⟩
def rSet : List V → Hp → VK → Prop := fun vs H Q => ∃ (l : Addr) (xs : List K), vs = [V.ref l] ∧ H l = some (.lst (xs.map t.mv)) ∧ xs.length + 1 < scanBound ∧
  ∀ (ks : List K) (p : Addr), ks.length ≤ xs.length → (∀ x, x ∈ ks ↔ x ∈ xs) → H p = none → Q (.ref p) (upd H p (SetH t p ks))
theorem vals_at {us : List Value} : ∀ {xs : List K}, Vals (xs.map t.mv) us → ∀ (i : Nat) (v : Value), us[i]? = some v → ∃ k, xs[i]? = some k ∧ t.knd.is k v = true ∧ v.scannable = true := by
  intro xs r i v hv
  have len : xs.length = us.length := by have := r.length; rwa [List.length_map] at this
  obtain ⟨lt, _⟩ := List.getElem?_eq_some_iff.mp hv
  have hx : xs[i]? = some (xs[i]'(by omega)) := List.getElem?_eq_getElem _
  obtain ⟨u, h1, h2⟩ := Vals.get (i := i) r (by rw [List.getElem?_map, hx]; rfl)
  rw [hv] at h1
  cases h1
  have := (t.is _ _).mpr h2
  exact ⟨_, hx, this, t.sc _ _ this⟩
theorem cr_setG (hc : X.calm = true) : CallR X (.type "set") (rSet t) := by
  intro pins s σ H vs us Q I r h
  obtain ⟨l, xs, rfl, hl, hb, q⟩ := h
  obtain ⟨its, rv, pl, hz⟩ := I.list (SqL.of hl)
  rw [Vals.ref1 r]
  have len : its.length = xs.length := by have := rv.length; rw [List.length_map] at this; omega
  refine call_setG xs t.rd (I.ok.hd hc) pl.isList (by rw [List.size_toArray]; exact len) hb (fun i v hv => vals_at t rv i v (by simpa using hv)) fun h' tk ks R le mem keep => ?_
  exact ⟨.ref s.heap.objs.size, _, I.laid (t' := tk) keep (Nat.le_refl _) (setH_new t R), rfl, q ks _ le mem (I.hok.fresh (Nat.le_refl _))⟩
def rSorted : List V → Hp → VK → Prop := fun vs H Q => ∃ (a : Addr) (ks : List K), vs = [V.ref a] ∧ H a = some (SetH t a ks) ∧ ks.length ≤ sizeLine ∧
  ∀ (us : List K) (p : Addr), us.Nodup → (∀ x, x ∈ us ↔ x ∈ ks) → us.Pairwise (fun a b => dataLe false t.enc a b = true) → H p = none → Q (.ref p) (upd H p (.lst (us.map t.mv)))
theorem each_vals : ∀ {out : List Value} {us : List K}, EachIs (fun v k => t.knd.is k v = true) out us → Vals (us.map t.mv) out
  | _, _, .nil => .nil
  | _, _, .cons a b => .cons ((t.is _ _).mp a) (each_vals b)
theorem cr_sortedG (hc : X.calm = true) (hu : X.A.units + 70 < cLine) : CallR X (.builtin "sorted") (rSorted t) := by
  intro pins s σ H vs us Q I r h
  obtain ⟨a, ks, rfl, ha, hz, q⟩ := h
  rw [Vals.ref1 r]
  have R : SetG t.knd t.kf s.heap a ks := (I.hok a _ ha).1
  have nd : ks.Nodup := by
    obtain ⟨_, _, _, _, _, _, _, _, _, nd, _⟩ := R
    exact nd
  refine sorted_setG t.rd t.enc t.rds t.al t.nt t.dp R (I.ok.hd hc) hu fun s' p out c bs k1 g o hp hg pm ev => ?_
  have rv := each_vals t ev
  have pm2 : (bs.mergeSort (dataLe false t.enc)).Perm ks := (List.mergeSort_perm bs _).trans pm
  have hn : H p = none := I.hok.fresh hp
  have hlen : ((bs.mergeSort (dataLe false t.enc)).map t.mv).length ≤ sizeLine := by rw [List.length_map, pm2.length_eq]; exact hz
  have J : Inv X pins σ (upd H p (.lst ((bs.mergeSort (dataLe false t.enc)).map t.mv))) { s with heap := s'.heap, gens := s'.gens, drawn := s'.drawn, toks := s'.toks } :=
    I.call (ch := []) (Un.laid k1 hp hn) (I.hok.laid k1 hp ⟨hlen, out, c, rv, hg⟩) (by rw [g]; exact I.bare) (fun _ z => nomatch z)
  have e : s' = { s with heap := s'.heap, gens := s'.gens, drawn := s'.drawn, toks := s'.toks } := by
    cases s'
    cases s
    cases o
    rfl
  rw [e]
  exact ⟨.ref p, _, J, rfl, q _ p (pm2.nodup_iff.mpr nd) (fun x => pm2.mem_iff) (sort_pairwise (sortLe_total _ _ _) bs) hn⟩
end
end Pi

/-! PiSetT: set(a tuple). -/
namespace Pi
open PySem PySem.Spec PyProof.Rows L2
section
variable {P : Program} {w : World} {K : Type} [DecidableEq K]
variable {knd : KeyKind P w K} {kf : Value → K}
variable {A : Around} {E : Value → Shared → Prop} {s : Shared} {a : Addr}
/-- set(a tuple), of keys of one kind -/
theorem call_setGT {l : Addr} {items : Array Value} (xs : List K) {Q : Value → Shared → Prop} (hk : Reads1 knd kf) (hh : A.handled = none) (hl : s.heap.IsTuple l items) (hs : items.size = xs.length) (hb : xs.length + 1 < scanBound)
    (hval : ∀ (i : Nat) (v : Value), items[i]? = some v → ∃ k, xs[i]? = some k ∧ knd.is k v = true ∧ v.scannable = true)
    (h : ∀ (h' : Heap) (tk : Nat) (ks : List K), SetG knd kf h' s.heap.objs.size ks → ks.length ≤ xs.length → (∀ x, x ∈ ks ↔ x ∈ xs) → (∀ b o, s.heap.get? b = some o → h'.get? b = some o) → Q (.ref s.heap.objs.size) { s with heap := h', toks := tk }) :
    wpAny (model P w) A (call (.type "set") [.ref l]) Q E s := by
  obtain ⟨c, tl, hmro⟩ := F.called_set.mro
  have hmade := F.called_set.made
  have hsub := F.called_set.sub
  have h1 := F.called_set.notType
  have h2 := F.called_set.canCreate
  have hct := F.typeCall_set_1 (.ref l)
  refine wpAny_call (codeAny_of_tree ?_)
  show wpAny _ _ (callAny (.type "set") _) _ _ _
  refine wpAny_pure ⟨Code.quiet_builtin _ (by decide +kernel), codeAny_builtin F.entry_type_call ?_⟩
  rw [Around.under_plain (weight_type_call_type "set" [.ref l] []) rfl]
  repeat (any_goals (first | assumption | wp_step))
  refine codeAny_mono (code_set_led1 (.ref l) (E := E) (Q₁ := fun obj s₁ => obj = .ref s.heap.objs.size ∧ s₁ = { s with heap := s.heap.push (bareSet w) }) ⟨rfl, rfl⟩) fun r s₁ hr => ?_
  cases r with
  | error e => exact hr
  | ok fl =>
    cases fl with
    | ret obj =>
      obtain ⟨rfl, rfl⟩ := hr
      have hS : (s.heap.push (bareSet w)).get? s.heap.objs.size = some (bareSet w) := Heap.get?_push_size _ rfl
      have hT : Shared.TypeIs { s with heap := s.heap.push (bareSet w) } (.ref s.heap.objs.size) "set" := ⟨_, hS, rfl⟩
      have hli := F.called_set.init.lookup
      have hbi := F.called_set.init.bind (.ref s.heap.objs.size)
      repeat (any_goals (first | assumption | wp_step))
      refine codeAny_mono (codeAny_call_builtin (R := wants (fun r s₂ => r = .none ∧ ∃ h' tk ks, s₂ = { s with heap := h', toks := tk } ∧ SetG knd kf h' s.heap.objs.size ks ∧ ks.length ≤ xs.length ∧ (∀ x, x ∈ ks ↔ x ∈ xs) ∧
          (∀ b o, s.heap.get? b = some o → h'.get? b = some o)) E) F.called_set.init.plain F.entry_set_init (check_set_init_1 hT ?_)) fun r₂ s₂ hr₂ => ?_
      · obtain ⟨⟨ocls, odict, odata, oslots⟩, hol, hcl, nl, hdl⟩ := hl
        simp only at hcl hdl
        subst hcl; subst hdl
        have hol' : (s.heap.push (bareSet w)).get? l = some { cls := .type "tuple", dict := odict, data := .seq items nl, slots := oslots } := Heap.get?_push_of_some _ hol
        have hsls := F.sub_tuple_set
        have hslf := F.sub_tuple_frozenset
        have hne : (Value.type "tuple" == Value.type "dict") = false := by decide
        have hl1 : (s.heap.push (bareSet w)).IsTuple l items := ⟨_, hol', rfl, nl, rfl⟩
        unfold Builtin.«set.__init__» noKeywords Builtin.Frozenset.updateFrom
        generalize hPI : pyIter = PI
        wp_walk
        subst hPI
        refine wpAny_pyIter_tuple hl1 ?_
        refine wpAny_bind (wpAny_runValue ?_)
        have hlS : l < s.heap.objs.size := Heap.lt_size hol
        have hh3 : A.in1.in1.in1.handled = none := by simp [hh]
        have hneI : l ≠ (s.heap.push (bareSet w)).objs.size := by
          rw [Heap.size_push]; exact Nat.ne_of_lt (Nat.lt_succ_of_lt hlS)
        have hSf : s.heap.objs.size ∉ [(s.heap.push (bareSet w)).objs.size, l] := by
          rw [Heap.size_push]
          simp only [List.mem_cons, List.not_mem_nil, or_false, not_or]
          exact ⟨Nat.ne_of_lt (Nat.lt_succ_self _), Nat.ne_of_gt hlS⟩
        refine setG_loop hk ((Walks.tuple hh3 _ l hneI items).toS) s.heap.objs.size hSf xs hs hb hval (items.size - 0) 0 _ (by omega) (Nat.zero_le _)
          ⟨⟨_, Heap.get?_push_size _ rfl, rfl, rfl⟩, hl1.push _⟩ ⟨[], Nat.le_refl 0, fun x => by simp, setG_new (Heap.get?_push_of_some _ hS)⟩ ?_
        intro s' ks mv q1 q2 q3
        obtain ⟨h', g2, d', tk', os'⟩ := s'
        have eg : g2 = s.gens := mv.gens
        have ed : d' = s.drawn := mv.drawn
        have eo : os' = s.os := mv.os
        subst eg; subst ed; subst eo
        show wpAny _ _ _ _ _ _
        refine wpAny_pure ?_
        show wpAny _ _ (ret Value.none) _ _ _
        refine wpAny_pure ⟨rfl, h', tk', ks, rfl, q3, by omega, q2, fun b o e => ?_⟩
        have b0 : b < s.heap.objs.size := Heap.lt_size e
        refine mv.heap b o ?_ (Heap.get?_push_of_some _ (Heap.get?_push_of_some _ e))
        rw [Heap.size_push]
        simp only [List.mem_cons, List.not_mem_nil, or_false, not_or]
        exact ⟨Nat.ne_of_lt b0, Nat.ne_of_lt (Nat.lt_succ_of_lt b0)⟩
      · cases r₂ with
        | error e => exact hr₂
        | ok fl₂ =>
          cases fl₂ with
          | ret r =>
            obtain ⟨rfl, h', tk, ks, rfl, q3, q1, q2, q4⟩ := hr₂
            repeat (any_goals (first | assumption | wp_step))
            exact h _ _ _ q3 q1 q2 q4
          | _ => exact hr₂.elim
    | _ => exact hr.elim
end
section
variable {X : Cx} {K : Type} [DecidableEq K] (t : KT X.prog X.w K)
def rSetT : List V → Hp → VK → Prop := fun vs H Q => ∃ (l : Addr) (xs : List K), vs = [V.ref l] ∧ SqT X.K H l (xs.map t.mv) ∧ xs.length + 1 < scanBound ∧
  ∀ (ks : List K) (p : Addr), ks.length ≤ xs.length → (∀ x, x ∈ ks ↔ x ∈ xs) → H p = none → Q (.ref p) (upd H p (SetH t p ks))
theorem cr_setGT (hc : X.calm = true) : CallR X (.type "set") (rSetT t) := by
  intro pins s σ H vs us Q I r h
  obtain ⟨l, xs, rfl, hl, hb, q⟩ := h
  obtain ⟨its, rv, pl, hz⟩ := I.tuple hl
  rw [Vals.ref1 r]
  have len : its.length = xs.length := by have := rv.length; rw [List.length_map] at this; omega
  refine call_setGT xs t.rd (I.ok.hd hc) (show s.heap.IsTuple l its.toArray from pl) (by rw [List.size_toArray]; exact len) hb (fun i v hv => vals_at t rv i v (by simpa using hv)) fun h' tk ks R le mem keep => ?_
  exact ⟨.ref s.heap.objs.size, _, I.laid (t' := tk) keep (Nat.le_refl _) (setH_new t R), rfl, q ks _ le mem (I.hok.fresh (Nat.le_refl _))⟩
end
end Pi

/-! PiSetA: sorted(set(xs)) follows its rule. -/
namespace Pi
open PySem L2 PyProof.Rows PySem.W
variable [WD]
section
variable {K : PySem.W.Frag} {mg : Str → Option Value} {H : Hp}
theorem rps_str : ∀ {vs : List V} {xs : List Str}, Rps K mg H vs (xs.map D.str) → vs = xs.map V.str
  | _, [], h => by cases h; rfl
  | _, x :: xs, h => by
    cases h with
    | cons a b =>
      cases a
      rw [rps_str b]
      rfl
theorem rps_int : ∀ {vs : List V} {xs : List Int}, Rps K mg H vs (xs.map D.int) → vs = xs.map V.int
  | _, [], h => by cases h; rfl
  | _, x :: xs, h => by
    cases h with
    | cons a b =>
      cases a
      rw [rps_int b]
      rfl
theorem rps_strL : ∀ xs : List Str, Rps K mg H (xs.map V.str) (xs.map D.str)
  | [] => .nil
  | x :: xs => .cons (.str x) (rps_strL xs)
theorem rps_intL : ∀ xs : List Int, Rps K mg H (xs.map V.int) (xs.map D.int)
  | [] => .nil
  | x :: xs => .cons (.int x) (rps_intL xs)
end
section
variable {s : SC} {C : CallT} {k : Nat} {X : Cx} {W : WX}
def rSet2 (X : Cx) : List V → Hp → VK → Prop := fun vs H Q => (rSet (ktS X.prog X.w) vs H Q ∨ rSet (ktI X.prog X.w) vs H Q) ∨ (rSetT (ktS X.prog X.w) vs H Q ∨ rSetT (ktI X.prog X.w) vs H Q)
def rSorted2 (X : Cx) : List V → Hp → VK → Prop := fun vs H Q => rSorted (ktS X.prog X.w) vs H Q ∨ rSorted (ktI X.prog X.w) vs H Q
theorem cr_set2 (hc : X.calm = true) : CallR X (.type "set") (rSet2 X) := fun pins s σ H vs us Q I r h => h.elim (fun h => h.elim (cr_setG _ hc pins s σ H vs us Q I r) (cr_setG _ hc pins s σ H vs us Q I r)) (fun h => h.elim (cr_setGT _ hc pins s σ H vs us Q I r) (cr_setGT _ hc pins s σ H vs us Q I r))
theorem cr_sorted2 (hc : X.calm = true) (hu : X.A.units + 70 < cLine) : CallR X (.builtin "sorted") (rSorted2 X) := fun pins s σ H vs us Q I r h => h.elim (cr_sortedG _ hc hu pins s σ H vs us Q I r) (cr_sortedG _ hc hu pins s σ H vs us Q I r)
theorem lsOf_cases {d : D} {S : Sto} {xs : List D} (h : LsOf d S xs) : (∃ b, d = .ref b ∧ IsL S b xs) ∨ d = .tup xs := by
  cases d <;> first | exact .inr (by rw [show xs = _ from h]) | exact .inl h
theorem boot_set : bootBuiltins ("set" : Str) = some (.type "set") := by decide +kernel
theorem ad_sset {a : IE} {x : Expr} {p p1 p2 pos : Pos} (A : Amb s C k X) (hg : glB s.sc ("sorted" : Str) = true) (hf : freeB s ("sorted" : Str) = true) (hg2 : glB s.sc ("set" : Str) = true) (hf2 : freeB s ("set" : Str) = true) (ha : pE X W C a x) (hx : notStar x = true) :
    pE X W C (.sset a) (.Call (.Name "sorted" p) [.Call (.Name "set" p1) [x] [] p2] [] pos) := by
  refine pe_imp (pe_callB (cr_sorted2 A.calm (by have := A.hu; omega)) (A.gl hg) (A.free _ hf) boot_sorted (pa_cons (pe_callTy (cr_set2 A.calm) (A.gl hg2) (A.free _ hf2) boot_set (pa_cons ha pa_nil (star_not hx)) (by decide) (by decide) (star_not hx) rfl) pa_nil rfl) (by decide) (by decide) rfl rfl) ?_
  rintro σ H Q ⟨φ, S, q, E, fr, sr, hw, l, lx⟩
  have hw : wE C a φ S (fun x S1 => ssW x S1 q) E := hw
  have sb : scanBound = 4096 := rfl
  have sz := sizeLine_eq
  refine ⟨φ, S, _, E, fr, sr, hw, fun d S1 v H1 hz e1 s1 r => ?_, lx⟩
  rcases hz with ⟨xs, ho, hl, hq⟩ | ⟨xs, ho, hl, hq⟩
  · rcases lsOf_cases ho with ⟨b, rfl, g⟩ | rfl
    · cases r
      obtain ⟨vs, g1, rr⟩ := s1.isL g
      have ev := rps_str rr
      subst ev
      refine .inl (.inl ⟨b, xs, rfl, g1, by omega, fun ks p le mem hp => ?_⟩)
      obtain ⟨s2, e2⟩ := s1.new (o := SetH (ktS X.prog X.w) p ks) hp
      exact .inl ⟨p, ks, rfl, upd_same, by omega, fun us p' nd mem' srt hp' => ((l.after e1).after e2).newL s2 (hq us nd (fun z => (mem' z).trans (mem z)) srt) (rps_strL us) p' hp'⟩
    · cases r with
      | tup g rr =>
        have ev := rps_str rr
        subst ev
        refine .inr (.inl ⟨_, xs, rfl, g, by omega, fun ks p le mem hp => ?_⟩)
        obtain ⟨s2, e2⟩ := s1.new (o := SetH (ktS X.prog X.w) p ks) hp
        exact .inl ⟨p, ks, rfl, upd_same, by omega, fun us p' nd mem' srt hp' => ((l.after e1).after e2).newL s2 (hq us nd (fun z => (mem' z).trans (mem z)) srt) (rps_strL us) p' hp'⟩
  · rcases lsOf_cases ho with ⟨b, rfl, g⟩ | rfl
    · cases r
      obtain ⟨vs, g1, rr⟩ := s1.isL g
      have ev := rps_int rr
      subst ev
      refine .inl (.inr ⟨b, xs, rfl, g1, by omega, fun ks p le mem hp => ?_⟩)
      obtain ⟨s2, e2⟩ := s1.new (o := SetH (ktI X.prog X.w) p ks) hp
      exact .inr ⟨p, ks, rfl, upd_same, by omega, fun us p' nd mem' srt hp' => ((l.after e1).after e2).newL s2 (hq us nd (fun z => (mem' z).trans (mem z)) srt) (rps_intL us) p' hp'⟩
    · cases r with
      | tup g rr =>
        have ev := rps_int rr
        subst ev
        refine .inr (.inr ⟨_, xs, rfl, g, by omega, fun ks p le mem hp => ?_⟩)
        obtain ⟨s2, e2⟩ := s1.new (o := SetH (ktI X.prog X.w) p ks) hp
        exact .inr ⟨p, ks, rfl, upd_same, by omega, fun us p' nd mem' srt hp' => ((l.after e1).after e2).newL s2 (hq us nd (fun z => (mem' z).trans (mem z)) srt) (rps_intL us) p' hp'⟩
end
end Pi

/-! PiDz: dict(zip(ks, xs)) of two lists, texts as keys. -/
namespace Pi
open PySem L2 PyProof.Rows PySem.W
variable [WD]
section
variable {X : Cx}
def tDz (K : PySem.W.Frag) (ta : TA) : TE := fun σ H Q => ta σ H fun vs H1 => ∃ (a b : Addr) (ks : List Str) (xs : List V), vs = [.ref a, .ref b] ∧ SqL K H1 a (ks.map V.str) ∧ SqL K H1 b xs ∧ ks.length ≤ xs.length ∧ ks.length ≤ sizeLine ∧
  ∀ p, H1 p = none → Q (.ref p) (upd H1 p (.dK (mergeK [] ((ks.zip (xs.take ks.length)).map fun p => ((Sum.inr p.1 : Key), p.2)))))
theorem mem7 {c z TO i1 i2 : Addr} (h : c ∈ [z, TO, i1, i2]) : c = z ∨ c = TO ∨ c = i1 ∨ c = i2 := by simpa using h
theorem vals_get {xs : List V} {us : List Value} (r : Vals xs us) : ∀ {i : Nat} {u : Value}, us[i]? = some u → ∃ v, xs[i]? = some v ∧ RelV v u := by
  induction r with
  | nil => intro i u h; cases h
  | cons a b ih =>
    intro i u h
    cases i with
    | zero => cases h; exact ⟨_, rfl, a⟩
    | succ i => exact ih (i := i) h
theorem zipKV : ∀ {ks : List Str} {xs : List V} {us : List Value}, Vals xs us → KV ((ks.zip xs).map fun p => ((Sum.inr p.1 : Key), p.2)) ((ks.zip us).map fun p => ((Sum.inr p.1 : Key), p.2))
  | [], _, _, _ => .nil
  | k :: ks, _, _, .nil => .nil
  | k :: ks, _, _, .cons a b => .cons ⟨rfl, a⟩ (zipKV b)
theorem Vals.take {xs : List V} {us : List Value} (r : Vals xs us) : ∀ n : Nat, Vals (xs.take n) (us.take n) := by
  induction r with
  | nil => intro n; rw [List.take_nil, List.take_nil]; exact .nil
  | cons a b ih =>
    intro n
    cases n with
    | zero => exact .nil
    | succ n => exact .cons a (ih n)
theorem boot_dict : bootBuiltins ("dict" : Str) = some (.type "dict") := by decide +kernel
theorem pe_dz {e e2 : Expr} {ta : TA} {p p1 p2 pos : Pos} (hc : X.calm = true) (hg : Gl X ("dict" : Str)) (hm : X.mg ("dict" : Str) = none) (hg2 : Gl X ("zip" : Str)) (hm2 : X.mg ("zip" : Str) = none) (ha : PA X [e, e2] ta)
    (hs : starEach [e, e2] X.env = (false, eval e X.env) :: starEach [e2] X.env) (hpl : (backTo p2 (starEach [e2] X.env)).any (·.1) = false) :
    PE X (.Call (.Name "dict" p) [.Call (.Name "zip" p1) [e, e2] [] p2] [] pos) (tDz X.K ta) := by
  refine ⟨fun pins s σ H Q I h => ?_⟩
  refine Call_ (ld_blt I hg hm boot_dict (PySem.callWith_type1 ?_))
  refine Call_ (ld_blt I hg2 hm2 PyProof.Rows.boot_zip (PyProof.Rows.callWith_type1 (thn (ha.run p2 pins s σ H _ I h) fun us s1 ⟨vs, H1, I1, r1, q1⟩ => ?_) hs hpl))
  obtain ⟨a, b, ks, xs, ex, hqx, hqy, lk, lz, q⟩ := q1
  subst ex
  cases r1 with
  | cons r rr =>
    cases rr with
    | cons r' rr =>
      cases rr
      cases r
      cases r'
      obtain ⟨its, rv, pl1, _⟩ := I1.list hqx
      obtain ⟨its2, rv2, pl2, _⟩ := I1.list hqy
      have l1 := rv.length
      have l2 := rv2.length
      rw [List.length_map] at l1
      refine call_zip_2 pl1.isList pl2.isList fun h' hz hTI hTO h1 h2 hsz hk => ?_
      have D := ktu_apart s1.heap.objs.size a b pl1.lt pl2.lt
      have PZ := PySem.PairArg.zip (prog := X.prog) (w := X.w) _ _ _ _ _ a b D its.toArray its2.toArray
      have mn : min its.toArray.size its2.toArray.size = ks.length := by simp; omega
      rw [mn] at PZ
      refine PySem.call_dict_pairs (knd := mixKind X.prog X.w) (kvs := (ks.zip (its2.take ks.length)).map fun p => ((Sum.inr p.1 : Key), p.2)) PZ (I1.ok.hd hc) ⟨hz, hTI, ⟨_, _, hTO⟩, h1, h2, pl1.isList.at fun o e => hk _ o e, pl2.isList.at fun o e => hk _ o e⟩ ⟨?_, fun i key v hr => ?_⟩ lz fun h2 tk hd2 hk2 => ?_
      · rw [List.length_map, List.length_zip, List.length_take]
        omega
      · obtain ⟨e1, e2⟩ := hr
        rw [List.getElem?_toArray] at e1 e2
        obtain ⟨v', h3, h4⟩ := vals_get rv e1
        rw [List.getElem?_map] at h3
        obtain ⟨kk, h5, h6⟩ := Option.map_eq_some_iff.mp h3
        subst h6
        have il := (List.getElem?_eq_some_iff.mp h5).1
        refine ⟨Sum.inr kk, ?_, kV_is (k := Sum.inr kk) h4⟩
        rw [List.getElem?_map, show (ks.zip (its2.take ks.length))[i]? = some (kk, v) from List.getElem?_zip_eq_some.mpr ⟨h5, by rw [List.getElem?_take, if_pos il]; exact e2⟩]
        rfl
      · have hm : (h'.objs.size == sysModules) = false := beq_eq_false_iff_ne.mpr (Nat.ne_of_gt (by rw [hsz]; exact Nat.lt_of_lt_of_le I1.big (Nat.le_add_right _ _)))
        have hl := length_mergeK ((ks.zip (xs.take ks.length)).map fun p => ((Sum.inr p.1 : Key), p.2)) []
        have hlen : (mergeK [] ((ks.zip (xs.take ks.length)).map fun p => ((Sum.inr p.1 : Key), p.2))).length ≤ sizeLine := by
          refine Nat.le_trans hl ?_
          rw [List.length_nil, Nat.zero_add, List.length_map, List.length_zip]
          omega
        have kk : ∀ b u, s1.heap.get? b = some u → h2.get? b = some u := fun b u e => by
          have bl : b < s1.heap.objs.size := Heap.lt_size e
          refine hk2 b u (fun hm => ?_) (hk b u e)
          rcases mem7 hm with z | z | z | z
          · exact absurd z (Nat.ne_of_lt (Nat.lt_of_lt_of_le bl (Nat.le_add_right _ _)))
          · exact absurd z (Nat.ne_of_lt (Nat.lt_of_lt_of_le bl (Nat.le_add_right _ _)))
          · exact absurd z (Nat.ne_of_lt bl)
          · exact absurd z (Nat.ne_of_lt (Nat.lt_of_lt_of_le bl (Nat.le_add_right _ _)))
        exact ⟨.ref h'.objs.size, upd H1 h'.objs.size (.dK (mergeK [] ((ks.zip (xs.take ks.length)).map fun p => ((Sum.inr p.1 : Key), p.2)))), I1.laid (t' := tk) kk (by omega) (show ObjOk X.prog X.w _ _ _ (.dK _) from ⟨hlen, hm, merged [] ((ks.zip (its2.take ks.length)).map fun p => ((Sum.inr p.1 : Key), p.2)), KV.merge (zipKV (rv2.take _)) .nil, hd2⟩), rfl, q _ (I1.hok.fresh (by omega))⟩
end
section
variable {s : SC} {C : CallT} {k : Nat} {X : Cx} {W : WX}
theorem ad_dzp {a b : IE} {x y : Expr} {p p1 p2 pos : Pos} (A : Amb s C k X) (hg : glB s.sc ("dict" : Str) = true) (hf : freeB s ("dict" : Str) = true) (hg2 : glB s.sc ("zip" : Str) = true) (hf2 : freeB s ("zip" : Str) = true) (ha : pE X W C a x) (hx : notStar x = true) (hb : pE X W C b y) (hy : notStar y = true) :
    pE X W C (.dzp a b) (.Call (.Name "dict" p) [.Call (.Name "zip" p1) [x, y] [] p2] [] pos) := by
  refine pe_imp (pe_dz A.calm (A.gl hg) (A.free _ hf) (A.gl hg2) (A.free _ hf2) (pa_cons ha (pa_cons hb pa_nil (star_not hy)) (star_not hx)) (star_not hx) (by rw [star_not hy]; rfl)) ?_
  rintro σ H Q ⟨φ, S, q, E, fr, sr, hw, l, lx⟩
  have hw : wE C a φ S (fun d S1 => wE C b φ S1 (fun e S2 => dzW d e S2 q) E) E := hw
  refine ⟨φ, S, _, E, fr, sr, hw, fun d S1 v H1 hz e1 s1 r => ⟨φ, S1, _, E, fr.mono (e1.tk sr), s1, hz, fun e S2 v2 H2 hz2 e2 s2 r2 => ?_, lx.after e1⟩, lx⟩
  obtain ⟨a', b', ks, ys, rfl, rfl, i1, i2, lk, lz, hq⟩ := hz2
  cases r
  cases r2
  obtain ⟨vs, g1, rr1⟩ := s2.isL i1
  obtain ⟨us, g2, rr2⟩ := s2.isL i2
  have ev := rps_str rr1
  subst ev
  have lu := rr2.len
  refine ⟨_, _, ks, us, rfl, .of g1, .of g2, by omega, lz, fun p hp => ?_⟩
  obtain ⟨s3, ev⟩ := s2.alloc (o := .dK (mergeK [] ((ks.zip (us.take ks.length)).map fun p => ((Sum.inr p.1 : Key), p.2)))) (u := .dct (dispK [] ks (ys.take ks.length))) hp ⟨_, upd_same, disp_rel .nil ((Rps.take _ rr2).mono (tk_new hp))⟩
  exact (l.after (e1.trans e2)) _ _ (.ref p) _ (hq p (s2.free hp)) ev s3 (.ref p)
end
end Pi

/-! PiExp: a term that matches a piece of syntax says what the piece does. -/
namespace Pi
open PySem L2 PyProof.Rows
variable [WD]
def EOk (C : CallT) (e : IE) : Prop := ∀ {s : SC} {k : Nat} {X : Cx} {W : WX} {x : Expr}, Amb s C k X → Takes X W → okE s e x = true → pE X W C e x ∧ (notIf x = true → pT X W C e x)
structure LOk (C : CallT) (es : IEs) : Prop where
  l : ∀ {s : SC} {k : Nat} {X : Cx} {W : WX} {xs : List Expr}, Amb s C k X → Takes X W → okL s es xs = true → AllS X W C es xs
  p : ∀ {s : SC} {k : Nat} {X : Cx} {W : WX} {xs : List Expr}, Amb s C k X → Takes X W → okP s es xs = true → All X W C es xs
  b : ∀ {s : SC} {k : Nat} {X : Cx} {W : WX} {xs : List Expr}, Amb s C k X → Takes X W → okB s es xs = true → ∀ kk pos, PE X (.BoolOp (bop kk) xs pos) (tBv X.K X.mg W C kk es) ∧ PW X (.BoolOp (bop kk) xs pos) (tBt X.K X.mg W C kk es)
  o : ∀ {s : SC} {k : Nat} {X : Cx} {W : WX} {x : Option Expr}, Amb s C k X → Takes X W → okO s es x = true → pO X W C es x
  k : ∀ {s : SC} {k : Nat} {X : Cx} {W : WX} {xs : List Keyword}, Amb s C k X → Takes X W → okK s es xs = true → AllK X W C es xs
  t : ∀ {s : SC} {k : Nat} {X : Cx} {W : WX} {f : Expr}, Amb s C k X → Takes X W → okB s es [f] = true → PT X f (tBt X.K X.mg W C true es)
def IOk (C : CallT) (it : II) : Prop := ∀ {s : SC} {k : Nat} {X : Cx} {W : WX} {x : Expr} {tup : Bool} {tg : Expr}, Amb s C k X → Takes X W → okI s it x tup = true → (tup = true → ∃ es n p, tg = .Tuple es n p) → pI X W C tg it x
section
variable {C : CallT}
theorem val_then {X : Cx} {W : WX} {e : IE} {x : Expr} (h : pE X W C e x) (he : notIf x = true → ∀ whole, isTrue x X.env whole = (do let v ← whole; standAt x.pos; holding [v] (truthy v))) : pE X W C e x ∧ (notIf x = true → pT X W C e x) := ⟨h, fun hn => ad_val h (he hn)⟩
theorem eok_var {i : Nat}  : EOk C (.var i) := by
  intro s k X W x A tk h
  unfold okE at h
  split at h <;> first | (cases ‹IE.var i = _›; done) | (cases h; done) | skip
  cases ‹IE.var i = _›
  try simp only [Bool.and_eq_true, decide_eq_true_eq] at h
  exact val_then (ad_var A h.1.1 h.1.2 h.2) fun hn w => rfl
theorem eok_lit {d : D}  : EOk C (.lit d) := by
  intro s k X W x A tk h
  unfold okE at h
  split at h <;> first | (cases ‹IE.lit d = _›; done) | (cases h; done) | skip
  cases ‹IE.lit d = _›
  try simp only [Bool.and_eq_true, decide_eq_true_eq] at h
  exact val_then (ad_lit h) fun hn w => rfl
theorem eok_glo {y : Str} {d : D}  : EOk C (.glo y d) := by
  intro s k X W x A tk h
  unfold okE at h
  split at h <;> first | (cases ‹IE.glo y d = _›; done) | (cases h; done) | skip
  cases ‹IE.glo y d = _›
  try simp only [Bool.and_eq_true, decide_eq_true_eq] at h
  obtain ⟨⟨⟨h1, h2⟩, h3⟩, h4⟩ := h
  subst h1
  exact val_then (ad_glo A h2 h3 h4) fun hn w => rfl
theorem eok_bin {op : BOp} {a b : IE} (ha : EOk C a) (hb : EOk C b) : EOk C (.bin op a b) := by
  intro s k X W x A tk h
  unfold okE at h
  split at h <;> first | (cases ‹IE.bin op a b = _›; done) | (cases h; done) | skip
  cases ‹IE.bin op a b = _›
  try simp only [Bool.and_eq_true, decide_eq_true_eq] at h
  obtain ⟨⟨h1, h2⟩, h3⟩ := h
  subst h1
  exact val_then (ad_bin (ha A tk h2).1 (hb A tk h3).1) fun hn w => rfl
theorem eok_neg {a : IE} (ha : EOk C a) : EOk C (.neg a) := by
  intro s k X W x A tk h
  unfold okE at h
  split at h <;> first | (cases ‹IE.neg a = _›; done) | (cases h; done) | skip
  cases ‹IE.neg a = _›
  try simp only [Bool.and_eq_true, decide_eq_true_eq] at h
  exact val_then (ad_neg (ha A tk h).1) fun hn w => rfl
theorem eok_cmp {op : COp} {a b : IE} (ha : EOk C a) (hb : EOk C b) : EOk C (.cmp op a b) := by
  intro s k X W x A tk h
  unfold okE at h
  split at h <;> first | (cases ‹IE.cmp op a b = _›; done) | (cases h; done) | skip
  cases ‹IE.cmp op a b = _›
  try simp only [Bool.and_eq_true, decide_eq_true_eq] at h
  obtain ⟨⟨⟨h1, h2⟩, h3⟩, h4⟩ := h
  subst h1
  exact ⟨ad_cmp A (ha A tk h2).1 (hb A tk h3).1 (behind_of h4), fun _ => ad_cmpT A (ha A tk h2).1 (hb A tk h3).1 (behind_of h4)⟩
theorem eok_chn {op op' : COp} {a b c : IE} (ha : EOk C a) (hb : EOk C b) (hc : EOk C c) : EOk C (.chn op op' a b c) := by
  intro s k X W x A tk h
  unfold okE at h
  split at h <;> first | (cases ‹IE.chn op op' a b c = _›; done) | (cases h; done) | skip
  cases ‹IE.chn op op' a b c = _›
  try simp only [Bool.and_eq_true, decide_eq_true_eq] at h
  obtain ⟨⟨⟨⟨⟨⟨h1, h2⟩, h3⟩, h4⟩, h5⟩, h6⟩, h7⟩ := h
  subst h1 h2
  exact ⟨ad_chn A (ha A tk h3).1 (hb A tk h4).1 (hc A tk h5).1 h6 h7, fun _ => ad_chnT A (ha A tk h3).1 (hb A tk h4).1 (hc A tk h5).1 h6 h7⟩
theorem eok_inv {a : IE} (ha : EOk C a) : EOk C (.inv a) := by
  intro s k X W x A tk h
  unfold okE at h
  split at h <;> first | (cases ‹IE.inv a = _›; done) | (cases h; done) | skip
  cases ‹IE.inv a = _›
  try simp only [Bool.and_eq_true, decide_eq_true_eq] at h
  obtain ⟨h1, h2⟩ := h
  exact ⟨ad_inv (ha A tk h1).1, fun _ => ad_invT ((ha A tk h1).2 h2)⟩
theorem eok_boo {kk : Bool} {es : IEs} (he : LOk C es) : EOk C (.boo kk es) := by
  intro s k X W x A tk h
  unfold okE at h
  split at h <;> first | (cases ‹IE.boo kk es = _›; done) | (cases h; done) | skip
  cases ‹IE.boo kk es = _›
  try simp only [Bool.and_eq_true, decide_eq_true_eq] at h
  obtain ⟨h1, h2⟩ := h
  subst h1
  obtain ⟨a, b⟩ := he.b A tk h2 kk ‹Pos›
  exact ⟨a, fun _ => b.pt⟩
theorem eok_ife {t a b : IE} (ht : EOk C t) (ha : EOk C a) (hb : EOk C b) : EOk C (.ife t a b) := by
  intro s k X W x A tk h
  unfold okE at h
  split at h <;> first | (cases ‹IE.ife t a b = _›; done) | (cases h; done) | skip
  cases ‹IE.ife t a b = _›
  try simp only [Bool.and_eq_true, decide_eq_true_eq] at h
  obtain ⟨⟨⟨h1, h2⟩, h3⟩, h4⟩ := h
  exact ⟨ad_ife ((ht A tk h1).2 h4) (ha A tk h2).1 (hb A tk h3).1, fun hn => by cases hn⟩
theorem eok_tup {es : IEs} (he : LOk C es) : EOk C (.tup es) := by
  intro s k X W x A tk h
  unfold okE at h
  split at h <;> first | (cases ‹IE.tup es = _›; done) | (cases h; done) | skip
  cases ‹IE.tup es = _›
  try simp only [Bool.and_eq_true, decide_eq_true_eq] at h
  exact val_then (ad_tup (he.l A tk h)) fun hn w => rfl
theorem eok_lst {es : IEs} (he : LOk C es) : EOk C (.lst es) := by
  intro s k X W x A tk h
  unfold okE at h
  split at h <;> first | (cases ‹IE.lst es = _›; done) | (cases h; done) | skip
  cases ‹IE.lst es = _›
  try simp only [Bool.and_eq_true, decide_eq_true_eq] at h
  exact val_then (ad_lst (he.l A tk h)) fun hn w => rfl
theorem eok_dis {ks : List Str} {es : IEs} (he : LOk C es) : EOk C (.dis ks es) := by
  intro s k X W x A tk h
  unfold okE at h
  split at h <;> first | (cases ‹IE.dis ks es = _›; done) | (cases h; done) | skip
  cases ‹IE.dis ks es = _›
  try simp only [Bool.and_eq_true, decide_eq_true_eq] at h
  rename_i keys vals pos
  obtain ⟨⟨⟨h1, h2⟩, h3⟩, h5⟩ := h
  cases keys with
  | cons key keys => exact val_then (ad_dis (he.p A tk h2) h1 h3 (Nat.succ_pos _) h5) fun hn w => rfl
  | nil =>
    cases ks with
    | cons _ _ => cases h1
    | nil =>
      cases vals with
      | cons _ _ => cases h3
      | nil =>
        have hp := he.p A tk h2
        cases hp
        exact val_then ad_dis0 fun hn w => rfl
theorem eok_cal {f : Str} {es : IEs} (he : LOk C es) : EOk C (.cal f es) := by
  intro s k X W x A tk h
  unfold okE at h
  split at h <;> first | (cases ‹IE.cal f es = _›; done) | (cases h; done) | skip
  cases ‹IE.cal f es = _›
  try simp only [Bool.and_eq_true, decide_eq_true_eq] at h
  obtain ⟨⟨⟨⟨h1, h2⟩, h3⟩, h4⟩, h5⟩ := h
  subst h1
  exact val_then (ad_cal A tk h2 h3 h4 (he.p A tk h5)) fun hn w => rfl
theorem eok_cak {f : Str} {es : IEs} {ks : List Str} {vs : IEs} {rs : List Str} (he : LOk C es) (hv : LOk C vs) : EOk C (.cak f es ks vs rs) := by
  intro s k X W x A tk h
  unfold okE at h
  split at h <;> first | (cases ‹IE.cak f es ks vs rs = _›; done) | (cases h; done) | skip
  cases ‹IE.cak f es ks vs rs = _›
  try simp only [Bool.and_eq_true, decide_eq_true_eq] at h
  obtain ⟨⟨⟨⟨⟨⟨⟨⟨h1, h2⟩, h3⟩, h0⟩, h4⟩, h5⟩, h6⟩, h7⟩, h8⟩ := h
  subst h1
  exact val_then (ad_cak A tk h2 h3 h0 h4 (he.p A tk h5) h6 (hv.k A tk h7)) fun hn w => rfl
theorem eok_bui {b : Bi} {es : IEs} (he : LOk C es) : EOk C (.bui b es) := by
  intro s k X W x A tk h
  unfold okE at h
  split at h <;> first | (cases ‹IE.bui b es = _›; done) | (cases h; done) | skip
  cases ‹IE.bui b es = _›
  try simp only [Bool.and_eq_true, decide_eq_true_eq] at h
  obtain ⟨⟨⟨⟨⟨h1, h2⟩, h3⟩, h4⟩, h5⟩, h6⟩ := h
  subst h1
  exact val_then (ad_bui A h2 h3 h4 (he.p A tk h5) h6) fun hn w => rfl
theorem eok_mxd {a d : IE} (ha : EOk C a) (hd : EOk C d) : EOk C (.mxd a d) := by
  intro s k X W x A tk h
  unfold okE at h
  split at h <;> first | (cases ‹IE.mxd a d = _›; done) | (cases h; done) | skip
  cases ‹IE.mxd a d = _›
  try simp only [Bool.and_eq_true, decide_eq_true_eq] at h
  obtain ⟨⟨⟨⟨⟨⟨⟨h1, h2⟩, h3⟩, h4⟩, h5⟩, h6⟩, h7⟩, h8⟩ := h
  subst h1 h2
  exact val_then (ad_mxd A h3 h5 (ha A tk h6).1 h7 (hd A tk h8).1) fun hn w => rfl
theorem eok_isi {a : IE} {ts : List Ty} (ha : EOk C a) : EOk C (.isi a ts) := by
  intro s k X W x A tk h
  unfold okE at h
  split at h <;> first | (cases ‹IE.isi a ts = _›; done) | (cases h; done) | skip
  cases ‹IE.isi a ts = _›
  try simp only [Bool.and_eq_true, decide_eq_true_eq] at h
  obtain ⟨⟨⟨⟨⟨⟨h1, h2⟩, h3⟩, h4⟩, h5⟩, h6⟩, h7⟩ := h
  subst h1
  exact val_then (ad_isi A h2 h4 h6 (ha A tk h5).1 h7) fun hn w => rfl
theorem eok_iso {a : IE} {c : Str} {ds : List Str} (ha : EOk C a) : EOk C (.iso a c ds) := by
  intro s k X W x A tk h
  unfold okE at h
  split at h <;> first | (cases ‹IE.iso a c ds = _›; done) | (cases h; done) | skip
  cases ‹IE.iso a c ds = _›
  try simp only [Bool.and_eq_true, decide_eq_true_eq, List.all_eq_true] at h
  obtain ⟨⟨⟨⟨⟨⟨⟨⟨⟨⟨h1, h2⟩, h3⟩, h4⟩, h5⟩, h6⟩, h7⟩, h8⟩, h9⟩, h10⟩, h11⟩ := h
  subst h1 h7
  exact val_then (ad_iso A h2 h4 h6 (ha A tk h5).1 h8 h9 h10 h11) fun hn w => rfl
theorem eok_cau {f y : Str} {cs : List Str} {e : IE} (ha : EOk C e) : EOk C (.cau f y cs e) := by
  intro s k X W x A tk h
  unfold okE at h
  split at h <;> first | (cases ‹IE.cau f y cs e = _›; done) | (cases h; done) | skip
  cases ‹IE.cau f y cs e = _›
  try simp only [Bool.and_eq_true, decide_eq_true_eq, List.all_eq_true] at h
  obtain ⟨⟨⟨⟨⟨⟨⟨h1, h2⟩, h3⟩, h4⟩, h5⟩, h6⟩, h7⟩, h8⟩ := h
  subst h1
  exact val_then (ad_cau A h2 h3 h4 h5 h6 h7 fun A' tk' => (ha A' tk' h8).1) fun hn w => rfl
theorem eok_met {m : Mt} {a : IE} {es : IEs} (ha : EOk C a) (he : LOk C es) : EOk C (.met m a es) := by
  intro s k X W x A tk h
  unfold okE at h
  split at h <;> first | (cases ‹IE.met m a es = _›; done) | (cases h; done) | skip
  cases ‹IE.met m a es = _›
  try simp only [Bool.and_eq_true, decide_eq_true_eq] at h
  obtain ⟨⟨⟨⟨⟨h1, h2⟩, h3⟩, h4⟩, h5⟩, h6⟩ := h
  subst h1
  exact val_then (ad_met A (ha A tk h4).1 (he.p A tk h5) h3 h2 h6) fun hn w => rfl
theorem eok_idx {a i : IE} (ha : EOk C a) (hi : EOk C i) : EOk C (.idx a i) := by
  intro s k X W x A tk h
  unfold okE at h
  split at h <;> first | (cases ‹IE.idx a i = _›; done) | (cases h; done) | skip
  cases ‹IE.idx a i = _›
  try simp only [Bool.and_eq_true, decide_eq_true_eq] at h
  obtain ⟨⟨h1, h2⟩, h3⟩ := h
  exact val_then (ad_idx A (ha A tk h1).1 (hi A tk h2).1 h3) fun hn w => rfl
theorem eok_slc {a : IE} {lo hi : IEs} (ha : EOk C a) (hl : LOk C lo) (hh : LOk C hi) : EOk C (.slc a lo hi) := by
  intro s k X W x A tk h
  unfold okE at h
  split at h <;> first | (cases ‹IE.slc a lo hi = _›; done) | (cases h; done) | skip
  cases ‹IE.slc a lo hi = _›
  try simp only [Bool.and_eq_true, decide_eq_true_eq] at h
  obtain ⟨⟨h1, h2⟩, h3⟩ := h
  exact val_then (ad_slc (ha A tk h1).1 (hl.o A tk h2) (hh.o A tk h3)) fun hn w => rfl
theorem eok_idn {a i : IE} (ha : EOk C a) (hi : EOk C i) : EOk C (.idn a i) := by
  intro s k X W x A tk h
  unfold okE at h
  split at h <;> first | (cases ‹IE.idn a i = _›; done) | (cases h; done) | skip
  cases ‹IE.idn a i = _›
  try simp only [Bool.and_eq_true, decide_eq_true_eq] at h
  obtain ⟨⟨h1, h2⟩, h3⟩ := h
  exact val_then (ad_idn A (ha A tk h1).1 (hi A tk h2).1 h3) fun hn w => rfl
theorem eok_dnw : EOk C .dnw := by
  intro s k X W x A tk h
  unfold okE at h
  split at h <;> first | (cases ‹IE.dnw = _›; done) | (cases h; done) | skip
  exact val_then (ad_dnw A) fun hn w => rfl
theorem eok_gtn {a : IE} {es : IEs} (ha : EOk C a) (he : LOk C es) : EOk C (.gtn a es) := by
  intro s k X W x A tk h
  unfold okE at h
  split at h <;> first | (cases ‹IE.gtn a es = _›; done) | (cases h; done) | skip
  cases ‹IE.gtn a es = _›
  try simp only [Bool.and_eq_true, decide_eq_true_eq] at h
  obtain ⟨⟨⟨⟨⟨⟨h1, h2⟩, h3⟩, h4⟩, h5⟩, h6⟩, h7⟩ := h
  subst h1
  exact val_then (ad_gtn A (ha A tk h4).1 (he.p A tk h5) h3 h2 h6 h7) fun hn w => rfl
theorem eok_rev {a : IE} (ha : EOk C a) : EOk C (.rev a) := by
  intro s k X W x A tk h
  unfold okE at h
  split at h <;> first | (cases ‹IE.rev a = _›; done) | (cases h; done) | skip
  cases ‹IE.rev a = _›
  try simp only [Bool.and_eq_true, decide_eq_true_eq] at h
  exact val_then (ad_rev (ha A tk h).1) fun hn w => rfl
theorem eok_lr1 {tp : Bool} {a : IE} (ha : EOk C a) : EOk C (.lr1 tp a) := by
  intro s k X W x A tk h
  unfold okE at h
  split at h <;> first | (cases ‹IE.lr1 tp a = _›; done) | (cases h; done) | skip
  cases ‹IE.lr1 tp a = _›
  try simp only [Bool.and_eq_true, decide_eq_true_eq] at h
  obtain ⟨⟨⟨⟨⟨⟨⟨h1, h2⟩, h3⟩, h4⟩, h5⟩, h6⟩, h7⟩, h8⟩ := h
  subst h1 h2
  exact val_then (ad_lr1 A h3 h4 h5 h6 (ha A tk h7).1 h8) fun hn w => rfl
theorem eok_lr2 {tp : Bool} {a b : IE} (ha : EOk C a) (hb : EOk C b) : EOk C (.lr2 tp a b) := by
  intro s k X W x A tk h
  unfold okE at h
  split at h <;> first | (cases ‹IE.lr2 tp a b = _›; done) | (cases h; done) | skip
  cases ‹IE.lr2 tp a b = _›
  try simp only [Bool.and_eq_true, decide_eq_true_eq] at h
  obtain ⟨⟨⟨⟨⟨⟨⟨⟨⟨h1, h2⟩, h3⟩, h4⟩, h5⟩, h6⟩, h7⟩, h8⟩, h9⟩, h10⟩ := h
  subst h1 h2
  exact val_then (ad_lr2 A h3 h4 h5 h6 (ha A tk h7).1 h8 (hb A tk h9).1 h10) fun hn w => rfl
theorem eok_srt {a : IE} (ha : EOk C a) : EOk C (.srt a) := by
  intro s k X W x A tk h
  unfold okE at h
  split at h <;> first | (cases ‹IE.srt a = _›; done) | (cases h; done) | skip
  cases ‹IE.srt a = _›
  try simp only [Bool.and_eq_true, decide_eq_true_eq] at h
  obtain ⟨⟨⟨⟨⟨h1, h2⟩, h3⟩, h4⟩, h5⟩, h6⟩ := h
  subst h1
  exact val_then (ad_srt A h2 h4 (ha A tk h5).1 h6) fun hn w => rfl
theorem eok_sset {a : IE} (ha : EOk C a) : EOk C (.sset a) := by
  intro s k X W x A tk h
  unfold okE at h
  split at h <;> first | (cases ‹IE.sset a = _›; done) | (cases h; done) | skip
  cases ‹IE.sset a = _›
  simp only [Bool.and_eq_true, decide_eq_true_eq] at h
  obtain ⟨⟨⟨⟨⟨⟨⟨h1, h2⟩, h3⟩, h4⟩, h5⟩, h6⟩, h7⟩, h8⟩ := h
  subst h1 h2
  exact val_then (ad_sset A h3 h4 h5 h6 (ha A tk h7).1 h8) fun hn w => rfl
theorem eok_dzp {a b : IE} (ha : EOk C a) (hb : EOk C b) : EOk C (.dzp a b) := by
  intro s k X W x A tk h
  unfold okE at h
  split at h <;> first | (cases ‹IE.dzp a b = _›; done) | (cases h; done) | skip
  cases ‹IE.dzp a b = _›
  simp only [Bool.and_eq_true, decide_eq_true_eq] at h
  obtain ⟨⟨⟨⟨⟨⟨⟨⟨⟨h1, h2⟩, h3⟩, h4⟩, h5⟩, h6⟩, h7⟩, h8⟩, h9⟩, h10⟩ := h
  subst h1 h2
  exact val_then (ad_dzp A h3 h4 h5 h6 (ha A tk h7).1 h8 (hb A tk h9).1 h10) fun hn w => rfl
theorem eok_srk {f : Str} {a : IE} (ha : EOk C a) : EOk C (.srk f a) := by
  intro s k X W x A tk h
  unfold okE at h
  split at h <;> first | (cases ‹IE.srk f a = _›; done) | (cases h; done) | skip
  cases ‹IE.srk f a = _›
  try simp only [Bool.and_eq_true, decide_eq_true_eq] at h
  obtain ⟨⟨⟨⟨⟨⟨⟨⟨⟨⟨⟨h0, h1⟩, h2⟩, h3⟩, h4⟩, h5⟩, h6⟩, h7⟩, h8⟩, h9⟩, h10⟩, h11⟩ := h
  subst h1 h2 h8
  split at h11
  · rename_i fd hfd
    exact val_then (ad_srk A h0 h3 h5 (ha A tk h6).1 h7 h9 h10 hfd (of_decide_eq_true h11)) fun hn w => rfl
  · cases h11
/-- the parts of a comprehension, as the rules ask for them -/
structure LcP (X : Cx) (W : WX) (C : CallT) (elt : IE) (own tg : List Nat) (tup : Bool) (it : II) (ifs : IEs) (e t i : Expr) (fs : List Expr) (scope : Scope) (op : List (Str × Nat)) : Prop where
  hi : pI X W C t it i
  ok : BlkOk X.N X.env.scope scope op
  ho : op.map (·.2) = own
  hg : ∀ (s_ : Shared) (H : Hp) (Cc : Addr) (cl : List (Str × Addr)) (fp : List Addr), PG (X.blk s_ H scope (compEnvC scope cl Cc X.env) fp) t (tG X.K X.mg tg tup)
  tt : ∀ (s_ : Shared) (H : Hp) (Cc : Addr) (cl : List (Str × Addr)) (fp : List Addr), PTs (X.blk s_ H scope (compEnvC scope cl Cc X.env) fp) fs (tBt X.K X.mg W0 C true ifs)
  he : ∀ (s_ : Shared) (H : Hp) (Cc : Addr) (cl : List (Str × Addr)) (fp : List Addr), PE (X.blk s_ H scope (compEnvC scope cl Cc X.env) fp) e (tE X.K X.mg W0 C elt)
  hs : ∀ x, foldedSetIterable i X.env x = pure x
  hin : ∀ i ∈ tg, i ∈ own
structure LcP2 (X : Cx) (W : WX) (C : CallT) (elt : IE) (own tg : List Nat) (tup : Bool) (it : II) (vs tg1 : List Nat) (tup1 : Bool) (it1 : II) (e t i t1 i1 : Expr) (scope : Scope) (op : List (Str × Nat)) : Prop where
  hi : pI X W C t it i
  ok : BlkOk X.N X.env.scope scope op
  ho : op.map (·.2) = own
  hg : ∀ (s_ : Shared) (H : Hp) (Cc : Addr) (cl : List (Str × Addr)) (fp : List Addr), PG (X.blk s_ H scope (compEnvC scope cl Cc X.env) fp) t (tG X.K X.mg tg tup)
  hi1 : ∀ (s_ : Shared) (H : Hp) (Cc : Addr) (cl : List (Str × Addr)) (fp : List Addr), PI (X.blk s_ H scope (compEnvC scope cl Cc X.env) fp) t1 i1 (tI X.K X.mg W0 C it1)
  hg1 : ∀ (s_ : Shared) (H : Hp) (Cc : Addr) (cl : List (Str × Addr)) (fp : List Addr), PG (X.blk s_ H scope (compEnvC scope cl Cc X.env) fp) t1 (tG X.K X.mg tg1 tup1)
  he : ∀ (s_ : Shared) (H : Hp) (Cc : Addr) (cl : List (Str × Addr)) (fp : List Addr), PE (X.blk s_ H scope (compEnvC scope cl Cc X.env) fp) e (tE X.K X.mg W0 C elt)
  hs : ∀ x, foldedSetIterable i X.env x = pure x
  hs1 : ∀ env x, foldedSetIterable i1 env x = pure x
  hin : ∀ i ∈ tg, i ∈ own
  hin1 : ∀ i ∈ tg1, i ∈ vs
  hv : ∀ i ∈ vs, i ∈ own
theorem tup_of {s : SC} {tg : List Nat} {tup : Bool} {t : Expr} (h : tgB s tg tup t = true) (e : tup = true) : ∃ es n p, t = .Tuple es n p := by
  subst e
  unfold tgB at h
  rw [if_pos rfl] at h
  split at h
  · exact ⟨_, _, _, rfl⟩
  · cases h
theorem lc_parts {elt : IE} {own tg : List Nat} {tup : Bool} {it : II} {ifs : IEs} (he : EOk C elt) (hi : IOk C it) (hf : LOk C ifs) {s : SC} {k : Nat} {X : Cx} {W : WX} {x : Expr} (A : Amb s C k X) (tk : Takes X W) (h : okE s (.lc elt own tg tup it ifs) x = true) :
    ∃ e t i fs scope pos op, x = .ListComp e [⟨t, i, fs, 0⟩] scope pos ∧ LcP X W C elt own tg tup it ifs e t i fs scope op := by
  unfold okE at h
  split at h <;> first | (cases ‹IE.lc elt own tg tup it ifs = _›; done) | (cases h; done) | skip
  cases ‹IE.lc elt own tg tup it ifs = _›
  simp only [Bool.and_eq_true, decide_eq_true_eq] at h
  obtain ⟨⟨⟨⟨⟨⟨⟨⟨⟨h1, h2⟩, h3⟩, h4⟩, h5⟩, h6⟩, h7⟩, h8⟩, h9⟩, h10⟩ := h
  subst h1
  rename_i e t i fs scope pos
  have bk := fun s_ H Cc cl fp => A.blk h6 s_ H Cc cl fp
  have ok := blkOk_by h4
  rw [← A.N, ← A.sc] at ok
  refine ⟨e, t, i, fs, scope, pos, _, rfl, ⟨hi A tk h2 (tup_of h7), ok, h5, fun s_ H Cc cl fp => pg_tg (bk s_ H Cc cl fp) h7, fun s_ H Cc cl fp => ?_, fun s_ H Cc cl fp => (he (bk s_ H Cc cl fp) takes_0 h9).1, foldS_of h3 _, fun i hm => ?_⟩⟩
  · split at h10
    · split at h10
      · exact pTs_nil
      · cases h10
    · exact pts_one (hf.t (bk s_ H Cc cl fp) takes_0 h10)
    · cases h10
  · have q := List.all_eq_true.mp h8 i hm
    simpa using q
theorem lcc_parts {elt : IE} {own tg vs tg1 : List Nat} {tup tup1 : Bool} {it it1 : II} (he : EOk C elt) (hi : IOk C it) (hi1 : IOk C it1) {s : SC} {k : Nat} {X : Cx} {W : WX} {x : Expr} (A : Amb s C k X) (tk : Takes X W) (h : okE s (.lcc elt own tg tup it vs tg1 tup1 it1) x = true) :
    ∃ e t i t1 i1 scope pos op, x = .ListComp e [⟨t, i, [], 0⟩, ⟨t1, i1, [], 0⟩] scope pos ∧ LcP2 X W C elt own tg tup it vs tg1 tup1 it1 e t i t1 i1 scope op := by
  unfold okE at h
  split at h <;> first | (cases ‹IE.lcc elt own tg tup it vs tg1 tup1 it1 = _›; done) | (cases h; done) | skip
  cases ‹IE.lcc elt own tg tup it vs tg1 tup1 it1 = _›
  simp only [Bool.and_eq_true, decide_eq_true_eq, List.isEmpty_iff] at h
  obtain ⟨⟨⟨⟨⟨⟨⟨⟨⟨⟨⟨⟨⟨⟨⟨⟨h1, h2⟩, h3⟩, h4⟩, h5⟩, h6⟩, h7⟩, h8⟩, h9⟩, h10⟩, h11⟩, h12⟩, h13⟩, h14⟩, h15⟩, h16⟩, h17⟩ := h
  subst h1 h2 h3 h4
  rename_i e t i t1 i1 scope pos
  have bk := fun s_ H Cc cl fp => A.blk h9 s_ H Cc cl fp
  have ok := blkOk_by h7
  rw [← A.N, ← A.sc] at ok
  refine ⟨e, t, i, t1, i1, scope, pos, _, rfl, ⟨hi A tk h5 (tup_of h10), ok, h8, fun s_ H Cc cl fp => pg_tg (bk s_ H Cc cl fp) h10, fun s_ H Cc cl fp => hi1 (bk s_ H Cc cl fp) takes_0 h12 (tup_of h14), fun s_ H Cc cl fp => pg_tg (bk s_ H Cc cl fp) h14,
    fun s_ H Cc cl fp => (he (bk s_ H Cc cl fp) takes_0 h17).1, foldS_of h6 _, fun env x => foldS_of h13 env x, fun i hm => ?_, fun i hm => ?_, fun i hm => ?_⟩⟩
  · have q := List.all_eq_true.mp h11 i hm
    simpa using q
  · have q := List.all_eq_true.mp h15 i hm
    simpa using q
  · have q := List.all_eq_true.mp h16 i hm
    simpa using q
theorem eok_lc {elt : IE} {own tg : List Nat} {tup : Bool} {it : II} {ifs : IEs} (he : EOk C elt) (hi : IOk C it) (hf : LOk C ifs) : EOk C (.lc elt own tg tup it ifs) := by
  intro s k X W x A tk h
  obtain ⟨e, t, i, fs, scope, pos, op, rfl, P⟩ := lc_parts he hi hf A tk h
  refine val_then ?_ fun hn w => rfl
  have key := pe_lc (X := X) (pos := pos) A.calm (by rw [A.N]; exact A.nd) P.hi P.ok P.hg P.tt P.he P.hs
  rw [P.ho] at key
  exact pe_imp key fun σ H Q hw => lc_goal P.hin hw
theorem eok_lcc {elt : IE} {own tg vs tg1 : List Nat} {tup tup1 : Bool} {it it1 : II} (he : EOk C elt) (hi : IOk C it) (hi1 : IOk C it1) : EOk C (.lcc elt own tg tup it vs tg1 tup1 it1) := by
  intro s k X W x A tk h
  obtain ⟨e, t, i, t1, i1, scope, pos, op, rfl, P⟩ := lcc_parts he hi hi1 A tk h
  refine val_then ?_ fun hn w => rfl
  have key := pe_lc2 (X := X) (pos := pos) (vs1 := vs) A.calm (by rw [A.N]; exact A.nd) P.hi P.ok (fun i hm => by rw [P.ho]; exact P.hv i hm) P.hg (fun _ _ _ _ _ => pts_nil) P.hi1 P.hg1 (fun _ _ _ _ _ => pts_nil) P.he P.hs P.hs1
  rw [P.ho] at key
  exact pe_imp key fun σ H Q hw => lcc_goal P.hin P.hin1 hw
structure DcP (X : Cx) (W : WX) (C : CallT) (kx vx : IE) (own tg : List Nat) (tup : Bool) (it : II) (ifs : IEs) (e e2 t i : Expr) (fs : List Expr) (scope : Scope) (op : List (Str × Nat)) : Prop where
  hi : pI X W C t it i
  ok : BlkOk X.N X.env.scope scope op
  ho : op.map (·.2) = own
  hg : ∀ (s_ : Shared) (H : Hp) (Cc : Addr) (cl : List (Str × Addr)) (fp : List Addr), PG (X.blk s_ H scope (compEnvC scope cl Cc X.env) fp) t (tG X.K X.mg tg tup)
  tt : ∀ (s_ : Shared) (H : Hp) (Cc : Addr) (cl : List (Str × Addr)) (fp : List Addr), PTs (X.blk s_ H scope (compEnvC scope cl Cc X.env) fp) fs (tBt X.K X.mg W0 C true ifs)
  hk : ∀ (s_ : Shared) (H : Hp) (Cc : Addr) (cl : List (Str × Addr)) (fp : List Addr), PE (X.blk s_ H scope (compEnvC scope cl Cc X.env) fp) e (tE X.K X.mg W0 C kx)
  hv : ∀ (s_ : Shared) (H : Hp) (Cc : Addr) (cl : List (Str × Addr)) (fp : List Addr), PE (X.blk s_ H scope (compEnvC scope cl Cc X.env) fp) e2 (tE X.K X.mg W0 C vx)
  hs : ∀ x, foldedSetIterable i X.env x = pure x
  hin : ∀ i ∈ tg, i ∈ own
theorem dcp_parts {kx vx : IE} {own tg : List Nat} {tup : Bool} {it : II} {ifs : IEs} (hk : EOk C kx) (hv : EOk C vx) (hi : IOk C it) (hf : LOk C ifs) {s : SC} {k : Nat} {X : Cx} {W : WX} {x : Expr} (A : Amb s C k X) (tk : Takes X W) (h : okE s (.dcp kx vx own tg tup it ifs) x = true) :
    ∃ e e2 t i fs scope pos op, x = .DictComp e e2 [⟨t, i, fs, 0⟩] scope pos ∧ DcP X W C kx vx own tg tup it ifs e e2 t i fs scope op := by
  unfold okE at h
  split at h <;> first | (cases ‹IE.dcp kx vx own tg tup it ifs = _›; done) | (cases h; done) | skip
  cases ‹IE.dcp kx vx own tg tup it ifs = _›
  simp only [Bool.and_eq_true, decide_eq_true_eq] at h
  obtain ⟨⟨⟨⟨⟨⟨⟨⟨⟨⟨h1, h2⟩, h3⟩, h4⟩, h5⟩, h6⟩, h7⟩, h8⟩, h9⟩, h9b⟩, h10⟩ := h
  subst h1
  rename_i e e2 t i fs scope pos
  have bk := fun s_ H Cc cl fp => A.blk h6 s_ H Cc cl fp
  have ok := blkOk_by h4
  rw [← A.N, ← A.sc] at ok
  refine ⟨e, e2, t, i, fs, scope, pos, _, rfl, ⟨hi A tk h2 (tup_of h7), ok, h5, fun s_ H Cc cl fp => pg_tg (bk s_ H Cc cl fp) h7, fun s_ H Cc cl fp => ?_, fun s_ H Cc cl fp => (hk (bk s_ H Cc cl fp) takes_0 h9).1, fun s_ H Cc cl fp => (hv (bk s_ H Cc cl fp) takes_0 h9b).1, foldS_of h3 _, fun i hm => ?_⟩⟩
  · split at h10
    · split at h10
      · exact pTs_nil
      · cases h10
    · exact pts_one (hf.t (bk s_ H Cc cl fp) takes_0 h10)
    · cases h10
  · have q := List.all_eq_true.mp h8 i hm
    simpa using q
theorem eok_dcp {kx vx : IE} {own tg : List Nat} {tup : Bool} {it : II} {ifs : IEs} (hk : EOk C kx) (hv : EOk C vx) (hi : IOk C it) (hf : LOk C ifs) : EOk C (.dcp kx vx own tg tup it ifs) := by
  intro s k X W x A tk h
  obtain ⟨e, e2, t, i, fs, scope, pos, op, rfl, P⟩ := dcp_parts hk hv hi hf A tk h
  refine val_then ?_ fun hn w => rfl
  have key := pe_dcn (X := X) (pos := pos) A.wd (by have := A.hu; omega) A.calm (by rw [A.N]; exact A.nd) P.hi P.ok P.hg P.tt P.hk P.hv P.hs
  rw [P.ho] at key
  exact pe_imp key fun σ H Q hw => dcp_goal P.hin hw
structure DcP2 (X : Cx) (W : WX) (C : CallT) (kx vx : IE) (own tg : List Nat) (tup : Bool) (it : II) (vs tg1 : List Nat) (tup1 : Bool) (it1 : II) (e e2 t i t1 i1 : Expr) (scope : Scope) (op : List (Str × Nat)) : Prop where
  hi : pI X W C t it i
  ok : BlkOk X.N X.env.scope scope op
  ho : op.map (·.2) = own
  hg : ∀ (s_ : Shared) (H : Hp) (Cc : Addr) (cl : List (Str × Addr)) (fp : List Addr), PG (X.blk s_ H scope (compEnvC scope cl Cc X.env) fp) t (tG X.K X.mg tg tup)
  hi1 : ∀ (s_ : Shared) (H : Hp) (Cc : Addr) (cl : List (Str × Addr)) (fp : List Addr), PI (X.blk s_ H scope (compEnvC scope cl Cc X.env) fp) t1 i1 (tI X.K X.mg W0 C it1)
  hg1 : ∀ (s_ : Shared) (H : Hp) (Cc : Addr) (cl : List (Str × Addr)) (fp : List Addr), PG (X.blk s_ H scope (compEnvC scope cl Cc X.env) fp) t1 (tG X.K X.mg tg1 tup1)
  hk : ∀ (s_ : Shared) (H : Hp) (Cc : Addr) (cl : List (Str × Addr)) (fp : List Addr), PE (X.blk s_ H scope (compEnvC scope cl Cc X.env) fp) e (tE X.K X.mg W0 C kx)
  hv : ∀ (s_ : Shared) (H : Hp) (Cc : Addr) (cl : List (Str × Addr)) (fp : List Addr), PE (X.blk s_ H scope (compEnvC scope cl Cc X.env) fp) e2 (tE X.K X.mg W0 C vx)
  hs : ∀ x, foldedSetIterable i X.env x = pure x
  hs1 : ∀ env x, foldedSetIterable i1 env x = pure x
  hin : ∀ i ∈ tg, i ∈ own
  hin1 : ∀ i ∈ tg1, i ∈ vs
  hvs : ∀ i ∈ vs, i ∈ own
theorem dc2_parts {kx vx : IE} {own tg vs tg1 : List Nat} {tup tup1 : Bool} {it it1 : II} (hk : EOk C kx) (hv : EOk C vx) (hi : IOk C it) (hi1 : IOk C it1) {s : SC} {k : Nat} {X : Cx} {W : WX} {x : Expr} (A : Amb s C k X) (tk : Takes X W) (h : okE s (.dc2 kx vx own tg tup it vs tg1 tup1 it1) x = true) :
    ∃ e e2 t i t1 i1 scope pos op, x = .DictComp e e2 [⟨t, i, [], 0⟩, ⟨t1, i1, [], 0⟩] scope pos ∧ DcP2 X W C kx vx own tg tup it vs tg1 tup1 it1 e e2 t i t1 i1 scope op := by
  unfold okE at h
  split at h <;> first | (cases ‹IE.dc2 kx vx own tg tup it vs tg1 tup1 it1 = _›; done) | (cases h; done) | skip
  cases ‹IE.dc2 kx vx own tg tup it vs tg1 tup1 it1 = _›
  simp only [Bool.and_eq_true, decide_eq_true_eq, List.isEmpty_iff] at h
  obtain ⟨⟨⟨⟨⟨⟨⟨⟨⟨⟨⟨⟨⟨⟨⟨⟨⟨h1, h2⟩, h3⟩, h4⟩, h5⟩, h6⟩, h7⟩, h8⟩, h9⟩, h10⟩, h11⟩, h12⟩, h13⟩, h14⟩, h15⟩, h16⟩, h17⟩, h18⟩ := h
  subst h1 h2 h3 h4
  rename_i e e2 t i t1 i1 scope pos
  have bk := fun s_ H Cc cl fp => A.blk h9 s_ H Cc cl fp
  have ok := blkOk_by h7
  rw [← A.N, ← A.sc] at ok
  refine ⟨e, e2, t, i, t1, i1, scope, pos, _, rfl, ⟨hi A tk h5 (tup_of h10), ok, h8, fun s_ H Cc cl fp => pg_tg (bk s_ H Cc cl fp) h10, fun s_ H Cc cl fp => hi1 (bk s_ H Cc cl fp) takes_0 h12 (tup_of h14), fun s_ H Cc cl fp => pg_tg (bk s_ H Cc cl fp) h14,
    fun s_ H Cc cl fp => (hk (bk s_ H Cc cl fp) takes_0 h17).1, fun s_ H Cc cl fp => (hv (bk s_ H Cc cl fp) takes_0 h18).1, foldS_of h6 _, fun env x => foldS_of h13 env x, fun i hm => ?_, fun i hm => ?_, fun i hm => ?_⟩⟩
  · have q := List.all_eq_true.mp h11 i hm
    simpa using q
  · have q := List.all_eq_true.mp h15 i hm
    simpa using q
  · have q := List.all_eq_true.mp h16 i hm
    simpa using q
theorem eok_dc2 {kx vx : IE} {own tg vs tg1 : List Nat} {tup tup1 : Bool} {it it1 : II} (hk : EOk C kx) (hv : EOk C vx) (hi : IOk C it) (hi1 : IOk C it1) : EOk C (.dc2 kx vx own tg tup it vs tg1 tup1 it1) := by
  intro s k X W x A tk h
  obtain ⟨e, e2, t, i, t1, i1, scope, pos, op, rfl, P⟩ := dc2_parts hk hv hi hi1 A tk h
  refine val_then ?_ fun hn w => rfl
  have key := pe_dc2 (X := X) (pos := pos) (vs1 := vs) A.wd (by have := A.hu; omega) A.calm (by rw [A.N]; exact A.nd) P.hi P.ok (fun i hm => by rw [P.ho]; exact P.hvs i hm) P.hg P.hi1 P.hg1 P.hk P.hv P.hs P.hs1
  rw [P.ho] at key
  exact pe_imp key fun σ H Q hw => dc2_goal P.hin P.hin1 hw
theorem lok_nil : LOk C .nil where
  l := by
    intro s k X W xs A tk h
    cases xs with
    | nil => exact .nil
    | cons x xs => cases x <;> cases h
  p := by
    intro s k X W xs A tk h
    cases xs with
    | nil => exact .nil
    | cons x xs => cases h
  b := by
    intro s k X W xs A tk h
    cases xs <;> cases h
  o := by
    intro s k X W x A tk h
    cases x with
    | none => exact ad_o0
    | some x => cases h
  k := by
    intro s k X W xs A tk h
    cases xs with
    | nil => exact .nil
    | cons x xs => cases h
  t := by
    intro s k X W f A tk h
    cases h
theorem lok_cons {e : IE} {r : IEs} (he : EOk C e) (hr : LOk C r) : LOk C (.cons e r) where
  l := by
    intro s k X W xs A tk h
    unfold okL at h
    split at h <;> first | (cases ‹IEs.cons e r = _›; done) | (cases h; done) | skip
    cases ‹IEs.cons e r = _›
    simp only [Bool.and_eq_true] at h
    exact .cons (he A tk h.1.1).1 h.1.2 (hr.l A tk h.2)
  p := by
    intro s k X W xs A tk h
    unfold okP at h
    split at h <;> first | (cases ‹IEs.cons e r = _›; done) | (cases h; done) | skip
    cases ‹IEs.cons e r = _›
    simp only [Bool.and_eq_true] at h
    exact .cons (he A tk h.1.1).1 h.1.2 (hr.p A tk h.2)
  b := by
    intro s k X W xs A tk h kk pos
    unfold okB at h
    split at h <;> first | (cases ‹IEs.cons e r = _›; done) | (cases h; done) | skip
    · cases ‹IEs.cons e r = _›
      rw [Bool.and_eq_true] at h
      have q := he A tk h.1
      exact ⟨ad_b1 q.1, ad_b1T (q.2 h.2)⟩
    · cases ‹IEs.cons e r = _›
      simp only [Bool.and_eq_true] at h
      have q := he A tk h.1.1
      obtain ⟨a, b⟩ := hr.b A tk h.2 kk pos
      cases r with
      | nil =>
        have h2 := h.2
        unfold okB at h2
        cases h2
      | cons e' r' => exact ⟨ad_b2 q.1 a, ad_b2T (q.2 h.1.2) b⟩
      | star e' r' =>
        have h2 := h.2
        unfold okB at h2
        cases h2
  o := by
    intro s k X W x A tk h
    unfold okO at h
    split at h <;> first | (cases ‹IEs.cons e r = _›; done) | (cases h; done) | skip
    cases ‹IEs.cons e r = _›
    exact ad_o1 (he A tk h).1
  k := by
    intro s k X W xs A tk h
    unfold okK at h
    split at h <;> first | (cases ‹IEs.cons e r = _›; done) | (cases h; done) | skip
    cases ‹IEs.cons e r = _›
    rw [Bool.and_eq_true] at h
    exact .cons (he A tk h.1).1 (hr.k A tk h.2)
  t := by
    intro s k X W f A tk h
    unfold okB at h
    split at h <;> first | (cases ‹IEs.cons e r = _›; done) | (cases h; done) | skip
    · cases ‹IEs.cons e r = _›
      cases ‹[f] = _›
      rw [Bool.and_eq_true] at h
      exact (he A tk h.1).2 h.2
    · cases ‹[f] = _›
theorem lok_star {e : IE} {r : IEs} (he : EOk C e) (hr : LOk C r) : LOk C (.star e r) where
  l := by
    intro s k X W xs A tk h
    unfold okL at h
    split at h <;> first | (cases ‹IEs.star e r = _›; done) | (cases h; done) | skip
    cases ‹IEs.star e r = _›
    rw [Bool.and_eq_true] at h
    exact .star (he A tk h.1).1 (hr.l A tk h.2)
  p := by
    intro s k X W xs A tk h
    cases xs <;> cases h
  b := by
    intro s k X W xs A tk h
    unfold okB at h
    cases h
  o := by
    intro s k X W xs A tk h
    cases xs <;> cases h
  k := by
    intro s k X W xs A tk h
    cases xs <;> cases h
  t := by
    intro s k X W f A tk h
    unfold okB at h
    cases h
theorem iok_of {a : IE} (ha : EOk C a) : IOk C (.of a) := by
  intro s k X W x tup tg A tk h ht
  unfold okI at h
  exact ad_of (ha A tk (Bool.and_eq_true_iff.mp h).1).1
theorem iok_rng {es : IEs} (he : LOk C es) : IOk C (.rng es) := by
  intro s k X W x tup tg A tk h ht
  unfold okI at h
  split at h <;> first | (cases ‹II.rng es = _›; done) | (cases h; done) | skip
  cases ‹II.rng es = _›
  simp only [Bool.and_eq_true, decide_eq_true_eq] at h
  obtain ⟨⟨⟨⟨h1, h2⟩, h3⟩, h4⟩, h5⟩ := h
  subst h1
  have q := he.p A tk h4
  split at h5
  · cases q with
    | cons a b c =>
      cases c
      exact ad_rng1 A h2 h3 a b
  · cases q with
    | cons a b c =>
      cases c with
      | cons a' b' c' =>
        cases c'
        exact ad_rng2 A h2 h3 a b a' b'
  · cases h5
theorem iok_enu {a : IE} (ha : EOk C a) : IOk C (.enu a) := by
  intro s k X W x tup tg A tk h ht
  unfold okI at h
  split at h <;> first | (cases ‹II.enu a = _›; done) | (cases h; done) | skip
  cases ‹II.enu a = _›
  simp only [Bool.and_eq_true, decide_eq_true_eq] at h
  obtain ⟨⟨⟨⟨⟨h1, h2⟩, h3⟩, h4⟩, h5⟩, h6⟩ := h
  subst h2
  obtain ⟨es, n, p, e⟩ := ht h1
  subst e
  exact ad_enu A h3 h4 (ha A tk h5).1 h6
theorem iok_zip {a b : IE} (ha : EOk C a) (hb : EOk C b) : IOk C (.zip a b) := by
  intro s k X W x tup tg A tk h ht
  unfold okI at h
  split at h <;> first | (cases ‹II.zip a b = _›; done) | (cases h; done) | skip
  cases ‹II.zip a b = _›
  simp only [Bool.and_eq_true, decide_eq_true_eq] at h
  obtain ⟨⟨⟨⟨⟨⟨⟨h1, h2⟩, h3⟩, h4⟩, h5⟩, h6⟩, h7⟩, h8⟩ := h
  subst h2
  obtain ⟨es, n, p, e⟩ := ht h1
  subst e
  exact ad_zip A h3 h4 (ha A tk h5).1 h7 (hb A tk h6).1 h8
theorem iok_dic {a : IE} (ha : EOk C a) : IOk C (.dic a) := by
  intro s k X W x tup tg A tk h ht
  unfold okI at h
  exact ad_dic A (ha A tk (Bool.and_eq_true_iff.mp h).1).1
theorem iok_vls {a : IE} (ha : EOk C a) : IOk C (.vls a) := by
  intro s k X W x tup tg A tk h ht
  unfold okI at h
  split at h <;> first | (cases ‹II.vls a = _›; done) | (cases h; done) | skip
  cases ‹II.vls a = _›
  simp only [Bool.and_eq_true, decide_eq_true_eq] at h
  obtain ⟨⟨⟨h1, h2⟩, h3⟩, h4⟩ := h
  subst h1
  exact ad_vls A (ha A tk h4).1 h3 h2
mutual
theorem exp_ok : ∀ e : IE, EOk C e
  | .var _ => eok_var
  | .lit _ => eok_lit
  | .glo _ _ => eok_glo
  | .bin _ a b => eok_bin (exp_ok a) (exp_ok b)
  | .neg a => eok_neg (exp_ok a)
  | .cmp _ a b => eok_cmp (exp_ok a) (exp_ok b)
  | .chn _ _ a b c => eok_chn (exp_ok a) (exp_ok b) (exp_ok c)
  | .inv a => eok_inv (exp_ok a)
  | .boo _ es => eok_boo (par_ok es)
  | .ife t a b => eok_ife (exp_ok t) (exp_ok a) (exp_ok b)
  | .tup es => eok_tup (par_ok es)
  | .lst es => eok_lst (par_ok es)
  | .dis _ es => eok_dis (par_ok es)
  | .cal _ es => eok_cal (par_ok es)
  | .cak _ es _ vs _ => eok_cak (par_ok es) (par_ok vs)
  | .bui _ es => eok_bui (par_ok es)
  | .mxd a d => eok_mxd (exp_ok a) (exp_ok d)
  | .isi a _ => eok_isi (exp_ok a)
  | .iso a _ _ => eok_iso (exp_ok a)
  | .cau _ _ _ e => eok_cau (exp_ok e)
  | .met _ a es => eok_met (exp_ok a) (par_ok es)
  | .idx a i => eok_idx (exp_ok a) (exp_ok i)
  | .slc a lo hi => eok_slc (exp_ok a) (par_ok lo) (par_ok hi)
  | .idn a i => eok_idn (exp_ok a) (exp_ok i)
  | .dnw => eok_dnw
  | .gtn a es => eok_gtn (exp_ok a) (par_ok es)
  | .rev a => eok_rev (exp_ok a)
  | .lr1 _ a => eok_lr1 (exp_ok a)
  | .lr2 _ a b => eok_lr2 (exp_ok a) (exp_ok b)
  | .srt a => eok_srt (exp_ok a)
  | .sset a => eok_sset (exp_ok a)
  | .dzp a b => eok_dzp (exp_ok a) (exp_ok b)
  | .srk _ a => eok_srk (exp_ok a)
  | .dcp kx vx _ _ _ it ifs => eok_dcp (exp_ok kx) (exp_ok vx) (ite_ok it) (par_ok ifs)
  | .lc elt _ _ _ it ifs => eok_lc (exp_ok elt) (ite_ok it) (par_ok ifs)
  | .lcc elt _ _ _ it _ _ _ it1 => eok_lcc (exp_ok elt) (ite_ok it) (ite_ok it1)
  | .dc2 kx vx _ _ _ it _ _ _ it1 => eok_dc2 (exp_ok kx) (exp_ok vx) (ite_ok it) (ite_ok it1)
theorem par_ok : ∀ es : IEs, LOk C es
  | .nil => lok_nil
  | .cons e r => lok_cons (exp_ok e) (par_ok r)
  | .star e r => lok_star (exp_ok e) (par_ok r)
theorem ite_ok : ∀ it : II, IOk C it
  | .of e => iok_of (exp_ok e)
  | .rng es => iok_rng (par_ok es)
  | .enu e => iok_enu (exp_ok e)
  | .zip a b => iok_zip (exp_ok a) (exp_ok b)
  | .dic a => iok_dic (exp_ok a)
  | .vls a => iok_vls (exp_ok a)
end
end
end Pi

/-! PiStm: statements. -/
namespace Pi
open PySem L2 PyProof.Rows
variable [WD]
section
variable (K : PySem.W.Frag) (mg : Str → Option Value)
structure LkD (S : Sto) (H : Hp) (D : End) (D' : Ends) : Prop where
  nx : ∀ φ' S' H' σ', D.nx φ' S' → Ev S H S' H' → SR K mg S' H' → FR K mg H' σ' φ' → D'.nx σ' H'
  rt : ∀ z S' H' v, D.rt z S' → Ev S H S' H' → SR K mg S' H' → Rp K mg H' v z → D'.rt v H'
  bk : ∀ φ' S' H' σ', D.bk φ' S' → Ev S H S' H' → SR K mg S' H' → FR K mg H' σ' φ' → D'.bk σ' H'
  ct : ∀ φ' S' H' σ', D.ct φ' S' → Ev S H S' H' → SR K mg S' H' → FR K mg H' σ' φ' → D'.ct σ' H'
def LXS (W : WX) (S : Sto) (H : Hp) (E : XS) : Prop := ∀ c a φ' S' cls dx σ' H', E c a φ' S' → Ev S H S' H' → SR K mg S' H' → FR K mg H' σ' φ' → RX mg c cls dx → W cls dx σ' H'
def tS (W : WX) (C : CallT) (st : IS) : TS := fun D' σ H => ∃ φ S D E, FR K mg H σ φ ∧ SR K mg S H ∧ wS C st D E φ S ∧ LkD K mg S H D D' ∧ LXS K mg W S H E
def tSs (W : WX) (C : CallT) (st : ISs) : TS := fun D' σ H => ∃ φ S D E, FR K mg H σ φ ∧ SR K mg S H ∧ wSs C st D E φ S ∧ LkD K mg S H D D' ∧ LXS K mg W S H E
variable {K mg}
theorem LkD.after {S S1 : Sto} {H H1 : Hp} {D : End} {D' : Ends} (l : LkD K mg S H D D') (e : Ev S H S1 H1) : LkD K mg S1 H1 D D' :=
  ⟨fun φ' S' H' σ' h e' => l.nx φ' S' H' σ' h (e.trans e'), fun z S' H' v h e' => l.rt z S' H' v h (e.trans e'), fun φ' S' H' σ' h e' => l.bk φ' S' H' σ' h (e.trans e'), fun φ' S' H' σ' h e' => l.ct φ' S' H' σ' h (e.trans e')⟩
theorem LXS.after {W : WX} {S S1 : Sto} {H H1 : Hp} {E : XS} (l : LXS K mg W S H E) (e : Ev S H S1 H1) : LXS K mg W S1 H1 E := fun c a φ' S' cls dx σ' H' h e' => l c a φ' S' cls dx σ' H' h (e.trans e')
theorem LXS.toE {W : WX} {S : Sto} {H : Hp} {E : XS} {φ : Fr} (l : LXS K mg W S H E) : LX K mg W S H φ (fun c a S1 => E c a φ S1) := fun c a S' cls dx σ' H' h e s f r => l c a φ S' cls dx σ' H' h e s f r
end
section
variable {s : SC} {C : CallT} {k : Nat} {X : Cx} {W : WX}
abbrev pS (X : Cx) (W : WX) (C : CallT) (st : IS) (x : Stmt) : Prop := PS X x (tS X.K X.mg W C st)
abbrev pSs (X : Cx) (W : WX) (C : CallT) (st : ISs) (x : List Stmt) : Prop := PSs X x (tSs X.K X.mg W C st)
theorem ps_imp {e : Stmt} {t t' : TS} (h : PS X e t) (i : ∀ D σ H, t' D σ H → t D σ H) : PS X e t' := ⟨fun pins s σ H D I q => h.run pins s σ H D I (i D σ H q)⟩
theorem pss_imp {e : List Stmt} {t t' : TS} (h : PSs X e t) (i : ∀ D σ H, t' D σ H → t D σ H) : PSs X e t' := ⟨fun pins s σ H D I q => h.run pins s σ H D I (i D σ H q)⟩
/-! ### assignments -/
/-- from a value to a target -/
theorem asg_goal {tg : List Nat} {tup : Bool} {e : IE} {D' : Ends} {σ : L2.St} {H : Hp} (h : tS X.K X.mg W C (.asg tg tup e) D' σ H) : tAsg (tE X.K X.mg W C e) (tG X.K X.mg tg tup) D' σ H := by
  obtain ⟨φ, S, D, E, fr, sr, hw, l, lx⟩ := h
  exact ⟨φ, S, _, _, fr, sr, hw, fun d S1 v H1 hz e1 s1 r => ⟨d, φ, S1, _, fr.mono (e1.tk sr), s1, r, hz, fun φ' σ' hq f _ => l.nx φ' S1 H1 σ' hq e1 s1 f⟩, lx.toE⟩
theorem kind_fn (A : Amb s C k X) : X.env.blockKind = .function := by
  unfold Env.blockKind
  rw [A.sc, A.kd]
  rfl
def isName : Expr → Bool
  | .Name .. => true | _ => false
theorem tg_shape {tg : List Nat} {tup : Bool} {t : Expr} (h : tgB s tg tup t = true) : (∃ i x p, t = .Name x p ∧ tg = [i] ∧ tup = false ∧ nameAt s i (.Name x p) = true) ∨ ∃ es n p, t = .Tuple es n p ∧ tup = true := by
  unfold tgB at h
  split at h
  · split at h
    · exact .inr ⟨_, _, _, rfl, by assumption⟩
    · cases h
  · rename_i ht
    split at h
    · rename_i i
      have h' := h
      unfold nameAt at h
      split at h
      · exact .inl ⟨i, _, _, rfl, rfl, by simpa using ht, h'⟩
      · cases h
    · cases h
theorem swaps_no {v : Expr} {t : Option Expr} {l : Nat} {env : Env} (h : notComp v = true) : swapsWith v t l env = pure false := by
  cases v <;> first | rfl | cases h
theorem swaps_tup {v : Expr} {es : List Expr} {n : Nat} {p : Pos} {l : Nat} {env : Env} : swapsWith v (some (.Tuple es n p)) l env = pure false := by
  cases v <;> rfl
theorem stores_no {t v : Expr} {env : Env} (h : ∀ vs n p, v ≠ .Tuple vs n p) : swappedStores [t] v env = pure none := by
  cases v <;> first | (exact absurd rfl (h _ _ _)) | (cases t <;> rfl)
theorem stores_name {x : Str} {p : Pos} {v : Expr} {env : Env} : swappedStores [.Name x p] v env = pure none := rfl
theorem lcl_of (A : Amb s C k X) {x : Str} (h : lclB s.sc x = false) : (X.env.kindOf x == some .local) = false := by
  cases e : (X.env.kindOf x == some .local) with
  | false => rfl
  | true =>
    have q : X.env.scope.names.lookup x = some .local := eq_of_beq e
    rw [A.sc] at q
    unfold lclB at h
    rw [q] at h
    cases h
theorem noSwap_ok (A : Amb s C k X) {ts vs : List Expr} {n m : Nat} {p q : Pos} (h : noSwap s ts vs = true) : swappedStores [.Tuple ts n p] (.Tuple vs m q) X.env = pure none := by
  unfold noSwap at h
  unfold swappedStores
  simp only [Bool.or_eq_true, Bool.and_eq_true] at h
  rcases h with (h | ⟨h1, h2⟩) | ⟨h1, h2⟩
  · have z : (!(ts.length == 2 || ts.length == 3) || vs.length != ts.length || X.env.blockKind != .function) = true := by
      rw [Bool.or_eq_true, Bool.or_eq_true]
      rcases h with h | h
      · refine .inl (.inl ?_)
        simpa using h
      · refine .inl (.inr ?_)
        simpa using h
    simp only [z, if_true]
  · cases z : (!(ts.length == 2 || ts.length == 3) || vs.length != ts.length || X.env.blockKind != .function) with
    | true => simp only [z, if_true]
    | false =>
      simp only [z, h1, if_true, Bool.false_eq_true, if_false]
      split
      · rfl
      · split <;> rfl
  · cases z : (!(ts.length == 2 || ts.length == 3) || vs.length != ts.length || X.env.blockKind != .function) with
    | true => simp only [z, if_true]
    | false =>
      simp only [z, Bool.false_eq_true, if_false]
      split
      · rfl
      · rw [if_pos ?_]
        rw [Bool.or_eq_true]
        left
        rw [bne_iff_ne]
        intro e
        rw [List.filterMap_length_eq_length] at e
        obtain ⟨t, ht, hq⟩ := List.any_eq_true.mp h2
        have z := e t ht
        cases t <;> first
          | cases z
          | (have hq : (!lclB s.sc _) = true := hq
             rw [Bool.not_eq_true'] at hq
             simp only [lcl_of A hq, Bool.false_and, Bool.false_eq_true, if_false] at z
             cases z)
end
end Pi

/-! PiStm2: assignments. -/
namespace Pi
open PySem L2 PyProof.Rows
variable [WD]
section
variable {s : SC} {C : CallT} {k : Nat} {X : Cx} {W : WX}
/-- is the value such that its stores may swap (a comprehension to a plain name) -/
theorem sw_cases (A : Amb s C k X) {elt : Expr} {gs : List Comprehension} {scope : Scope} {pos py : Pos} {y : Str} {l : Nat} :
    (swapsWith (.ListComp elt gs scope pos) (some (.Name y py)) l X.env = pure true ∧ X.env.scope.names.lookup y = some .local) ∨ swapsWith (.ListComp elt gs scope pos) (some (.Name y py)) l X.env = pure false := by
  cases h : (X.env.kindOf y == some .local) with
  | false =>
    right
    unfold swapsWith
    simp only [h, Bool.and_false, Bool.false_and]
  | true =>
    have hy : X.env.scope.names.lookup y = some .local := eq_of_beq h
    unfold swapsWith
    simp only [h, kind_fn A, Bool.and_true]
    cases (ScopeKind.function == ScopeKind.function && py.line == (Expr.ListComp elt gs scope pos).pos.line && !(scope.names.any fun (n, k) => n == y && (k == .local || k == .cell))) with
    | true => exact .inl ⟨rfl, hy⟩
    | false => exact .inr rfl
theorem sw_casesD (A : Amb s C k X) {kx vx : Expr} {gs : List Comprehension} {scope : Scope} {pos py : Pos} {y : Str} {l : Nat} :
    (swapsWith (.DictComp kx vx gs scope pos) (some (.Name y py)) l X.env = pure true ∧ X.env.scope.names.lookup y = some .local) ∨ swapsWith (.DictComp kx vx gs scope pos) (some (.Name y py)) l X.env = pure false := by
  cases h : (X.env.kindOf y == some .local) with
  | false =>
    right
    unfold swapsWith
    simp only [h, Bool.and_false, Bool.false_and]
  | true =>
    have hy : X.env.scope.names.lookup y = some .local := eq_of_beq h
    unfold swapsWith
    simp only [h, kind_fn A, Bool.and_true]
    cases (ScopeKind.function == ScopeKind.function && py.line == (Expr.DictComp kx vx gs scope pos).pos.line && !(scope.names.any fun (n, k) => n == y && (k == .local || k == .cell))) with
    | true => exact .inl ⟨rfl, hy⟩
    | false => exact .inr rfl
theorem wipe_gname {i : Nat} {φ : Fr} : True := trivial
theorem lc_asg (A : Amb s C k X) (tk : Takes X W) {i : Nat} {y : Str} {py sp : Pos} {elt : IE} {own tg : List Nat} {tup : Bool} {it : II} {ifs : IEs} {x : Expr} (hn : nameAt s i (.Name y py) = true)
    (h : okE s (.lc elt own tg tup it ifs) x = true) : pS X W C (.asg [i] false (.lc elt own tg tup it ifs)) (.Assign [.Name y py] x sp) := by
  obtain ⟨y', py', e, h1, h2, h3⟩ := nameAt_ok A hn
  cases e
  have hx := h
  obtain ⟨e, t, it', fs, scope, pos, op, rfl, P⟩ := lc_parts (exp_ok elt) (ite_ok it) (par_ok ifs) A tk h
  have nd : X.N.Nodup := by rw [A.N]; exact A.nd
  have fin : ∀ {D' : Ends} {σ : L2.St} {H : Hp}, tS X.K X.mg W C (.asg [i] false (.lc elt own tg tup it ifs)) D' σ H → tE X.K X.mg W C (.lc elt own tg tup it ifs) σ H (fun x H1 => gName i x σ H1 D'.nx) := by
    rintro D' σ H ⟨φ, S, D, E, fr, sr, hw, l, lx⟩
    have hw : wE C (.lc elt own tg tup it ifs) φ S (fun d S1 => tgW [i] false d S1 φ fun φ1 => D.nx φ1 S1) (fun c a S1 => E c a φ S1) := hw
    refine ⟨φ, S, _, _, fr, sr, hw, fun d S1 v H1 hz e1 s1 r => ?_, lx.toE⟩
    have hz : ∃ j, [i] = [j] ∧ D.nx (φ.set j (some d)) S1 := hz
    obtain ⟨j, ej, hz⟩ := hz
    cases ej
    exact l.nx _ S1 H1 _ hz e1 s1 ((fr.mono (e1.tk sr)).set r)
  rcases sw_cases A (elt := e) (gs := [⟨t, it', fs, 0⟩]) (scope := scope) (pos := pos) (py := py) (y := y) (l := sp.line) with ⟨hs, hl⟩ | hs
  · have key := ps_setLc A.calm nd h1 hl hs P.hi P.ok P.hg P.tt P.he P.hs
    rw [P.ho] at key
    exact ps_imp key fun D' σ H hw => lc_goal P.hin (fin hw)
  · exact ps_imp (ps_set nd h1 h2 (exp_ok _ A tk hx).1 hs h3) fun D' σ H hw => fin hw
theorem dcp_asg (A : Amb s C k X) (tk : Takes X W) {i : Nat} {y : Str} {py sp : Pos} {kx vx : IE} {own tg : List Nat} {tup : Bool} {it : II} {ifs : IEs} {x : Expr} (hn : nameAt s i (.Name y py) = true)
    (h : okE s (.dcp kx vx own tg tup it ifs) x = true) : pS X W C (.asg [i] false (.dcp kx vx own tg tup it ifs)) (.Assign [.Name y py] x sp) := by
  obtain ⟨y', py', e, h1, h2, h3⟩ := nameAt_ok A hn
  cases e
  have hx := h
  obtain ⟨e, e2, t, it', fs, scope, pos, op, rfl, P⟩ := dcp_parts (exp_ok kx) (exp_ok vx) (ite_ok it) (par_ok ifs) A tk h
  have nd : X.N.Nodup := by rw [A.N]; exact A.nd
  have fin : ∀ {D' : Ends} {σ : L2.St} {H : Hp}, tS X.K X.mg W C (.asg [i] false (.dcp kx vx own tg tup it ifs)) D' σ H → tE X.K X.mg W C (.dcp kx vx own tg tup it ifs) σ H (fun x H1 => gName i x σ H1 D'.nx) := by
    rintro D' σ H ⟨φ, S, D, E, fr, sr, hw, l, lx⟩
    have hw : wE C (.dcp kx vx own tg tup it ifs) φ S (fun d S1 => tgW [i] false d S1 φ fun φ1 => D.nx φ1 S1) (fun c a S1 => E c a φ S1) := hw
    refine ⟨φ, S, _, _, fr, sr, hw, fun d S1 v H1 hz e1 s1 r => ?_, lx.toE⟩
    have hz : ∃ j, [i] = [j] ∧ D.nx (φ.set j (some d)) S1 := hz
    obtain ⟨j, ej, hz⟩ := hz
    cases ej
    exact l.nx _ S1 H1 _ hz e1 s1 ((fr.mono (e1.tk sr)).set r)
  rcases sw_casesD A (kx := e) (vx := e2) (gs := [⟨t, it', fs, 0⟩]) (scope := scope) (pos := pos) (py := py) (y := y) (l := sp.line) with ⟨hs, hl⟩ | hs
  · have key := ps_setDcn A.wd (by have := A.hu; omega) A.calm nd h1 hl hs P.hi P.ok P.hg P.tt P.hk P.hv P.hs
    rw [P.ho] at key
    exact ps_imp key fun D' σ H hw => dcp_goal P.hin (fin hw)
  · exact ps_imp (ps_set nd h1 h2 (exp_ok _ A tk hx).1 hs h3) fun D' σ H hw => fin hw
theorem lcc_asg (A : Amb s C k X) (tk : Takes X W) {i : Nat} {y : Str} {py sp : Pos} {elt : IE} {own tg vs tg1 : List Nat} {tup tup1 : Bool} {it it1 : II} {x : Expr} (hn : nameAt s i (.Name y py) = true)
    (h : okE s (.lcc elt own tg tup it vs tg1 tup1 it1) x = true) : pS X W C (.asg [i] false (.lcc elt own tg tup it vs tg1 tup1 it1)) (.Assign [.Name y py] x sp) := by
  obtain ⟨y', py', e, h1, h2, h3⟩ := nameAt_ok A hn
  cases e
  have hx := h
  obtain ⟨e, t, it', t1, i1, scope, pos, op, rfl, P⟩ := lcc_parts (exp_ok elt) (ite_ok it) (ite_ok it1) A tk h
  have nd : X.N.Nodup := by rw [A.N]; exact A.nd
  have fin : ∀ {D' : Ends} {σ : L2.St} {H : Hp}, tS X.K X.mg W C (.asg [i] false (.lcc elt own tg tup it vs tg1 tup1 it1)) D' σ H → tE X.K X.mg W C (.lcc elt own tg tup it vs tg1 tup1 it1) σ H (fun x H1 => gName i x σ H1 D'.nx) := by
    rintro D' σ H ⟨φ, S, D, E, fr, sr, hw, l, lx⟩
    have hw : wE C (.lcc elt own tg tup it vs tg1 tup1 it1) φ S (fun d S1 => tgW [i] false d S1 φ fun φ1 => D.nx φ1 S1) (fun c a S1 => E c a φ S1) := hw
    refine ⟨φ, S, _, _, fr, sr, hw, fun d S1 v H1 hz e1 s1 r => ?_, lx.toE⟩
    have hz : ∃ j, [i] = [j] ∧ D.nx (φ.set j (some d)) S1 := hz
    obtain ⟨j, ej, hz⟩ := hz
    cases ej
    exact l.nx _ S1 H1 _ hz e1 s1 ((fr.mono (e1.tk sr)).set r)
  rcases sw_cases A (elt := e) (gs := [⟨t, it', [], 0⟩, ⟨t1, i1, [], 0⟩]) (scope := scope) (pos := pos) (py := py) (y := y) (l := sp.line) with ⟨hs, hl⟩ | hs
  · have key := ps_setLc2 (vs1 := vs) A.calm nd h1 hl hs P.hi P.ok (fun i hm => by rw [P.ho]; exact P.hv i hm) P.hg (fun _ _ _ _ _ => pts_nil) P.hi1 P.hg1 (fun _ _ _ _ _ => pts_nil) P.he P.hs P.hs1
    rw [P.ho] at key
    exact ps_imp key fun D' σ H hw => lcc_goal P.hin P.hin1 (fin hw)
  · exact ps_imp (ps_set nd h1 h2 (exp_ok _ A tk hx).1 hs h3) fun D' σ H hw => fin hw
theorem dc2_asg (A : Amb s C k X) (tk : Takes X W) {i : Nat} {y : Str} {py sp : Pos} {kx vx : IE} {own tg vs tg1 : List Nat} {tup tup1 : Bool} {it it1 : II} {x : Expr} (hn : nameAt s i (.Name y py) = true)
    (h : okE s (.dc2 kx vx own tg tup it vs tg1 tup1 it1) x = true) : pS X W C (.asg [i] false (.dc2 kx vx own tg tup it vs tg1 tup1 it1)) (.Assign [.Name y py] x sp) := by
  obtain ⟨y', py', e, h1, h2, h3⟩ := nameAt_ok A hn
  cases e
  have hx := h
  obtain ⟨e, e2, t, it', t1, i1, scope, pos, op, rfl, P⟩ := dc2_parts (exp_ok kx) (exp_ok vx) (ite_ok it) (ite_ok it1) A tk h
  have nd : X.N.Nodup := by rw [A.N]; exact A.nd
  have fin : ∀ {D' : Ends} {σ : L2.St} {H : Hp}, tS X.K X.mg W C (.asg [i] false (.dc2 kx vx own tg tup it vs tg1 tup1 it1)) D' σ H → tE X.K X.mg W C (.dc2 kx vx own tg tup it vs tg1 tup1 it1) σ H (fun x H1 => gName i x σ H1 D'.nx) := by
    rintro D' σ H ⟨φ, S, D, E, fr, sr, hw, l, lx⟩
    have hw : wE C (.dc2 kx vx own tg tup it vs tg1 tup1 it1) φ S (fun d S1 => tgW [i] false d S1 φ fun φ1 => D.nx φ1 S1) (fun c a S1 => E c a φ S1) := hw
    refine ⟨φ, S, _, _, fr, sr, hw, fun d S1 v H1 hz e1 s1 r => ?_, lx.toE⟩
    have hz : ∃ j, [i] = [j] ∧ D.nx (φ.set j (some d)) S1 := hz
    obtain ⟨j, ej, hz⟩ := hz
    cases ej
    exact l.nx _ S1 H1 _ hz e1 s1 ((fr.mono (e1.tk sr)).set r)
  rcases sw_casesD A (kx := e) (vx := e2) (gs := [⟨t, it', [], 0⟩, ⟨t1, i1, [], 0⟩]) (scope := scope) (pos := pos) (py := py) (y := y) (l := sp.line) with ⟨hs, hl⟩ | hs
  · have key := ps_setDc2 (vs1 := vs) A.wd (by have := A.hu; omega) A.calm nd h1 hl hs P.hi P.ok (fun i hm => by rw [P.ho]; exact P.hvs i hm) P.hg P.hi1 P.hg1 P.hk P.hv P.hs P.hs1
    rw [P.ho] at key
    exact ps_imp key fun D' σ H hw => dc2_goal P.hin P.hin1 (fin hw)
  · exact ps_imp (ps_set nd h1 h2 (exp_ok _ A tk hx).1 hs h3) fun D' σ H hw => fin hw
theorem comp_term {e : IE} {v : Expr} (h : okE s e v = true) (hc : notComp v = false) : (∃ elt own tg tup it ifs, e = .lc elt own tg tup it ifs) ∨ (∃ elt own tg tup it vs tg1 tup1 it1, e = .lcc elt own tg tup it vs tg1 tup1 it1) ∨ (∃ kx vx own tg tup it ifs, e = .dcp kx vx own tg tup it ifs) ∨ ∃ kx vx own tg tup it vs tg1 tup1 it1, e = .dc2 kx vx own tg tup it vs tg1 tup1 it1 := by
  cases e <;> first
    | exact .inl ⟨_, _, _, _, _, _, rfl⟩
    | exact .inr (.inl ⟨_, _, _, _, _, _, _, _, _, rfl⟩)
    | exact .inr (.inr (.inl ⟨_, _, _, _, _, _, _, rfl⟩))
    | exact .inr (.inr (.inr ⟨_, _, _, _, _, _, _, _, _, _, rfl⟩))
    | (unfold okE at h
       split at h <;> first | (cases hc; done) | (cases h; done) | (cases ‹_ = IE.lc _ _ _ _ _ _›; done) | (cases ‹_ = IE.lcc _ _ _ _ _ _ _ _ _›; done) | (cases ‹_ = IE.dcp _ _ _ _ _ _ _›; done) | (cases ‹_ = IE.dc2 _ _ _ _ _ _ _ _ _ _›; done))
theorem s_asg (A : Amb s C k X) (tk : Takes X W) {tg : List Nat} {tup : Bool} {e : IE} {t v : Expr} {sp : Pos} (h1 : tgB s tg tup t = true) (h2 : okE s e v = true) (h3 : asgB s t v = true) : pS X W C (.asg tg tup e) (.Assign [t] v sp) := by
  have pe := (exp_ok e A tk h2).1
  have pg := pg_tg A h1
  have go : swapsWithSole [t] v sp.line X.env = pure false → swappedStores [t] v X.env = pure none → (assignEach [t] X.env).map (·.2) = [assign t X.env] → pS X W C (.asg tg tup e) (.Assign [t] v sp) :=
    fun a b c => ps_imp (ps_asg pe pg a b c) fun D' σ H hw => asg_goal hw
  rcases tg_shape h1 with ⟨i, x, p, rfl, rfl, rfl, hn⟩ | ⟨es, n, p, rfl, rfl⟩
  · cases hc : notComp v with
    | true => exact go (show swapsWith v (some (.Name x p)) sp.line X.env = pure false from swaps_no hc) stores_name rfl
    | false =>
      rcases comp_term h2 hc with ⟨elt, own, tg, tup, it, ifs, rfl⟩ | ⟨elt, own, tg, tup, it, vs, tg1, tup1, it1, rfl⟩ | ⟨kx, vx, own, tg, tup, it, ifs, rfl⟩ | ⟨kx, vx, own, tg, tup, it, vs, tg1, tup1, it1, rfl⟩
      · exact lc_asg A tk hn h2
      · exact lcc_asg A tk hn h2
      · exact dcp_asg A tk hn h2
      · exact dc2_asg A tk hn h2
  · refine go (show swapsWith v (some (.Tuple es n p)) sp.line X.env = pure false from swaps_tup) ?_ rfl
    cases v <;> first | exact noSwap_ok A h3 | exact stores_no (by intros; exact fun z => nomatch z)
end
end Pi

/-! PiStm3: statements, one by one. -/
namespace Pi
open PySem L2 PyProof.Rows
variable [WD]
section
variable {s : SC} {C : CallT} {k : Nat} {X : Cx} {W : WX}
/-! ### a, b = x, y -/
theorem fm2 {f : Expr → Option Str} {a b : Expr} {x y : Str} (h1 : f a = some x) (h2 : f b = some y) : [a, b].filterMap f = [x, y] := by
  simp only [List.filterMap_cons, List.filterMap_nil, h1, h2]
theorem fm3 {f : Expr → Option Str} {a b c : Expr} {x y z : Str} (h1 : f a = some x) (h2 : f b = some y) (h3 : f c = some z) : [a, b, c].filterMap f = [x, y, z] := by
  simp only [List.filterMap_cons, List.filterMap_nil, h1, h2, h3]
theorem fm_one {b : Bool} {x : Str} (h : b = true) : (if b = true then some x else none) = some x := by rw [h]; rfl
theorem swapped2 (A : Amb s C k X) {x y : Str} {px py pt pt2 : Pos} {kt k2 : Nat} {vs : List Expr} (hv : vs.length = 2) (hst : vs.all notStar = true) (hx : X.env.scope.names.lookup x = some .local) (hy : X.env.scope.names.lookup y = some .local) (hl : (py.line == px.line) = true) (ne : x ≠ y)
    (h1 : vs.all (foldedForSure 8) = false) (h2 : vs.all (constantsAlone 8) = false) : swappedStores [.Tuple [.Name x px, .Name y py] kt pt] (.Tuple vs k2 pt2) X.env = pure (some [x, y]) := by
  have kx : (X.env.kindOf x == some .local) = true := by show (X.env.scope.names.lookup x == some .local) = true; rw [hx]; rfl
  have ky : (X.env.kindOf y == some .local) = true := by show (X.env.scope.names.lookup y == some .local) = true; rw [hy]; rfl
  have ed : ([x, y] : List Str).eraseDups = [x, y] := by
    have : (y == x) = false := beq_eq_false_iff_ne.mpr (Ne.symm ne)
    simp [List.eraseDups_cons, this]
  unfold swappedStores
  simp only [hv, List.length_cons, List.length_nil, kind_fn A]
  rw [if_neg (by decide), if_neg ?_]
  · rw [fm2 (x := x) (y := y) (fm_one (by rw [kx, Bool.true_and]; exact beq_self_eq_true px.line)) (fm_one (by rw [ky, Bool.true_and]; exact hl)), ed, if_neg (by simp), if_neg (by rw [h1]; decide), if_neg (by rw [h2]; decide)]
  · intro h
    obtain ⟨e, he, hq⟩ := List.any_eq_true.mp h
    have hs := List.all_eq_true.mp hst e he
    cases e <;> first | (cases hq; done) | (cases hs; done)
theorem swapped3 (A : Amb s C k X) {x y z : Str} {px py pz pt pt2 : Pos} {kt k2 : Nat} {vs : List Expr} (hv : vs.length = 3) (hst : vs.all notStar = true) (hx : X.env.scope.names.lookup x = some .local) (hy : X.env.scope.names.lookup y = some .local) (hz : X.env.scope.names.lookup z = some .local)
    (hl : (py.line == px.line) = true) (hl2 : (pz.line == px.line) = true) (n1 : x ≠ y) (n2 : x ≠ z) (n3 : y ≠ z)
    (h1 : vs.all (foldedForSure 8) = false) (h2 : vs.all (constantsAlone 8) = false) : swappedStores [.Tuple [.Name x px, .Name y py, .Name z pz] kt pt] (.Tuple vs k2 pt2) X.env = pure (some [x, y, z]) := by
  have kx : (X.env.kindOf x == some .local) = true := by show (X.env.scope.names.lookup x == some .local) = true; rw [hx]; rfl
  have ky : (X.env.kindOf y == some .local) = true := by show (X.env.scope.names.lookup y == some .local) = true; rw [hy]; rfl
  have kz : (X.env.kindOf z == some .local) = true := by show (X.env.scope.names.lookup z == some .local) = true; rw [hz]; rfl
  have ed : ([x, y, z] : List Str).eraseDups = [x, y, z] := by
    have e1 : (y == x) = false := beq_eq_false_iff_ne.mpr (Ne.symm n1)
    have e2 : (z == x) = false := beq_eq_false_iff_ne.mpr (Ne.symm n2)
    have e3 : (z == y) = false := beq_eq_false_iff_ne.mpr (Ne.symm n3)
    simp [List.eraseDups_cons, e1, e2, e3]
  unfold swappedStores
  simp only [hv, List.length_cons, List.length_nil, kind_fn A]
  rw [if_neg (by decide), if_neg ?_]
  · rw [fm3 (x := x) (y := y) (z := z) (fm_one (by rw [kx, Bool.true_and]; exact beq_self_eq_true px.line)) (fm_one (by rw [ky, Bool.true_and]; exact hl)) (fm_one (by rw [kz, Bool.true_and]; exact hl2)), ed, if_neg (by simp), if_neg (by rw [h1]; decide), if_neg (by rw [h2]; decide)]
  · intro h
    obtain ⟨e, he, hq⟩ := List.any_eq_true.mp h
    have hs := List.all_eq_true.mp hst e he
    cases e <;> first | (cases hq; done) | (cases hs; done)
theorem s_par (A : Amb s C k X) (tk : Takes X W) {tg : List Nat} {es : IEs} {ts vs : List Expr} {n m : Nat} {p q sp : Pos} (h1 : namesAt s tg ts = true) (h2 : okP s es vs = true) (h3 : parB s ts vs = true) (h4 : tg.Nodup) :
    pS X W C (.par tg es) (.Assign [.Tuple ts n p] (.Tuple vs m q) sp) := by
  have nd : X.N.Nodup := by rw [A.N]; exact A.nd
  have al := (par_ok es).p A tk h2
  have pa := al.toS.pa
  unfold parB at h3
  simp only [Bool.and_eq_true, Bool.or_eq_true, decide_eq_true_eq, Bool.not_eq_true'] at h3
  obtain ⟨⟨⟨⟨⟨h5, h6⟩, h7⟩, h8⟩, h9⟩, h10⟩ := h3
  split at h8
  · rename_i x px y py
    simp only [Bool.and_eq_true, Bool.not_eq_true', decide_eq_false_iff_not] at h8
    obtain ⟨⟨⟨hx, hy⟩, hl⟩, ne⟩ := h8
    match tg, h1, h4 with
    | [i, j], h1, h4 =>
      have g : (nameAt s i (.Name x px) && (nameAt s j (.Name y py) && true)) = true := h1
      simp only [Bool.and_eq_true] at g
      obtain ⟨_, _, e1, i1, _, _⟩ := nameAt_ok A g.1
      cases e1
      obtain ⟨_, _, e2, i2, _, _⟩ := nameAt_ok A g.2.1
      cases e2
      have hij : i ≠ j := by simpa using h4
      match vs, h6 with
      | [a, b], h6 =>
        refine ps_imp (ps_par A.calm nd i1 i2 hij (A.lcl hx) (A.lcl hy) pa (swapped2 A rfl h7 (A.lcl hx) (A.lcl hy) hl ne h9 h10)) fun D' σ H ⟨φ, S, D, E, fr, sr, hw, l, lx⟩ => ?_
        refine ⟨φ, S, _, _, fr, sr, hw, fun ds S1 us H1 hz e1 s1 r => ?_, lx.toE⟩
        obtain ⟨hlen, hq⟩ := hz
        match ds, hlen, r with
        | [d, e], _, .cons (v := v) r1 (.cons (v := w) r2 .nil) =>
          exact ⟨v, w, rfl, l.nx _ S1 H1 _ hq e1 s1 (((fr.mono (e1.tk sr)).set r1).set r2)⟩
    | [], h1, _ => cases h1
    | [_], h1, _ => exact absurd h1 (by intro z; have z' : (nameAt s _ (.Name x px) && false) = true := z; rw [Bool.and_false] at z'; cases z')
    | i :: j :: l :: r, h1, _ => exact absurd h1 (by intro z; have z' : (nameAt s i (.Name x px) && (nameAt s j (.Name y py) && false)) = true := z; rw [Bool.and_false, Bool.and_false] at z'; cases z')
  · rename_i x px y py z pz
    simp only [Bool.and_eq_true, Bool.not_eq_true', decide_eq_false_iff_not] at h8
    obtain ⟨⟨⟨⟨⟨⟨⟨hx, hy⟩, hz⟩, hl⟩, hl2⟩, n1⟩, n2⟩, n3⟩ := h8
    match tg, h1, h4 with
    | [i, j, l], h1, h4 =>
      have g : (nameAt s i (.Name x px) && (nameAt s j (.Name y py) && (nameAt s l (.Name z pz) && true))) = true := h1
      simp only [Bool.and_eq_true] at g
      obtain ⟨_, _, e1, i1, _, _⟩ := nameAt_ok A g.1
      cases e1
      obtain ⟨_, _, e2, i2, _, _⟩ := nameAt_ok A g.2.1
      cases e2
      obtain ⟨_, _, e3, i3, _, _⟩ := nameAt_ok A g.2.2.1
      cases e3
      have hn : (i ≠ j ∧ i ≠ l) ∧ j ≠ l := by simpa using h4
      match vs, h6 with
      | [a, b, c], h6 =>
        refine ps_imp (ps_par3 A.calm nd i1 i2 i3 hn.1.1 hn.1.2 hn.2 (A.lcl hx) (A.lcl hy) (A.lcl hz) pa (swapped3 A rfl h7 (A.lcl hx) (A.lcl hy) (A.lcl hz) hl hl2 n1 n2 n3 h9 h10)) fun D' σ H ⟨φ, S, D, E, fr, sr, hw, ld, lx⟩ => ?_
        refine ⟨φ, S, _, _, fr, sr, hw, fun ds S1 us H1 hz e1 s1 r => ?_, lx.toE⟩
        obtain ⟨hlen, hq⟩ := hz
        match ds, hlen, r with
        | [d, e, f], _, .cons (v := v) r1 (.cons (v := w) r2 (.cons (v := u) r3 .nil)) =>
          exact ⟨v, w, u, rfl, ld.nx _ S1 H1 _ hq e1 s1 ((((fr.mono (e1.tk sr)).set r1).set r2).set r3)⟩
    | [], h1, _ => cases h1
    | [_], h1, _ => exact absurd h1 (by intro z; have z' : (nameAt s _ (.Name x px) && false) = true := z; rw [Bool.and_false] at z'; cases z')
    | [i, j], h1, _ => exact absurd h1 (by intro z; have z' : (nameAt s i (.Name x px) && (nameAt s j (.Name y py) && false)) = true := z; rw [Bool.and_false, Bool.and_false] at z'; cases z')
    | i :: j :: l :: o :: r, h1, _ => exact absurd h1 (by intro z; have z' : (nameAt s i (.Name x px) && (nameAt s j (.Name y py) && (nameAt s l (.Name _ pz) && false))) = true := z; rw [Bool.and_false, Bool.and_false, Bool.and_false] at z'; cases z')
  · cases h8
end
end Pi

/-! PiStm4: a statement that matches a piece of syntax says what the piece does. -/
namespace Pi
open PySem L2 PyProof.Rows
variable [WD]
section
variable {s : SC} {C : CallT} {k : Nat} {X : Cx} {W : WX}
theorem s_sto (A : Amb s C k X) (tk : Takes X W) {o i e : IE} {p q v : Expr} {tp sp : Pos} (h1 : okE s o p = true) (h2 : okE s i q = true) (h3 : okE s e v = true) (h4 : notSlice q = true) (h5 : notComp v = true) :
    pS X W C (.sto o i e) (.Assign [.Subscript p q tp] v sp) := by
  have pg := pg_sub (pos := tp) (exp_ok o A tk h1).1 (exp_ok i A tk h2).1 (set_P (X := X) (by have := A.hu; omega)) (by
    intro v
    cases q <;> first | rfl | cases h4)
  refine ps_imp (ps_asg (exp_ok e A tk h3).1 pg (show swapsWith v (some (.Subscript p q tp)) sp.line X.env = pure false from swaps_no h5) (by cases v <;> rfl) rfl) fun D' σ H ⟨φ, S, D, E, fr, sr, hw, l, lx⟩ => ?_
  have hw : wE C e φ S (fun v S1 => wE C o φ S1 (fun x S2 => wE C i φ S2 (fun y S3 => stoW x y v S3 fun S4 => D.nx φ S4) fun c a S' => E c a φ S') fun c a S' => E c a φ S') (fun c a S' => E c a φ S') := hw
  refine ⟨φ, S, _, _, fr, sr, hw, fun v S1 u H1 h1 e1 s1 r1 => ⟨φ, S1, _, _, fr.mono (e1.tk sr), s1, h1, fun x S2 ux H2 h2 e2 s2 r2 => ⟨φ, S2, _, _, fr.mono ((e1.trans e2).tk sr), s2, h2, fun y S3 uy H3 h3 e3 s3 r3 => ?_, (lx.after (e1.trans e2)).toE⟩, (lx.after e1).toE⟩, lx.toE⟩
  refine ⟨S3, x, y, v, _, s3, r2.mono (e3.tk s2), r3, r1.mono ((e2.trans e3).tk s1), h3, fun S4 H4 h4 e4 s4 => ?_⟩
  exact l.nx _ S4 H4 _ h4 (e1.trans (e2.trans (e3.trans e4))) s4 (fr.mono ((e1.trans (e2.trans (e3.trans e4))).tk sr))
theorem s_stn (A : Amb s C k X) (tk : Takes X W) {o i e : IE} {p q v : Expr} {tp sp : Pos} (h1 : okE s o p = true) (h2 : okE s i q = true) (h3 : okE s e v = true) (h4 : notSlice q = true) :
    pS X W C (.stn o i e) (.Assign [.Subscript p q tp] v sp) := by
  have pg := pg_sub (pos := tp) (exp_ok o A tk h1).1 (exp_ok i A tk h2).1 (set_nP (X := X) A.wd (by have := A.hu; omega)) (by
    intro v
    cases q <;> first | rfl | cases h4)
  refine ps_imp (ps_asg (exp_ok e A tk h3).1 pg (show swapsWith v (some (.Subscript p q tp)) sp.line X.env = pure false from by cases v <;> rfl) (by cases v <;> rfl) rfl) fun D' σ H ⟨φ, S, D, E, fr, sr, hw, l, lx⟩ => ?_
  have hw : wE C e φ S (fun v S1 => wE C o φ S1 (fun x S2 => wE C i φ S2 (fun y S3 => stnW x y v S3 fun S4 => D.nx φ S4) fun c a S' => E c a φ S') fun c a S' => E c a φ S') (fun c a S' => E c a φ S') := hw
  refine ⟨φ, S, _, _, fr, sr, hw, fun v S1 u H1 h1 e1 s1 r1 => ⟨φ, S1, _, _, fr.mono (e1.tk sr), s1, h1, fun x S2 ux H2 h2 e2 s2 r2 => ⟨φ, S2, _, _, fr.mono ((e1.trans e2).tk sr), s2, h2, fun y S3 uy H3 h3 e3 s3 r3 => ?_, (lx.after (e1.trans e2)).toE⟩, (lx.after e1).toE⟩, lx.toE⟩
  refine ⟨S3, x, y, v, _, s3, r2.mono (e3.tk s2), r3, r1.mono ((e2.trans e3).tk s1), h3, fun S4 H4 h4 e4 s4 => ?_⟩
  exact l.nx _ S4 H4 _ h4 (e1.trans (e2.trans (e3.trans e4))) s4 (fr.mono ((e1.trans (e2.trans (e3.trans e4))).tk sr))
def rAug (K : PySem.W.Frag) (mg : Str → Option Value) (op : BOp) : TIp := fun x y H Q => ∃ S d e q, SR K mg S H ∧ Rp K mg H x d ∧ Rp K mg H y e ∧ augW op d e q ∧ ∀ z v, q z → Rp K mg H v z → Q v H
theorem iop_mulW : OpR X (inplaceOp .Mult) (rI CMulW fun i j => .int (i * j)) := opI fun _ _ _ _ _ _ _ hc q => imul_int q hc.ok
theorem ip_P (op : BOp) : PIp X op.py (rAug X.K X.mg op) := by
  intro pins st σ H x y v u Q I rx ry ⟨S, d, e, q, sr, rd, re, hw, l⟩
  unfold augW at hw
  split at hw
  · cases rd
    cases re
    exact ip_add pins st σ H _ _ v u Q I rx ry ⟨_, _, rfl, rfl, l _ _ hw (.int _)⟩
  · cases rd
    cases re
    exact ip_sub pins st σ H _ _ v u Q I rx ry ⟨_, _, rfl, rfl, l _ _ hw (.int _)⟩
  · cases rd
    cases re
    rcases hw with ⟨hm | hm | hm, hw⟩
    · exact iop_mul pins st σ H _ _ v u Q I rx ry ⟨_, _, rfl, rfl, .inl hm, l _ _ hw (.int _)⟩
    · exact iop_mul pins st σ H _ _ v u Q I rx ry ⟨_, _, rfl, rfl, .inr hm, l _ _ hw (.int _)⟩
    · exact iop_mulW pins st σ H _ _ v u Q I rx ry ⟨_, _, rfl, rfl, hm, l _ _ hw (.int _)⟩
  · exact hw.elim
theorem s_agi (A : Amb s C k X) (tk : Takes X W) {o i : IE} {op : BOp} {e : IE} {p q v : Expr} {tp sp : Pos} (h1 : okE s o p = true) (h2 : okE s i q = true) (h3 : okE s e v = true) (h4 : notSlice q = true) :
    pS X W C (.agi o i op e) (.AugAssign (.Subscript p q tp) op.py v sp) := by
  refine ps_imp (ps_augS (exp_ok o A tk h1).1 (exp_ok i A tk h2).1 pg_list (exp_ok e A tk h3).1 (ip_P op) (set_P (X := X) (by have := A.hu; omega)) (by
    intro ov iv new
    cases q <;> first | rfl | cases h4)) fun D' σ H ⟨φ, S, D, E, fr, sr, hw, l, lx⟩ => ?_
  have hw : wE C o φ S (fun x S1 => wE C i φ S1 (fun y S2 => idxL x y S2 fun z S3 => wE C e φ S3 (fun v S4 => augW op z v fun u => stoW x y u S4 fun S5 => D.nx φ S5) fun c a S' => E c a φ S') fun c a S' => E c a φ S') (fun c a S' => E c a φ S') := hw
  refine ⟨φ, S, _, _, fr, sr, hw, fun x S1 ux H1 h1 e1 s1 r1 => ⟨φ, S1, _, _, fr.mono (e1.tk sr), s1, h1, fun y S2 uy H2 h2 e2 s2 r2 => ?_, (lx.after e1).toE⟩, lx.toE⟩
  have r1' := r1.mono (e2.tk s1)
  refine ⟨S2, x, y, _, s2, r1', r2, h2, fun z S3 uz H3 h3 e3 s3 r3 => ?_⟩
  have e13 := e1.trans (e2.trans e3)
  refine ⟨φ, S3, _, _, fr.mono (e13.tk sr), s3, h3, fun v S4 uv H4 h4 e4 s4 r4 => ?_, (lx.after e13).toE⟩
  refine ⟨S4, z, v, _, s4, r3.mono (e4.tk s3), r4, h4, fun u uu hu ru => ?_⟩
  have e34 := e3.trans e4
  refine ⟨S4, x, y, u, _, s4, r1'.mono (e34.tk s2), r2.mono (e34.tk s2), ru, hu, fun S5 H5 h5 e5 s5 => ?_⟩
  exact l.nx _ S5 H5 _ h5 (e13.trans (e4.trans e5)) s5 (fr.mono ((e13.trans (e4.trans e5)).tk sr))
theorem s_aug (A : Amb s C k X) (tk : Takes X W) {i : Nat} {op : BOp} {e : IE} {x : Str} {v : Expr} {tp sp : Pos} (h1 : atN s i x = true) (h2 : stB s x = true) (h3 : okE s e v = true) : pS X W C (.aug i op e) (.AugAssign (.Name x tp) op.py v sp) := by
  obtain ⟨a, b⟩ := A.st h2
  refine ps_imp (ps_aug (by rw [A.N]; exact A.nd) (A.ix h1) a (exp_ok e A tk h3).1 (ip_P op) b) fun D' σ H ⟨φ, S, D, E, fr, sr, hw, l, lx⟩ => ?_
  obtain ⟨d, hd, hw⟩ := hw
  obtain ⟨u, hu, ru⟩ := fr.2 i d hd
  refine ⟨u, hu, φ, S, _, _, fr, sr, hw, fun y S1 w H1 hz e1 s1 r1 => ?_, lx.toE⟩
  exact ⟨S1, d, y, _, s1, ru.mono (e1.tk sr), r1, hz, fun z vz hq rz => l.nx _ S1 H1 _ hq e1 s1 ((fr.mono (e1.tk sr)).set rz)⟩
theorem s_exp (A : Amb s C k X) (tk : Takes X W) {e : IE} {v : Expr} {sp : Pos} (h1 : okE s e v = true) (h2 : notComp v = true) : pS X W C (.exp e) (.Expr v sp) :=
  ps_imp (ps_expr (exp_ok e A tk h1).1 (swaps_no h2)) fun D' σ H ⟨φ, S, D, E, fr, sr, hw, l, lx⟩ => ⟨φ, S, _, _, fr, sr, hw, fun z S1 u H1 hz e1 s1 r => l.nx _ S1 H1 _ hz e1 s1 (fr.mono (e1.tk sr)), lx.toE⟩
theorem s_ret (A : Amb s C k X) (tk : Takes X W) {e : IE} {v : Expr} {sp : Pos} (h1 : okE s e v = true) : pS X W C (.ret e) (.Return (some v) sp) :=
  ps_imp (ps_ret (exp_ok e A tk h1).1) fun D' σ H ⟨φ, S, D, E, fr, sr, hw, l, lx⟩ => ⟨φ, S, _, _, fr, sr, hw, fun z S1 u H1 hz e1 s1 r => l.rt z S1 H1 u hz e1 s1 r, lx.toE⟩
theorem s_retN {sp : Pos} : pS X W C .retN (.Return none sp) := ps_imp ps_retN fun D' σ H ⟨φ, S, D, E, fr, sr, hw, l, lx⟩ => l.rt _ S H _ hw Ev.refl sr .non
theorem s_brk {sp : Pos} : pS X W C .brk (.Break sp) := ps_imp ps_break fun D' σ H ⟨φ, S, D, E, fr, sr, hw, l, lx⟩ => l.bk φ S H σ hw Ev.refl sr fr
theorem s_cnt {sp : Pos} : pS X W C .cnt (.Continue sp) := ps_imp ps_continue fun D' σ H ⟨φ, S, D, E, fr, sr, hw, l, lx⟩ => l.ct φ S H σ hw Ev.refl sr fr
theorem s_pas {sp : Pos} : pS X W C .pas (.Pass sp) := ps_imp ps_pass fun D' σ H ⟨φ, S, D, E, fr, sr, hw, l, lx⟩ => l.nx φ S H σ hw Ev.refl sr fr
theorem s_iff {c : IE} {a b : ISs} {t : Expr} {x y : List Stmt} {sp : Pos} (hc : pT X W C c t) (ha : pSs X W C a x) (hb : pSs X W C b y) : pS X W C (.iff c a b) (.If t x y sp) :=
  ps_imp (ps_if hc ha hb) fun D' σ H ⟨φ, S, D, E, fr, sr, hw, l, lx⟩ => ⟨φ, S, _, _, fr, sr, hw, fun z S1 H1 ⟨kk, hz, hk⟩ e1 s1 => ⟨kk, hz, by
    cases kk with
    | true => exact ⟨φ, S1, D, E, fr.mono (e1.tk sr), s1, hk, l.after e1, lx.after e1⟩
    | false => exact ⟨φ, S1, D, E, fr.mono (e1.tk sr), s1, hk, l.after e1, lx.after e1⟩⟩, lx.toE⟩
theorem s_whl (hp : PassesOwn (model X.prog X.w) X.A X.env X.xe) {c : IE} {b : ISs} {t : Expr} {x : List Stmt} {sp : Pos} (hc : pT X W C c t) (hb : pSs X W C b x) : pS X W C (.whl c b) (.While t x [] sp) := by
  refine ps_imp (ps_while hp hc hb) fun D' σ H ⟨φ, S, D, E, fr, sr, hw, l, lx⟩ => ?_
  obtain ⟨n, hw⟩ := hw
  refine ⟨fun m σ' H' => ∃ φ' S', FR X.K X.mg H' σ' φ' ∧ SR X.K X.mg S' H' ∧ Ev S H S' H' ∧ whlW (fun φ S Q => wE C c φ S Q fun c a S' => E c a φ S') (fun D φ S => wSs C b D E φ S) D m φ' S', ⟨n, φ, S, fr, sr, Ev.refl, hw⟩, fun m σ' H' ⟨φ', S', fr', sr', ev, hl⟩ => ?_⟩
  cases m with
  | zero => exact hl.elim
  | succ m =>
    refine ⟨φ', S', _, _, fr', sr', hl, fun z S1 H1 ⟨kk, hz, hk⟩ e1 s1 => ⟨kk, hz, ?_⟩, (lx.after ev).toE⟩
    have e2 := ev.trans e1
    have f1 := fr'.mono (e1.tk sr')
    cases kk with
    | false => exact l.nx _ S1 H1 _ hk e2 s1 f1
    | true =>
      refine ⟨_, fun σ2 H2 z => ⟨m, Nat.lt_succ_self m, z⟩, φ', S1, _, E, f1, s1, hk, ⟨fun φ3 S3 H3 σ3 h3 e3 s3 f3 => ⟨φ3, S3, f3, s3, e2.trans e3, h3⟩, fun z3 S3 H3 v3 h3 e3 s3 r3 => l.rt z3 S3 H3 v3 h3 (e2.trans e3) s3 r3,
        fun φ3 S3 H3 σ3 h3 e3 s3 f3 => l.nx φ3 S3 H3 σ3 h3 (e2.trans e3) s3 f3, fun φ3 S3 H3 σ3 h3 e3 s3 f3 => ⟨φ3, S3, f3, s3, e2.trans e3, h3⟩⟩, lx.after e2⟩
theorem s_for (A : Amb s C k X) (hp : PassesOwn (model X.prog X.w) X.A X.env X.xe) {tg : List Nat} {tup : Bool} {it : II} {b : ISs} {t i : Expr} {x : List Stmt} {sp : Pos} (hg : PG X t (tG X.K X.mg tg tup)) (hi : pI X W C t it i) (hs : notSet i = true) (hb : pSs X W C b x) :
    pS X W C (.for_ tg tup it b) (.For t i x [] sp) := by
  refine ps_imp (ps_for hp A.calm hi hg hb (foldS_of hs _)) fun D' σ H ⟨φ, S, D, E, fr, sr, hw, l, lx⟩ => ?_
  have hw : wI C it φ S (fun src S1 => loopW src.ok (fun d φ S2 N => tgW tg tup d S2 φ fun φ1 => wSs C b { D with nx := N, ct := N, bk := D.nx } E φ1 S2) D.nx src.items φ S1) (fun c a S' => E c a φ S') := hw
  refine ⟨φ, S, _, _, fr, sr, hw, fun src S1 H1 J hl e1 s1 jok => ?_, lx.toE⟩
  refine ⟨fun i m σ' H' => i + m = src.items.length ∧ ∃ φ' S', FR X.K X.mg H' σ' φ' ∧ SR X.K X.mg S' H' ∧ Ev S1 H1 S' H' ∧ loopW src.ok (fun d φ S2 N => tgW tg tup d S2 φ fun φ1 => wSs C b { D with nx := N, ct := N, bk := D.nx } E φ1 S2) D.nx (src.items.drop i) φ' S',
    ⟨src.items.length, Nat.zero_add _, φ, S1, fr.mono (e1.tk sr), s1, Ev.refl, by simpa using hl⟩, fun i m σ' H' ⟨him, φ', S', fr', sr', ev, hl⟩ => ?_⟩
  have t1 := ev.tk s1
  cases m with
  | zero =>
    rw [List.drop_eq_nil_of_le (by omega)] at hl
    unfold loopW at hl
    exact .inl ⟨jok.stop i S' H' (by omega) (by omega) t1 sr' hl.1, l.nx _ S' H' _ hl.2 (e1.trans ev) sr' fr'⟩
  | succ m =>
    have hi : i < src.items.length := by omega
    rw [List.drop_eq_getElem_cons hi] at hl
    unfold loopW at hl
    refine .inr ⟨jok.go i S' H' hi t1 sr' hl.1, fun σ2 H2 => ∃ φ2 S2, FR X.K X.mg H2 σ2 φ2 ∧ SR X.K X.mg S2 H2 ∧ Ev S1 H1 S2 H2 ∧ loopW src.ok (fun d φ S2 N => tgW tg tup d S2 φ fun φ1 => wSs C b { D with nx := N, ct := N, bk := D.nx } E φ1 S2) D.nx (src.items.drop (i + 1)) φ2 S2,
      fun σ2 H2 z => ⟨m, Nat.lt_succ_self m, by omega, z⟩, fun v H2 hy => ?_⟩
    obtain ⟨e2, s2, rx⟩ := jok.yld i S' H' v H2 _ (List.getElem?_eq_getElem hi) t1 sr' hl.1 hy
    have f2 := fr'.mono (e2.tk sr')
    refine ⟨_, φ', S', _, f2, s2, rx, hl.2, fun φ3 σ3 hq f3 _ => ?_⟩
    have e3 := ev.trans e2
    refine ⟨φ3, S', _, E, f3, s2, hq, ⟨fun φ4 S4 H4 σ4 h4 e4 s4 f4 => ⟨φ4, S4, f4, s4, e3.trans e4, h4⟩, fun z4 S4 H4 v4 h4 e4 s4 r4 => l.rt z4 S4 H4 v4 h4 (e1.trans (e3.trans e4)) s4 r4,
      fun φ4 S4 H4 σ4 h4 e4 s4 f4 => l.nx φ4 S4 H4 σ4 h4 (e1.trans (e3.trans e4)) s4 f4, fun φ4 S4 H4 σ4 h4 e4 s4 f4 => ⟨φ4, S4, f4, s4, e3.trans e4, h4⟩⟩, lx.after (e1.trans e3)⟩
theorem s_rai (A : Amb s C k X) (tk : Takes X W) {c m : Str} {j : Nat} {p p2 pos sp : Pos} (hg : glB s.sc c = true) (hn : okName c = true) (he : c ∈ s.exc) : pS X W C (.rai c (.cons (.lit (.str m)) .nil)) (.Raise (some (.Call (.Name c p) [.Constant (.str m) j p2] [] pos)) none sp) := by
  obtain ⟨a, g, h1, h2, h3, h4⟩ := A.exc c he
  refine ps_imp (ps_raise A.calm tk (pmk_own PySem.F.excBase_ValueError h1 g h2 (raises_own h3 h4) (A.gl hg) (okName_ok hn).1)) fun D' σ H ⟨φ, S, D, E, fr, sr, hw, l, lx⟩ => ?_
  have hw : ∃ x, [Pi.D.str m] = [Pi.D.str x] ∧ E c (.str x) φ S := hw
  obtain ⟨x, _, hE⟩ := hw
  exact lx c _ φ S (.ref a) none σ H hE Ev.refl sr fr ⟨a, g, rfl, rfl⟩
theorem s_cons {st : IS} {r : ISs} {x : Stmt} {xs : List Stmt} (h : pS X W C st x) (hr : pSs X W C r xs) : pSs X W C (.cons st r) (x :: xs) :=
  pss_imp (pss_cons h hr) fun D' σ H ⟨φ, S, D, E, fr, sr, hw, l, lx⟩ => ⟨φ, S, _, E, fr, sr, hw, ⟨fun φ1 S1 H1 σ1 h1 e1 s1 f1 => ⟨φ1, S1, D, E, f1, s1, h1, l.after e1, lx.after e1⟩, l.rt, l.bk, l.ct⟩, lx⟩
theorem s_nil : pSs X W C .nil [] := pss_imp pss_nil fun D' σ H ⟨φ, S, D, E, fr, sr, hw, l, lx⟩ => l.nx φ S H σ hw Ev.refl sr fr
end
def SOk (C : CallT) (st : IS) : Prop := ∀ {s : SC} {k : Nat} {X : Cx} {W : WX} {x : Stmt}, Amb s C k X → Takes X W → PassesOwn (model X.prog X.w) X.A X.env X.xe → okS s st x = true → pS X W C st x
def SsOk (C : CallT) (st : ISs) : Prop := ∀ {s : SC} {k : Nat} {X : Cx} {W : WX} {x : List Stmt}, Amb s C k X → Takes X W → PassesOwn (model X.prog X.w) X.A X.env X.xe → okSs s st x = true → pSs X W C st x
section
variable {C : CallT}
theorem sok_simple (st : IS) (hn : ∀ c a b, st ≠ .iff c a b) (hw : ∀ c b, st ≠ .whl c b) (hf : ∀ tg tup it b, st ≠ .for_ tg tup it b) : SOk C st := by
  intro s k X W x A tk hp h
  unfold okS at h
  split at h
  · simp only [Bool.and_eq_true] at h
    exact s_asg A tk h.1.1 h.1.2 h.2
  · simp only [Bool.and_eq_true, decide_eq_true_eq] at h
    exact s_par A tk h.1.1.1 h.1.1.2 h.1.2 h.2
  · simp only [Bool.and_eq_true] at h
    exact s_sto A tk h.1.1.1.1 h.1.1.1.2 h.1.1.2 h.1.2 h.2
  · simp only [Bool.and_eq_true] at h
    exact s_stn A tk h.1.1.1 h.1.1.2 h.1.2 h.2
  · simp only [Bool.and_eq_true, decide_eq_true_eq] at h
    obtain ⟨⟨⟨⟨h1, h2⟩, h3⟩, h4⟩, h5⟩ := h
    subst h4
    exact s_aug A tk h1 h2 h5
  · simp only [Bool.and_eq_true, decide_eq_true_eq] at h
    obtain ⟨⟨⟨⟨h1, h2⟩, h3⟩, h4⟩, h5⟩ := h
    subst h3
    exact s_agi A tk h1 h2 h4 h5
  · simp only [Bool.and_eq_true] at h
    exact s_exp A tk h.1 h.2
  · exact absurd rfl (hn _ _ _)
  · exact absurd rfl (hw _ _)
  · exact absurd rfl (hf _ _ _ _)
  · exact s_ret A tk h
  · exact s_retN
  · exact s_brk
  · exact s_cnt
  · exact s_pas
  · simp only [Bool.and_eq_true, decide_eq_true_eq] at h
    obtain ⟨⟨⟨⟨h1, h2⟩, h3⟩, h4⟩, h5⟩ := h
    subst h1 h2
    exact s_rai A tk h3 h4 h5
  · cases h
theorem sok_iff {c : IE} {a b : ISs} (ha : SsOk C a) (hb : SsOk C b) : SOk C (.iff c a b) := by
  intro s k X W x A tk hp h
  unfold okS at h
  split at h <;> first | (cases ‹IS.iff c a b = _›; done) | (cases h; done) | skip
  cases ‹IS.iff c a b = _›
  simp only [Bool.and_eq_true] at h
  exact s_iff ((exp_ok c A tk h.1.1.1).2 h.1.1.2) (ha A tk hp h.1.2) (hb A tk hp h.2)
theorem sok_whl {c : IE} {b : ISs} (hb : SsOk C b) : SOk C (.whl c b) := by
  intro s k X W x A tk hp h
  unfold okS at h
  split at h <;> first | (cases ‹IS.whl c b = _›; done) | (cases h; done) | skip
  cases ‹IS.whl c b = _›
  simp only [Bool.and_eq_true] at h
  exact s_whl hp ((exp_ok c A tk h.1.1).2 h.1.2) (hb A tk hp h.2)
theorem sok_for {tg : List Nat} {tup : Bool} {it : II} {b : ISs} (hb : SsOk C b) : SOk C (.for_ tg tup it b) := by
  intro s k X W x A tk hp h
  unfold okS at h
  split at h <;> first | (cases ‹IS.for_ tg tup it b = _›; done) | (cases h; done) | skip
  cases ‹IS.for_ tg tup it b = _›
  simp only [Bool.and_eq_true] at h
  exact s_for A hp (pg_tg A h.1.1.1) (ite_ok it A tk h.1.1.2 (tup_of h.1.1.1)) h.1.2 (hb A tk hp h.2)
theorem ssok_nil : SsOk C .nil := by
  intro s k X W x A tk hp h
  cases x with
  | nil => exact s_nil
  | cons _ _ => cases h
theorem ssok_cons {st : IS} {r : ISs} (hs : SOk C st) (hr : SsOk C r) : SsOk C (.cons st r) := by
  intro s k X W x A tk hp h
  cases x with
  | nil => cases h
  | cons y ys =>
    have h' : (okS s st y && okSs s r ys) = true := h
    rw [Bool.and_eq_true] at h'
    exact s_cons (hs A tk hp h'.1) (hr A tk hp h'.2)
mutual
theorem stm_ok : ∀ st : IS, SOk C st
  | .iff c a b => sok_iff (stms_ok a) (stms_ok b)
  | .whl c b => sok_whl (stms_ok b)
  | .for_ tg tup it b => sok_for (stms_ok b)
  | .asg a b c => sok_simple _ (by intros; exact fun z => nomatch z) (by intros; exact fun z => nomatch z) (by intros; exact fun z => nomatch z)
  | .par a b => sok_simple _ (by intros; exact fun z => nomatch z) (by intros; exact fun z => nomatch z) (by intros; exact fun z => nomatch z)
  | .sto a b c => sok_simple _ (by intros; exact fun z => nomatch z) (by intros; exact fun z => nomatch z) (by intros; exact fun z => nomatch z)
  | .stn a b c => sok_simple _ (by intros; exact fun z => nomatch z) (by intros; exact fun z => nomatch z) (by intros; exact fun z => nomatch z)
  | .aug a b c => sok_simple _ (by intros; exact fun z => nomatch z) (by intros; exact fun z => nomatch z) (by intros; exact fun z => nomatch z)
  | .agi a b c d => sok_simple _ (by intros; exact fun z => nomatch z) (by intros; exact fun z => nomatch z) (by intros; exact fun z => nomatch z)
  | .exp a => sok_simple _ (by intros; exact fun z => nomatch z) (by intros; exact fun z => nomatch z) (by intros; exact fun z => nomatch z)
  | .ret a => sok_simple _ (by intros; exact fun z => nomatch z) (by intros; exact fun z => nomatch z) (by intros; exact fun z => nomatch z)
  | .retN => sok_simple _ (by intros; exact fun z => nomatch z) (by intros; exact fun z => nomatch z) (by intros; exact fun z => nomatch z)
  | .brk => sok_simple _ (by intros; exact fun z => nomatch z) (by intros; exact fun z => nomatch z) (by intros; exact fun z => nomatch z)
  | .cnt => sok_simple _ (by intros; exact fun z => nomatch z) (by intros; exact fun z => nomatch z) (by intros; exact fun z => nomatch z)
  | .pas => sok_simple _ (by intros; exact fun z => nomatch z) (by intros; exact fun z => nomatch z) (by intros; exact fun z => nomatch z)
  | .rai a b => sok_simple _ (by intros; exact fun z => nomatch z) (by intros; exact fun z => nomatch z) (by intros; exact fun z => nomatch z)
theorem stms_ok : ∀ st : ISs, SsOk C st
  | .nil => ssok_nil
  | .cons st r => ssok_cons (stm_ok st) (stms_ok r)
end
end
end Pi

/-! PiTop: all defs of a table keep what the terms say. -/
namespace Pi
open PySem L2 PyProof.Rows
variable [WD]
structure DefX where
  dd : He.DefD
  N : List Str
  fd : FD
/-- what a def promises: its terms' meaning -/
def spC (K : PySem.W.Frag) (mg : Str → Option Value) (C : CallT) (f : Str) (fd : FD) : Sp := fun vs H Q E => vs.length = fd.ps.length ∧ ∃ S ds q e, SR K mg S H ∧ Rps K mg H vs ds ∧ C f ds S q e ∧ Lk K mg S H q Q ∧
  ∀ c a S' cls dx H', e c a S' → Ev S H S' H' → SR K mg S' H' → RX mg c cls dx → E cls dx H'
def tabOf (ds : List DefX) : Tab := ds.map fun d => (d.dd.name, d.fd)
def scOf (s : SC) (d : DefX) : SC := { s with N := d.N, sc := d.dd.scope, fn := fun _ => true, here := if (s.lams.contains d.dd.name && decide (d.dd.qual = d.dd.name)) = true then some d.dd.name else none }
def scopeB (N ps : List Str) (sc : Scope) : Bool := (match sc.kind with | .function => true | _ => false) && !sc.isCoroutine && !sc.isGenerator && decide N.Nodup && decide (N.take ps.length = ps) &&
  (ps.all fun x => locB sc x) && sc.names.all fun y => (match y.2 with | .free => false | _ => true)
def defB (s : SC) (d : DefX) : Bool := scopeB d.N d.fd.ps d.dd.scope && decide (d.N.length = d.fd.n) && okSs (scOf s d) d.fd.body d.dd.body
theorem scopeB_ok {N ps : List Str} {sc : Scope} (h : scopeB N ps sc = true) : FnScope N ps sc := by
  unfold scopeB at h
  simp only [Bool.and_eq_true, decide_eq_true_eq, Bool.not_eq_true', List.all_eq_true] at h
  obtain ⟨⟨⟨⟨⟨⟨h1, h2⟩, h3⟩, h4⟩, h5⟩, h6⟩, h7⟩ := h
  refine ⟨?_, h2, h3, h4, h5, fun x hx => ?_, fun y hy e => ?_⟩
  · split at h1
    · assumption
    · cases h1
  · have q := h6 x hx
    unfold locB at q
    split at q
    · exact .inl (by assumption)
    · exact .inr (by assumption)
    · cases q
  · have q := h7 y hy
    rw [e] at q
    cases q
/-- what the head tells -/
structure Facts (K : PySem.W.Frag) (mg : Str → Option Value) (s : SC) (ds : List DefX) : Prop where
  tab : s.tab = tabOf ds
  free : ∀ x, s.free.contains x = true → mg x = none
  err : ErrF K mg s.cau s.hits s.kits
  code : ∀ x ∈ s.lams, ∀ fa oc od fd osl, mg x = some (.ref fa) → K.lookup fa = some ⟨oc, od, .func fd, osl⟩ → fd.code = .ref (He.cT K (x, none)).1
  con : ∀ x d, s.con.lookup x = some d → ∃ u v, mg x = some u ∧ RelV v u ∧ ∀ H, Rp K mg H v d
  exc : ∀ c, c ∈ s.exc → ∃ a, mg c = some (.ref a) ∧ PySem.W.excIn K a He.veBase "ValueError.__new__" = true ∧ PySem.W.keepIn K (.ref a) = true ∧ PySem.W.subIn K (.ref a) (.type "BaseException") = some true ∧ PySem.W.typeIn K (.ref a) = some (.type "type")
  defs : ∀ d ∈ ds, ∃ fa fdt, mg d.dd.name = some (.ref fa) ∧ FunD K d.dd.name d.dd.qual d.dd.params d.dd.body d.dd.scope [] [] fa fdt ∧ (∀ us : List Value, us.length = d.fd.ps.length → bindArgs fdt ⟨us, []⟩ = pure (d.fd.ps.zip us)) ∧
    ∀ n ks rs, (d.dd.name, n, ks, rs) ∈ s.kwp → n + rs.length = d.fd.ps.length ∧ (∀ r ∈ rs, r ∈ ks) ∧ ∀ us ws : List Value, us.length = n → ws.length = ks.length → bindArgs fdt ⟨us, ks.zip ws⟩ = pure (d.fd.ps.zip (us ++ rs.map fun r => ((ks.zip ws).lookup r).getD .none))
theorem tab_mem {ds : List DefX} {f : Str} {fd : FD} (h : (tabOf ds).lookup f = some fd) : ∃ d ∈ ds, d.dd.name = f ∧ d.fd = fd := by
  have m := PySem.mem_of_lookup h
  unfold tabOf at m
  obtain ⟨d, hd, e⟩ := List.mem_map.mp m
  cases e
  exact ⟨d, hd, rfl, rfl⟩
theorem wC_len {Φ : Tab} : ∀ {k : Nat} {f : Str} {fd : FD} {ds : List D} {S : Sto} {q : KE} {e : XE}, Φ.lookup f = some fd → wC Φ k f ds S q e → ds.length = fd.ps.length
  | 0, _, _, _, _, _, _, _, h => h.elim
  | k + 1, _, _, _, _, _, _, hl, h => by
    obtain ⟨fd', h1, h2, _⟩ := h
    rw [hl] at h1
    cases h1
    exact h2
theorem fr_start {K : PySem.W.Frag} {mg : Str → Option Value} {H : Hp} {N : List Str} {n : Nat} {vs : List V} {ds : List D} (hn : N.length = n) (r : Rps K mg H vs ds) : FR K mg H (L2.start N vs) (startF n ds) := by
  have hl := r.len
  refine ⟨?_, fun i d e => ?_⟩
  · unfold L2.start startF
    simp only [List.length_append, List.length_map, List.length_replicate, hl, hn]
  · unfold startF at e
    by_cases hi : i < ds.length
    · rw [List.getElem?_append_left (by simpa using hi), List.getElem?_map] at e
      cases q : ds[i]? with
      | none => rw [q] at e; cases e
      | some d' =>
        rw [q] at e
        have e' : d' = d := by simpa using e
        subst e'
        obtain ⟨v, hv, rv⟩ := r.get q
        refine ⟨v, ?_, rv⟩
        unfold L2.start
        rw [List.getElem?_append_left (by rw [List.length_map, hl]; exact hi), List.getElem?_map, hv]
        rfl
    · rw [List.getElem?_append_right (by simpa using hi), List.getElem?_replicate] at e
      split at e <;> cases e
theorem all_fn {P : Program} {w : World} {K : PySem.W.Frag} {mg : Str → Option Value} {base : Heap} {s : SC} {ds : List DefX} (hwd : w = WD.w) (Fa : Facts K mg s ds) (hB : ∀ d ∈ ds, defB s d = true) (TB : ∀ x ∈ s.lams, LamX.TabB base mg (He.cT K (x, none)).1 (He.cT K (x, none)).2) :
    ∀ (k : Nat) (d : DefX), d ∈ ds → s.tab.lookup d.dd.name = some d.fd → ∀ fa fdt, mg d.dd.name = some (.ref fa) → FunD K d.dd.name d.dd.qual d.dd.params d.dd.body d.dd.scope [] [] fa fdt →
      FnG P w K mg base (3 * k) fa fdt d.fd.ps (spC K mg (wC s.tab k) d.dd.name d.fd)
  | 0, d, _, _, _, _, _, _ => ⟨fun vs H Q E h => h.1, fun A outer st H args us vs Q E _ _ _ _ _ h => by
      obtain ⟨_, S, ds, q, e, _, _, hc, _⟩ := h
      exact hc.elim⟩
  | k + 1, d, hd, hl, fa, fdt, g, F => by
    have ih := all_fn (P := P) (w := w) (base := base) hwd Fa hB TB k
    have hb := hB d hd
    unfold defB at hb
    simp only [Bool.and_eq_true, decide_eq_true_eq] at hb
    obtain ⟨⟨h1, h2⟩, h3⟩ := hb
    have FS := scopeB_ok h1
    obtain ⟨oc, od, dV, kV, doc, pm, an, cdv, ct, osl, rfl, lk, hcd, _, _⟩ := F.ex
    refine fnG_of (k := 3 * k + 2) lk hcd FS (fun vs H Q E h => h.1) fun A outer st H vs Q E hr hgu hsp => ?_
    obtain ⟨hlen, S, dd, q, e, sr, rs, hc, l, lx⟩ := hsp
    obtain ⟨fd', e1, e2, hw⟩ := hc
    rw [hl] at e1
    cases e1
    have amb : Amb (scOf s d) (wC s.tab k) (3 * k) (cxOf (L2.CX P w) P w K mg base d.N d.dd.qual d.dd.scope fa cdv A outer st H E) :=
      { wd := hwd, N := rfl, nd := FS.nd, sc := rfl, kd := FS.kind, calm := rfl, gu := hgu, rm := hr.mono (by omega), rm2 := fun _ => hr, rm3 := fun _ => hr, err := Fa.err, fn := fun _ _ => rfl, free := Fa.free, con := Fa.con, exc := Fa.exc,
        lam := fun x hx => by
          have hx : (if (s.lams.contains d.dd.name && decide (d.dd.qual = d.dd.name)) = true then some d.dd.name else none) = some x := hx
          split at hx
          · rename_i hc
            have ex : d.dd.name = x := Option.some.inj hx
            subst ex
            simp only [Bool.and_eq_true, decide_eq_true_eq] at hc
            have hm : d.dd.name ∈ s.lams := by simpa using hc.1
            exact ⟨by show d.dd.qual ++ _ = _; rw [hc.2], Fa.code _ hm _ _ _ _ _ g lk, TB _ hm⟩
          · exact nomatch hx
        cl := fun f fd ds S q e hf hc => wC_len hf hc
        cal := fun f fd hf => by
          have hf' := hf
          rw [show (scOf s d).tab = s.tab from rfl, Fa.tab] at hf'
          obtain ⟨d', hd', n1, n2⟩ := tab_mem hf'
          obtain ⟨fa', fdt', g', F', b1, b2⟩ := Fa.defs d' hd'
          subst n1 n2
          exact ⟨fa', fdt', g', F'.kp, b1, ih d' hd' hf fa' fdt' g' F', b2⟩ }
    have tk : Takes (cxOf (L2.CX P w) P w K mg base d.N d.dd.qual d.dd.scope fa cdv A outer st H E) (fun cls dx _ H' => E cls dx H') := takes_of rfl rfl rfl rfl
    have hp : PassesOwn (model P w) (cxOf (L2.CX P w) P w K mg base d.N d.dd.qual d.dd.scope fa cdv A outer st H E).A (cxOf (L2.CX P w) P w K mg base d.N d.dd.qual d.dd.scope fa cdv A outer st H E).env (cxOf (L2.CX P w) P w K mg base d.N d.dd.qual d.dd.scope fa cdv A outer st H E).xe :=
      passes_of (X := cxOf (L2.CX P w) P w K mg base d.N d.dd.qual d.dd.scope fa cdv A outer st H E) rfl
    refine ⟨_, stms_ok d.fd.body amb tk hp h3, startF d.fd.n dd, S, _, _, fr_start h2 rs, sr, hw, ⟨fun φ' S' H' σ' h ev s' f => l _ S' .non H' h ev s' .non, fun z S' H' v h ev s' r => l z S' v H' h ev s' r, fun _ _ _ _ h => h.elim, fun _ _ _ _ h => h.elim⟩, fun c a φ' S' cls dx σ' H' h ev s' f r => lx c a S' cls dx H' h ev s' r⟩
end Pi

/-! PiEnd: the law's end: from the terms' answer to the row's. -/
namespace Pi
open PySem L2 PyProof.Rows
variable [WD]
/-- the heap as it is seen at the entry: nothing, or the script alone -/
def seen (K : PySem.W.Frag) (a : Addr) (ob : Obj) (xs : List V) : Hp := fun b => if b = a ∧ K.lookup a = none then some (.frz ob (.lst xs)) else none
theorem seen_some {K : PySem.W.Frag} {a b : Addr} {ob : Obj} {xs : List V} {u : HO} (h : seen K a ob xs b = some u) : b = a ∧ K.lookup a = none ∧ u = .frz ob (.lst xs) := by
  unfold seen at h
  split at h
  · rename_i z
    injection h with h
    exact ⟨z.1, z.2, h.symm⟩
  · cases h
theorem seen_none {K : PySem.W.Frag} {a b : Addr} {ob : Obj} {xs : List V} (h : ¬(b = a ∧ K.lookup a = none)) : seen K a ob xs b = none := if_neg h
theorem enter {P : Program} {w : World} {K : PySem.W.Frag} {mg mb : Str → Option Value} {k : Nat} {fa a : Addr} {fdt : FuncData} {x : Str} {st : Shared} {vs : List Value} {ns : List Int} {sp : Sp}
    (hK : K.In st.heap) (gm : st.heap.Ns mainGlobals mg) (gb : st.heap.Ns builtinsNs mb) (gbb : ∀ y : Str, y ≠ "__name__" → mb y = bootBuiltins y) (gl : st.heap.NoLimit) (gg : st.gens = #[])
    (at_ : st.heap.get? a = some { cls := .type "list", data := .seq vs.toArray }) (hi : IntsAre vs ns) (hz : ns.length ≤ sizeLine) (room : Room k callerA)
    (F : ∀ base : Heap, FnG P w K mg base k fa fdt [x] sp) (hb : ∀ u : Value, BindsTo st fdt ⟨[u], []⟩ [(x, u)])
    (hs : ∀ H : Hp, (∀ b u, H b = some u → ∃ o xs, u = .frz o (.lst xs)) → SqF K H a (ns.map V.int) → sp [.ref a] H (fun v _ => v = .bl true) fun _ _ _ => False) :
    codeAny (model P w) callerA (.call (.ref fa) ⟨[.ref a], []⟩) (fun r s' => r = .ok (.ret (.bool true)) ∧ OldK st.heap s'.heap ∧ s'.os = st.os ∧ AllBare s'.gens) st := by
  obtain ⟨ob, eob⟩ : ∃ ob : Obj, ob = { cls := .type "list", data := .seq vs.toArray } := ⟨_, rfl⟩
  rw [← eob] at at_
  have rv := L2.vals_ints hi
  obtain ⟨H, eH⟩ : ∃ H : Hp, H = seen K a ob (ns.map V.int) := ⟨_, rfl⟩
  have only : ∀ b u, H b = some u → b = a ∧ K.lookup a = none ∧ u = .frz ob (.lst (ns.map V.int)) := fun b u h => by rw [eH] at h; exact seen_some h
  have keepB : ∀ {b : Addr} {o : Obj}, st.heap.get? b = some o → b ≠ a → (hidT st.heap H).get? b = some o := fun {b o} e ne => hidT_get e (by rw [eH]; exact seen_none fun z => ne z.1)
  have nsB : ∀ {b : Addr} {m : Str → Option Value}, st.heap.Ns b m → (hidT st.heap H).Ns b m := by
    rintro b m ⟨o, es, ep, e, d, r⟩
    refine ⟨o, es, ep, keepB e fun z => ?_, d, r⟩
    subst z
    rw [at_] at e
    injection e with e
    rw [← e, eob] at d
    exact nomatch (show Data.seq vs.toArray _ = Data.dict es ep from d)
  have kB : K.In (hidT st.heap H) := fun b o e => by
    refine hidT_get (hK b o e) ?_
    rw [eH]
    refine seen_none fun z => ?_
    rw [z.1, z.2] at e
    cases e
  have hokH : HOk P w H st.heap := fun b u h => by
    obtain ⟨e1, e2, e3⟩ := only b u h
    subst e1 e3
    exact ⟨at_, by rw [List.length_map]; exact hz, vs, _, rv, by rw [at_, eob]⟩
  have md : L2.Mod K mg (hidT st.heap H) := by
    obtain ⟨ml, l1, l2⟩ := gl
    exact ⟨kB, nsB gm, ⟨mb, nsB gb, gbb⟩, ⟨ml, nsB l1, l2⟩⟩
  have e0 : Env0 P w K mg (hidT st.heap H) callerA [] st H :=
    { frames := rfl, mod := md, bs := fun b o e => of_hidT e, bsz := Nat.le_of_eq (hidT_size _ _), funs := trivial, frf := fun b hb => (nomatch hb), hok := hokH, bare := .of_eq gg }
  have sq : SqF K H a (ns.map V.int) := by
    cases q : K.lookup a with
    | none =>
      have z : H a = some (.frz ob (.lst (ns.map V.int))) := by rw [eH]; exact if_pos ⟨rfl, q⟩
      exact ⟨.inl (.inr ⟨ob, z⟩), .inl ⟨ob, z⟩⟩
    | some o =>
      have e := hK a o q
      rw [at_] at e
      injection e with e
      have al : ∀ H' : Hp, SqL K H' a (ns.map V.int) := fun H' => .inr ⟨o, vs.toArray, _, q, by rw [← e, eob], by rw [← e, eob], by rw [← e, eob], by rw [List.size_toArray, hi.length]; exact hz, by simpa using rv⟩
      exact ⟨al H, .inr al⟩
  refine codeAny_mono ((F _).run callerA [] st H ⟨[.ref a], []⟩ [.ref a] [.ref a] _ _ room rfl e0 (hb (.ref a)) (.cons rfl .nil) (hs H (fun b u h => ⟨_, _, (only b u h).2.2⟩) sq)) fun r s' hr => ?_
  cases r with
  | error e =>
    obtain ⟨_, _, _, _, _, _, _, _, _, _, _, _, no⟩ := hr
    exact no.elim
  | ok fl =>
    cases fl with
    | ret u =>
      obtain ⟨v, H', os, bare, un, hok', rvu, ev⟩ := hr
      have ev : v = .bl true := ev
      subst ev
      have eu : u = .bool true := rvu
      subst eu
      refine ⟨rfl, OldK.of_keep fun b o e => ?_, os, bare⟩
      cases q : H b with
      | none => exact un.keep b o e q (fun z => nomatch z) (fun z => nomatch z)
      | some h =>
        obtain ⟨e1, e2, e3⟩ := only b h q
        subst e1 e3
        have h1 := (hok' _ _ (un.frzs _ ob _ q)).1
        rw [at_] at e
        injection e with e
        rw [← e]
        exact h1
    | next => exact hr.elim
    | brk => exact hr.elim
    | cont => exact hr.elim
omit [WD] in
/-- a law, by its terms -/
theorem law_end {l : PySem.W.OpenLaw} {n k : Nat} {q : Program} {loose : List Str} {XP : (Str → Option Value) → Heap → Prop} {YP : World → Heap → Prop} {d : DefRec} {x : Str}
    (hn : l.most = some n) (hn2 : n ≤ sizeLine) (hdf : d.params.defaults = []) (room : Room (3 * k) callerA) (s : SC) (ds : List DefX) (dl : DefX) (hdl : dl ∈ ds) (hname : dl.dd.name = d.name) (hps : dl.fd.ps = [x]) (htab : (tabOf ds).lookup dl.dd.name = some dl.fd) (hlam : s.lams = []) (hB : ∀ d ∈ ds, defB s d = true)
    (F : ∀ (w : World) (mg : Str → Option Value) (h : Heap), YP w h → h.Ns mainGlobals mg → ∃ K : PySem.W.Frag, K.In h ∧ Facts K mg s ds)
    (pure_ : ∀ ns : List Int, ns.length ≤ n → wC (tabOf ds) k d.name [.fls (ns.map D.int)] (fun _ => none) (fun z _ => z = .bl true) XF) :
    PySem.W.WalkO q loose XP YP l.row.toRowW d [] (fun f vs => PySem.call f vs) := by
  refine Att.attach_call hn hdf fun w s₀ s₁ mg mb fa o pm cd doc a vs ns G Y ho hd hcd hmg hobj hints hlen hg => ?_
  letI : WD := ⟨w⟩
  obtain ⟨K, KX, Fa⟩ := F w mg _ Y G.T.g
  obtain ⟨fa', fdt, g, FD, b, _⟩ := Fa.defs dl hdl
  have ef : fa' = fa := by
    rw [hname, hmg] at g
    injection g with g
    injection g with g
    exact g.symm
  subst ef
  have tl : s.tab.lookup dl.dd.name = some dl.fd := by rw [Fa.tab]; exact htab
  have all := fun base : Heap => all_fn (P := l.prog) (w := w) (base := base) rfl Fa hB (by rw [hlam]; exact fun _ h => nomatch h) k dl hdl tl fa' fdt g FD
  rw [hps] at all
  refine enter KX G.T.g G.T.b G.T.builtins G.T.nolimit hg hobj hints (Nat.le_trans hlen hn2) room all (fun u => .of_eq (by rw [b [u] (by rw [hps]; rfl), hps]; rfl)) fun H hH sq => ?_
  refine ⟨by rw [hps]; rfl, fun _ => none, [.fls (ns.map D.int)], _, XF, fun a o h => (nomatch h), .cons (.fls sq ?_) .nil, by rw [Fa.tab, hname]; exact pure_ ns hlen, fun z S' v H' hz e' s' r => ?_, fun _ _ _ _ _ _ h => h.elim⟩
  · clear sq hlen hints
    induction ns with
    | nil => exact .nil
    | cons i r ih => exact .cons (.int i) ih
  · have hz : z = .bl true := hz
    subst hz
    cases r
    rfl
end Pi

/-! PiEndT: the law's end where the law itself makes lambdas: its table of code objects is told. -/
namespace Pi
open PySem L2 PyProof.Rows
variable [WD]
def seenT (K : PySem.W.Frag) (a P : Addr) (ob : Obj) (xs : List V) : Hp := fun b => if b = P then some (.tbl #[]) else seen K a ob xs b
theorem seenT_some {K : PySem.W.Frag} {a b P : Addr} {ob : Obj} {xs : List V} {u : HO} (h : seenT K a P ob xs b = some u) : (b = P ∧ u = .tbl #[]) ∨ (b ≠ P ∧ b = a ∧ K.lookup a = none ∧ u = .frz ob (.lst xs)) := by
  unfold seenT at h
  split at h
  · rename_i z
    exact .inl ⟨z, (Option.some.inj h).symm⟩
  · rename_i z
    exact .inr ⟨z, seen_some h⟩
theorem enterT {Pr : Program} {w : World} {K : PySem.W.Frag} {mg mb : Str → Option Value} {k : Nat} {fa a c P : Addr} {fdt : FuncData} {x : Str} {st : Shared} {vs : List Value} {ns : List Int} {sp : Sp}
    (hK : K.In st.heap) (gm : st.heap.Ns mainGlobals mg) (gb : st.heap.Ns builtinsNs mb) (gbb : ∀ y : Str, y ≠ "__name__" → mb y = bootBuiltins y) (gl : st.heap.NoLimit) (gg : st.gens = #[])
    (at_ : st.heap.get? a = some { cls := .type "list", data := .seq vs.toArray }) (hi : IntsAre vs ns) (hz : ns.length ≤ sizeLine) (room : Room k callerA)
    (tP : st.heap.get? P = some { cls := .none, data := .fields #[] }) (nK : K.lookup P = none) (hC : PySem.W.CodeHd st.heap c P)
    (bm : ∃ (m : Addr) (o : Obj), mg "__builtins__" = some (.ref m) ∧ m ≠ builtinsNs ∧ st.heap.get? m = some o ∧ o.cls = .type "module" ∧ o.dict = some builtinsNs ∧ o.data = .plain)
    (F : ∀ base : Heap, LamX.TabB base mg c P → FnG Pr w K mg base k fa fdt [x] sp) (hb : ∀ u : Value, BindsTo st fdt ⟨[u], []⟩ [(x, u)])
    (hs : ∀ H : Hp, H P = some (.tbl #[]) → SqF K H a (ns.map V.int) → sp [.ref a] H (fun v _ => v = .bl true) fun _ _ _ => False) :
    codeAny (model Pr w) callerA (.call (.ref fa) ⟨[.ref a], []⟩) (fun r s' => r = .ok (.ret (.bool true)) ∧ OldK st.heap s'.heap ∧ s'.os = st.os ∧ AllBare s'.gens) st := by
  obtain ⟨ob, eob⟩ : ∃ ob : Obj, ob = { cls := .type "list", data := .seq vs.toArray } := ⟨_, rfl⟩
  rw [← eob] at at_
  have aP : a ≠ P := fun z => by
    rw [z, tP, eob] at at_
    have y := congrArg Obj.data (Option.some.inj at_)
    exact nomatch (show Data.fields #[] = Data.seq vs.toArray _ from y)
  have rv := L2.vals_ints hi
  obtain ⟨H, eH⟩ : ∃ H : Hp, H = seenT K a P ob (ns.map V.int) := ⟨_, rfl⟩
  have HP : H P = some (.tbl #[]) := by rw [eH]; exact if_pos rfl
  have only : ∀ b u, H b = some u → (b = P ∧ u = .tbl #[]) ∨ (b ≠ P ∧ b = a ∧ K.lookup a = none ∧ u = .frz ob (.lst (ns.map V.int))) := fun b u h => by rw [eH] at h; exact seenT_some h
  have Hn : ∀ {b : Addr}, b ≠ P → ¬(b = a ∧ K.lookup a = none) → H b = none := fun {b} n1 n2 => by rw [eH]; exact (if_neg n1).trans (seen_none n2)
  have keepB : ∀ {b : Addr} {o : Obj}, st.heap.get? b = some o → b ≠ a → b ≠ P → (hidT st.heap H).get? b = some o := fun {b o} e n1 n2 => hidT_get e (Hn n2 fun z => n1 z.1)
  have notA : ∀ {b : Addr} {o : Obj}, st.heap.get? b = some o → (∀ q n, o.data ≠ .seq q n) → b ≠ a := fun {b o} e n z => by
    subst z
    rw [at_] at e
    injection e with e
    exact n vs.toArray _ (by rw [← e, eob])
  have notP : ∀ {b : Addr} {o : Obj}, st.heap.get? b = some o → o.data ≠ .fields #[] → b ≠ P := fun {b o} e n z => by
    subst z
    rw [tP] at e
    injection e with e
    exact n (by rw [← e])
  have nsB : ∀ {b : Addr} {m : Str → Option Value}, st.heap.Ns b m → (hidT st.heap H).Ns b m := by
    rintro b m ⟨o, es, ep, e, d, r⟩
    exact ⟨o, es, ep, keepB e (notA e fun q n z => by rw [d] at z; cases z) (notP e fun z => by rw [d] at z; cases z), d, r⟩
  have kB : K.In (hidT st.heap H) := fun b o e => hidT_get (hK b o e) (Hn (fun z => by rw [z, nK] at e; cases e) fun z => by rw [z.1, z.2] at e; cases e)
  have hokH : HOk Pr w H st.heap := fun b u h => by
    rcases only b u h with ⟨rfl, rfl⟩ | ⟨_, rfl, e2, rfl⟩
    · exact tP
    · exact ⟨at_, by rw [List.length_map]; exact hz, vs, _, rv, by rw [at_, eob]⟩
  have md : L2.Mod K mg (hidT st.heap H) := by
    obtain ⟨ml, l1, l2⟩ := gl
    exact ⟨kB, nsB gm, ⟨mb, nsB gb, gbb⟩, ⟨ml, nsB l1, l2⟩⟩
  have mgP : mainGlobals ≠ P := by
    obtain ⟨o, es, ep, e, d, _⟩ := gm
    exact notP e fun z => by rw [d] at z; cases z
  have tb : LamX.TabB (hidT st.heap H) mg c P := by
    refine ⟨?_, ?_, mgP⟩
    · obtain ⟨o, us, file, tf, flags, tg, inF, text, tt, e, c1, c2, c3, rest⟩ := hC
      refine ⟨o, us, file, tf, flags, tg, inF, text, tt, keepB e (notA e fun q n z => by rw [c2] at z; cases z) (notP e fun z => ?_), c1, c2, c3, rest⟩
      rw [c2] at z
      cases z
      simp at c3
    · obtain ⟨m, o, b1, b2, b3, b4, b5, b6⟩ := bm
      refine ⟨m, o, b1, b2, fun z => ?_, (notP b3 fun z => by rw [b6] at z; cases z), keepB b3 (notA b3 fun q n z => by rw [b6] at z; cases z) (notP b3 fun z => by rw [b6] at z; cases z), b4, b5, b6⟩
      obtain ⟨o', es, ep, e, d, _⟩ := gm
      rw [z, e] at b3
      injection b3 with b3
      rw [b3, b6] at d
      cases d
  have e0 : Env0 Pr w K mg (hidT st.heap H) callerA [] st H :=
    { frames := rfl, mod := md, bs := fun b o e => of_hidT e, bsz := Nat.le_of_eq (hidT_size _ _), funs := trivial, frf := fun b hb => (nomatch hb), hok := hokH, bare := .of_eq gg }
  have sq : SqF K H a (ns.map V.int) := by
    cases q : K.lookup a with
    | none =>
      have z : H a = some (.frz ob (.lst (ns.map V.int))) := by rw [eH]; exact (if_neg aP).trans (if_pos ⟨rfl, q⟩)
      exact ⟨.inl (.inr ⟨ob, z⟩), .inl ⟨ob, z⟩⟩
    | some o =>
      have e := hK a o q
      rw [at_] at e
      injection e with e
      have al : ∀ H' : Hp, SqL K H' a (ns.map V.int) := fun H' => .inr ⟨o, vs.toArray, _, q, by rw [← e, eob], by rw [← e, eob], by rw [← e, eob], by rw [List.size_toArray, hi.length]; exact hz, by simpa using rv⟩
      exact ⟨al H, .inr al⟩
  refine codeAny_mono ((F _ tb).run callerA [] st H ⟨[.ref a], []⟩ [.ref a] [.ref a] _ _ room rfl e0 (hb (.ref a)) (.cons rfl .nil) (hs H HP sq)) fun r s' hr => ?_
  cases r with
  | error e =>
    obtain ⟨_, _, _, _, _, _, _, _, _, _, _, _, no⟩ := hr
    exact no.elim
  | ok fl =>
    cases fl with
    | ret u =>
      obtain ⟨v, H', os, bare, un, hok', rvu, ev⟩ := hr
      have ev : v = .bl true := ev
      subst ev
      have eu : u = .bool true := rvu
      subst eu
      obtain ⟨more, tm⟩ := un.tbls P #[] HP
      have tm2 : s'.heap.get? P = some { cls := .none, data := .fields (#[] ++ more) } := hok' P _ tm
      have rest : ∀ b o, b ≠ P → st.heap.get? b = some o → s'.heap.get? b = some o := fun b o nP e => by
        cases q : H b with
        | none => exact un.keep b o e q (fun z => nomatch z) (fun z => nomatch z)
        | some h =>
          rcases only b h q with ⟨z, _⟩ | ⟨_, e1, e2, e3⟩
          · exact absurd z nP
          · subst e1 e3
            have h1 := (hok' _ _ (un.frzs _ ob _ q)).1
            rw [at_] at e
            injection e with e
            rw [← e]
            exact h1
      refine ⟨rfl, ⟨fun b o e => ?_, fun b o e => ?_⟩, os, bare⟩
      · by_cases z : b = P
        · subst z
          rw [tP] at e
          injection e with e
          subst e
          exact .inr (.inl ⟨(hC.tab tP).isCodeTable, rfl, #[], more, rfl, tm2⟩)
        · exact .inl (rest b o z e)
      · by_cases z : b = P
        · subst z
          exact ⟨_, tm2⟩
        · exact ⟨o, rest b o z e⟩
    | next => exact hr.elim
    | brk => exact hr.elim
    | cont => exact hr.elim
omit [WD] in
/-- a law that makes lambdas itself, by its terms -/
theorem law_endT {l : PySem.W.OpenLaw} {n k : Nat} {q : Program} {loose : List Str} {XP : (Str → Option Value) → Heap → Prop} {YP : World → Heap → Prop} {d : DefRec} {x : Str}
    (hn : l.most = some n) (hn2 : n ≤ sizeLine) (hdf : d.params.defaults = []) (room : Room (3 * k) callerA) (s : SC) (ds : List DefX) (dl : DefX) (hdl : dl ∈ ds) (hname : dl.dd.name = d.name) (hps : dl.fd.ps = [x]) (htab : (tabOf ds).lookup dl.dd.name = some dl.fd)
    (hlam : s.lams = [d.name]) (hB : ∀ d ∈ ds, defB s d = true)
    (F : ∀ (w : World) (mg : Str → Option Value) (h : Heap), YP w h → h.Ns mainGlobals mg → ∃ K : PySem.W.Frag, K.In h ∧ Facts K mg s ds ∧ h.get? (He.cT K (d.name, none)).2 = some { cls := .none, data := .fields #[] } ∧ K.lookup (He.cT K (d.name, none)).2 = none ∧
      PySem.W.codeHdIn K (He.cT K (d.name, none)).1 (He.cT K (d.name, none)).2 = true)
    (pure_ : ∀ (T : Nat) (ns : List Int), ns.length ≤ n → wC (tabOf ds) k d.name [.fls (ns.map D.int)] (fun b => if b = T then some (.tab d.name) else none) (fun z _ => z = .bl true) XF) :
    PySem.W.WalkO q loose XP YP l.row.toRowW d [] (fun f vs => PySem.call f vs) := by
  refine Att.attach_call hn hdf fun w s₀ s₁ mg mb fa o pm cd doc a vs ns G Y ho hd hcd hmg hobj hints hlen hg => ?_
  letI : WD := ⟨w⟩
  obtain ⟨K, KX, Fa, t1, t2, t3⟩ := F w mg _ Y G.T.g
  obtain ⟨fa', fdt, g, FD, b, _⟩ := Fa.defs dl hdl
  have ef : fa' = fa := by
    rw [hname, hmg] at g
    injection g with g
    injection g with g
    exact g.symm
  subst ef
  have tl : s.tab.lookup dl.dd.name = some dl.fd := by rw [Fa.tab]; exact htab
  have all := fun (base : Heap) (tb : LamX.TabB base mg (He.cT K (d.name, none)).1 (He.cT K (d.name, none)).2) => all_fn (P := l.prog) (w := w) (base := base) rfl Fa hB (by rw [hlam]; intro y hy; rw [List.mem_singleton.mp hy]; exact tb) k dl hdl tl fa' fdt g FD
  rw [hps] at all
  refine enterT KX G.T.g G.T.b G.T.builtins G.T.nolimit hg hobj hints (Nat.le_trans hlen hn2) room t1 t2 (PySem.W.codeHd_of_K KX t3) G.T.bmain all (fun u => .of_eq (by rw [b [u] (by rw [hps]; rfl), hps]; rfl)) fun H hH sq => ?_
  refine ⟨by rw [hps]; rfl, fun b => if b = (He.cT K (d.name, none)).2 then some (.tab d.name) else none, [.fls (ns.map D.int)], _, XF, fun a o h => ?_, .cons (.fls sq ?_) .nil, by rw [Fa.tab, hname]; exact pure_ _ ns hlen, fun z S' v H' hz e' s' r => ?_, fun _ _ _ _ _ _ h => h.elim⟩
  · dsimp only at h
    split at h
    · rename_i z
      cases h
      subst z
      exact ⟨LamX.TabS.nil hH, rfl⟩
    · cases h
  · clear sq hlen hints
    induction ns with
    | nil => exact .nil
    | cons i r ih => exact .cons (.int i) ih
  · have hz : z = .bl true := hz
    subst hz
    cases r
    rfl
end Pi

/-! PiFacts: from the head's facts to what PiTop asks. -/
namespace Pi
open PySem L2 PyProof.Rows
def isFree (x : Str) : He.Fa → Bool
  | .free y => decide (x = y)
  | _ => false
def isGlo (x : Str) : He.Fa → Bool
  | .glo y => decide (x = y)
  | _ => false
def isExc (x : Str) : He.Fa → Bool
  | .exc y => decide (x = y)
  | _ => false
def isCon (x : Str) : D → He.Fa → Bool
  | .int i, .int y j => decide (x = y) && decide (i = j)
  | .str z, .str y u => decide (x = y) && decide (z = u)
  | _, _ => false
abbrev Kws := List (Nat × List Str × List Str)
def kwpOf (l : List (Str × Kws)) : List (Str × Nat × List Str × List Str) := l.flatMap fun p => p.2.map fun q => (p.1, q.1, q.2.1, q.2.2)
/-- how a def's parameters take what a call gives -/
structure BindOk (d : DefX) (kw : Kws) : Prop where
  p : ∀ (kV doc pm : Value) (an : Option Addr) (cdv ct : Value) (us : List Value), us.length = d.fd.ps.length → bindArgs (PySem.W.fnOf d.dd.name d.dd.qual d.dd.params d.dd.body d.dd.scope .none kV doc pm an cdv ct) ⟨us, []⟩ = pure (d.fd.ps.zip us)
  k : ∀ q ∈ kw, q.1 + q.2.2.length = d.fd.ps.length ∧ (∀ r ∈ q.2.2, r ∈ q.2.1) ∧ ∀ (kV doc pm : Value) (an : Option Addr) (cdv ct : Value) (us ws : List Value), us.length = q.1 → ws.length = q.2.1.length →
    bindArgs (PySem.W.fnOf d.dd.name d.dd.qual d.dd.params d.dd.body d.dd.scope .none kV doc pm an cdv ct) ⟨us, q.2.1.zip ws⟩ = pure (d.fd.ps.zip (us ++ q.2.2.map fun r => ((q.2.1.zip ws).lookup r).getD .none))
def headB (fa : List He.Fa) (s : SC) (ds : List DefX) (kw : List Kws) : Bool :=
  (s.free.all fun x => fa.any (isFree x)) && (s.con.all fun p => fa.any (isCon p.1 p.2)) && (s.exc.all fun x => fa.any (isExc x) && fa.any (isGlo x)) &&
  (ds.all fun d => fa.any (isGlo d.dd.name) && decide (d.dd.at_ = (d.dd.name, none)) && d.dd.dfl.isEmpty && d.dd.kwd.isEmpty) && decide ((ds.map fun d => d.dd.name).Nodup)
theorem inj_of_nodup {α β : Type} {f : α → β} : ∀ {l : List α} {a b : α}, (l.map f).Nodup → a ∈ l → b ∈ l → f a = f b → a = b
  | [], _, _, _, h, _, _ => by cases h
  | x :: l, a, b, nd, ha, hb, e => by
    rw [List.map_cons, List.nodup_cons] at nd
    rcases List.mem_cons.mp ha with h1 | h1
    · rcases List.mem_cons.mp hb with h2 | h2
      · rw [h1, h2]
      · exact absurd (by rw [← h1, e]; exact List.mem_map_of_mem h2) nd.1
    · rcases List.mem_cons.mp hb with h2 | h2
      · exact absurd (by rw [← h2, ← e]; exact List.mem_map_of_mem h1) nd.1
      · exact inj_of_nodup nd.2 h1 h2 e
theorem con_of (X' : True) {K : PySem.W.Frag} {h : Heap} {mg : Str → Option Value} (X : K.In h) (G : h.Ns mainGlobals mg) {x : Str} {d : D} {f : He.Fa} (hi : isCon x d f = true) (ok : f.ok K = true) : ∃ u v, mg x = some u ∧ RelV v u ∧ ∀ H, Rp K mg H v d := by
  unfold isCon at hi
  split at hi
  · simp only [Bool.and_eq_true, decide_eq_true_eq] at hi
    obtain ⟨rfl, rfl⟩ := hi
    obtain ⟨t, e⟩ := He.int_ok X G ok
    exact ⟨_, .int _, e, ⟨t, rfl⟩, fun H => .int _⟩
  · simp only [Bool.and_eq_true, decide_eq_true_eq] at hi
    obtain ⟨rfl, rfl⟩ := hi
    obtain ⟨t, e⟩ := He.str_ok X G ok
    exact ⟨_, .str _, e, ⟨t, rfl⟩, fun H => .str _⟩
  · cases hi
theorem errF_nil {K : PySem.W.Frag} {mg : Str → Option Value} : ErrF K mg none [] [] := ⟨fun _ h => (nomatch h), fun _ h => (nomatch h), fun _ h => (nomatch h), fun _ h => (nomatch h)⟩
theorem glo_of {K : PySem.W.Frag} {h : Heap} {mg : Str → Option Value} {fa : List He.Fa} {fn : List He.DefD} (X : K.In h) (G : h.Ns mainGlobals mg) (c : He.SaysD fa fn K) {x : Str} (ha : fa.any (isGlo x) = true) : mg x = some (.ref (He.ga K x)) := by
  obtain ⟨f, hf, hp⟩ := List.any_eq_true.mp ha
  obtain ⟨i, hi⟩ := List.mem_iff_getElem?.mp hf
  unfold isGlo at hp
  split at hp
  · have e := of_decide_eq_true hp
    subst e
    exact He.glo_ok X G (c.fact i hi)
  · cases hp
def excCB (K : PySem.W.Frag) (D : Addr) : Bool :=
  He.eqO (PySem.W.findIn K (.ref D) "__getattribute__") (some (some (.builtin "BaseException.__getattribute__"))) && He.eqO (PySem.W.findIn K (.ref D) "__getattr__") (some none) && decide (PySem.W.subIn K (.ref D) (.type "BaseException") = some true) && PySem.W.hasDictIn K D &&
  He.eqO (PySem.W.findIn K (.ref D) "__class__") (some (some (.builtin "object.__class__"))) && He.eqO (PySem.W.specialIn K (.builtin "object.__class__") "__get__") (some (some (.builtin "getset_descriptor.__get__"))) &&
  decide (PySem.W.takesIn K (.builtin "object.__class__") = some true) && decide (PySem.W.mroIn K D (.type "object") = some true)
theorem excCB_ok {K : PySem.W.Frag} {D : Addr} (h : excCB K D = true) : ExcC K D := by
  unfold excCB at h
  simp only [Bool.and_eq_true, decide_eq_true_eq] at h
  obtain ⟨⟨⟨⟨⟨⟨⟨h1, h2⟩, h3⟩, h4⟩, h5⟩, h6⟩, h7⟩, h8⟩ := h
  exact ⟨He.eqO_ok h1, He.eqO_ok h2, h3, h4, He.eqO_ok h5, He.eqO_ok h6, h7, h8⟩
/-- what is asked of the classes of errors -/
def exB (hits kits : List Str) (K : PySem.W.Frag) : Bool :=
  (hits.all fun d => excCB K (He.ga K d) && decide (PySem.W.exmOne K (.ref (He.ga K d)) (.ref (He.ga K "KindError")) = some true)) &&
  kits.all fun c => decide (PySem.W.kitOne K (.type "NoneType") (.ref (He.ga K c)) = some false) && PySem.W.keepIn K (.ref (He.ga K c)) && hits.all fun d => decide (PySem.W.kitOne K (.ref (He.ga K d)) (.ref (He.ga K c)) = some (decide (d = c)))
def cauB (ar v er : Str) : List Stmt → Bool
  | [.Assign [.Name v1 _] (.Constant .none _ _) _, .Try [.Expr (.Call (.Name a1 _) [] [] _) _] [.ExceptHandler (some (.Name k1 _)) (some e1) [.Assign [.Name v2 _] (.Name e2 _) _] _] [] [] _, .Return (some (.Name v3 _)) _] =>
    decide (v1 = v) && decide (v2 = v) && decide (v3 = v) && decide (a1 = ar) && decide (e1 = er) && decide (e2 = er) && decide (k1 = ("KindError" : Str))
  | _ => false
theorem cauB_ok {ar v er : Str} {b : List Stmt} (h : cauB ar v er b = true) : ∃ (q1 q2 q3 q4 q5 q6 q7 q8 q9 q10 q11 q12 q13 q14 : Pos) (j1 : Nat), b = caughtBody ar v er "KindError" q1 q2 q3 q4 q5 q6 q7 q8 q9 q10 q11 q12 q13 q14 j1 := by
  unfold cauB at h
  split at h
  · simp only [Bool.and_eq_true, decide_eq_true_eq] at h
    obtain ⟨⟨⟨⟨⟨⟨rfl, rfl⟩, rfl⟩, rfl⟩, rfl⟩, rfl⟩, rfl⟩ := h
    exact ⟨_, _, _, _, _, _, _, _, _, _, _, _, _, _, _, rfl⟩
  · cases h
def cauSB (ar v er : Str) (sg : Scope) : Bool := decide ([ar, v, er].Nodup) && lclB sg ar && lclB sg v && lclB sg er && glB sg "KindError" && okName ar && okName v && okName er && scopeB [ar, v, er] [ar] sg
theorem lcl_ok {sg : Scope} {x : Str} (h : lclB sg x = true) : sg.names.lookup x = some .local := by
  unfold lclB at h
  split at h
  · assumption
  · cases h
theorem glb_ok {sg : Scope} {x : Str} (h : glB sg x = true) : sg.names.lookup x = some .globalImplicit := by
  unfold glB at h
  split at h
  · assumption
  · cases h
theorem err_of {K : PySem.W.Frag} {h : Heap} {mg : Str → Option Value} {fa : List He.Fa} {fn : List He.DefD} {ts : List He.Tab} {tf : List He.Defn} {w : World} {hits kits : List Str} {cd : He.DefD} {ar v er : Str} (X : K.In h) (G : h.Ns mainGlobals mg) (c : He.SaysX fa fn ts tf (exB hits kits) w h K)
    (hcd : cd ∈ fn) (hat : cd.at_ = (cd.name, none)) (hq : cd.qual = cd.name) (hd : cd.dfl.isEmpty = true) (hk : cd.kwd.isEmpty = true) (hg : (cd.name :: "KindError" :: (hits ++ kits)).all (fun x => fa.any (isGlo x)) = true)
    (hb : cauB ar v er cd.body = true) (hsc : cauSB ar v er cd.scope = true)
    (hbind : ∀ (kV doc pm : Value) (an : Option Addr) (cdv ct u : Value), bindArgs (PySem.W.fnOf cd.name cd.qual cd.params cd.body cd.scope .none kV doc pm an cdv ct) ⟨[u], []⟩ = pure [(ar, u)]) : ErrF K mg (some cd.name) hits kits := by
  letI : WD := ⟨w⟩
  have cD := c.t.d
  rw [List.all_eq_true] at hg
  have glo : ∀ x ∈ cd.name :: "KindError" :: (hits ++ kits), mg x = some (.ref (He.ga K x)) := fun x hx => glo_of X G cD (hg x hx)
  have ex := c.more
  unfold exB at ex
  simp only [Bool.and_eq_true, List.all_eq_true, decide_eq_true_eq] at ex
  obtain ⟨ex1, ex2⟩ := ex
  have gh : ∀ d ∈ hits, mg d = some (.ref (He.ga K d)) := fun d hd => glo d (by simp [hd])
  have gk : ∀ d ∈ kits, mg d = some (.ref (He.ga K d)) := fun d hd => glo d (by simp [hd])
  have gE := glo "KindError" (by simp)
  refine ⟨fun f hf => ?_, fun d hd => ⟨_, gh d hd, excCB_ok (ex1 d hd).1, fun CS e => ?_⟩, fun t ht => ⟨_, gk t ht, (ex2 t ht).1.1, fun d hd D e => ?_⟩, fun t ht T e => ?_⟩
  · cases hf
    obtain ⟨fdt, F⟩ := cD.defs hcd
    have ea : He.fAd K cd.at_ = He.ga K cd.name := by rw [hat]; rfl
    have e1 : cd.dvs K = [] := by unfold He.DefD.dvs; rw [List.isEmpty_iff.mp hd]; rfl
    have e2 : cd.kws K = [] := by unfold He.DefD.kws; rw [List.isEmpty_iff.mp hk]; rfl
    rw [ea, e1, e2] at F
    obtain ⟨oc, od, dV, kV, doc, pm, an, cdv, ct, osl, rfl, lk, hcode, hD, hK⟩ := F.ex
    have dn : dV = .none := by
      rcases hD with ⟨_, e⟩ | ⟨e, _⟩
      · exact e
      · exact absurd rfl e
    subst dn
    have bnd := hbind kV doc pm an cdv ct
    obtain ⟨q1, q2, q3, q4, q5, q6, q7, q8, q9, q10, q11, q12, q13, q14, j1, eb⟩ := cauB_ok hb
    unfold cauSB at hsc
    simp only [Bool.and_eq_true, decide_eq_true_eq] at hsc
    obtain ⟨⟨⟨⟨⟨⟨⟨⟨c1, c2⟩, c3⟩, c4⟩, c5⟩, c6⟩, c7⟩, c8⟩, c9⟩ := hsc
    rw [hq, eb] at lk bnd
    rw [hq] at hcode
    exact ⟨ar, v, er, _, _, _, _, _, _, _, _, _, _, _, _, _, _, q1, q2, q3, q4, q5, q6, q7, q8, q9, q10, q11, q12, q13, q14, j1,
      ⟨c1, lcl_ok c2, lcl_ok c3, lcl_ok c4, glb_ok c5, by decide, (okName_ok c8).1, (okName_ok c8).2.1, (okName_ok c7).1, (okName_ok c7).2.1⟩, gE, glo cd.name (by simp), F.kp, lk, hcode, bnd, scopeB_ok c9, (okName_ok c6).1, (okName_ok c6).2.1⟩
  · rw [gE] at e
    cases e
    exact (ex1 d hd).2
  · rw [gh d hd] at e
    cases e
    exact (ex2 t ht).2 d hd
  · rw [gk t ht] at e
    cases e
    exact (ex2 t ht).1.2
/-- kw: for each def, its keyword calls -/
theorem facts_of {K : PySem.W.Frag} {h : Heap} {mg : Str → Option Value} {fa : List He.Fa} {fn : List He.DefD} {s : SC} {ds : List DefX} {kw : List Kws} (X : K.In h) (G : h.Ns mainGlobals mg) (c : He.SaysD fa fn K)
    (htab : s.tab = tabOf ds) {more : List He.DefD} (hfn : fn = (ds.map fun d => d.dd) ++ more) (hkw : s.kwp = kwpOf ((ds.zip kw).map fun p => (p.1.dd.name, p.2))) (hb : headB fa s ds kw = true) (bnd : ∀ p ∈ ds.zip kw, BindOk p.1 p.2) (hlen : kw.length = ds.length) (er : ErrF K mg s.cau s.hits s.kits) (hl : (s.lams.all fun x => ds.any fun d => decide (d.dd.name = x)) = true) : Facts K mg s ds := by
  have fact : ∀ {f : He.Fa}, f ∈ fa → f.ok K = true := fun {f} hf => by
    obtain ⟨i, hi⟩ := List.mem_iff_getElem?.mp hf
    exact c.fact i hi
  have anyF : ∀ {p : He.Fa → Bool}, fa.any p = true → ∃ f, p f = true ∧ f.ok K = true := fun {p} ha => by
    obtain ⟨f, hf, hp⟩ := List.any_eq_true.mp ha
    exact ⟨f, hp, fact hf⟩
  have glo : ∀ {x : Str}, fa.any (isGlo x) = true → mg x = some (.ref (He.ga K x)) := fun {x} ha => by
    obtain ⟨f, hp, ok⟩ := anyF ha
    unfold isGlo at hp
    split at hp
    · have e := of_decide_eq_true hp
      subst e
      exact He.glo_ok X G ok
    · cases hp
  unfold headB at hb
  simp only [Bool.and_eq_true, decide_eq_true_eq, List.all_eq_true] at hb
  obtain ⟨⟨⟨⟨b1, b2⟩, b3⟩, b4⟩, b5⟩ := hb
  have inFn : ∀ d ∈ ds, d.dd ∈ fn := fun d hd => by rw [hfn]; exact List.mem_append_left _ (List.mem_map_of_mem hd)
  have code : ∀ x ∈ s.lams, ∀ f oc od fd osl, mg x = some (.ref f) → K.lookup f = some ⟨oc, od, .func fd, osl⟩ → fd.code = .ref (He.cT K (x, none)).1 := fun x hx f oc od fd osl hm lk => by
    obtain ⟨d, hd, en⟩ := List.any_eq_true.mp (List.all_eq_true.mp hl x hx)
    have en := of_decide_eq_true en
    subst en
    obtain ⟨⟨⟨g1, g2⟩, _⟩, _⟩ := b4 d hd
    obtain ⟨fdt, F⟩ := c.defs (inFn d hd)
    have ea : He.fAd K d.dd.at_ = He.ga K d.dd.name := by rw [g2]; rfl
    rw [ea] at F
    obtain ⟨oc', od', dV, kV, doc, pm, an, cdv, ct, osl', rfl, lk', hcd, _, _⟩ := F.ex
    rw [glo g1] at hm
    cases hm
    rw [lk'] at lk
    cases lk
    obtain ⟨cc, ec⟩ := He.codeIn_ref hcd
    show cdv = _
    rw [ec]
    have := He.codeOf_eq (K := K) (p := (d.dd.name, none)) (c := cc) lk' ec
    show Value.ref cc = Value.ref (He.codeOf K (d.dd.name, none))
    rw [this]
  refine ⟨htab, fun x hx => ?_, er, code, fun x d hx => ?_, fun x hx => ?_, fun d hd => ?_⟩
  · obtain ⟨f, hp, ok⟩ := anyF (b1 x (by simpa using hx))
    unfold isFree at hp
    split at hp
    · have e := of_decide_eq_true hp
      subst e
      exact He.free_ok X G ok
    · cases hp
  · obtain ⟨f, hp, ok⟩ := anyF (b2 (x, d) (PySem.mem_of_lookup hx))
    exact con_of trivial X G hp ok
  · obtain ⟨h1, h2⟩ := b3 x hx
    obtain ⟨f, hp, ok⟩ := anyF h1
    unfold isExc at hp
    split at hp
    · have e := of_decide_eq_true hp
      subst e
      obtain ⟨q1, q2, q3, q4⟩ := He.exc_ok ok
      exact ⟨_, glo h2, q1, q2, q3, q4⟩
    · cases hp
  · obtain ⟨⟨⟨g1, g2⟩, g3⟩, g4⟩ := b4 d hd
    obtain ⟨i, hi⟩ := List.mem_iff_getElem?.mp (inFn d hd)
    obtain ⟨fdt, F⟩ := c.def_ i hi
    have ea : He.fAd K d.dd.at_ = He.ga K d.dd.name := by rw [g2]; rfl
    have e1 : d.dd.dvs K = [] := by unfold He.DefD.dvs; rw [List.isEmpty_iff.mp g3]; rfl
    have e2 : d.dd.kws K = [] := by unfold He.DefD.kws; rw [List.isEmpty_iff.mp g4]; rfl
    rw [ea, e1, e2] at F
    have pick : ∀ q : Kws, (d, q) ∈ ds.zip kw → True := fun _ _ => trivial
    obtain ⟨j, hj⟩ := List.mem_iff_getElem?.mp hd
    have hjl : j < kw.length := by rw [hlen]; exact (List.getElem?_eq_some_iff.mp hj).1
    have hz : (d, kw[j]) ∈ ds.zip kw := List.mem_iff_getElem?.mpr ⟨j, by rw [List.getElem?_zip_eq_some]; exact ⟨hj, List.getElem?_eq_getElem hjl⟩⟩
    have B := bnd _ hz
    obtain ⟨oc, od, dV, kV, doc, pm, an, cdv, ct, osl, rfl, lk, hcd, hD, hK⟩ := F.ex
    have dn : dV = .none := by
      rcases hD with ⟨_, e⟩ | ⟨e, _⟩
      · exact e
      · exact absurd rfl e
    subst dn
    refine ⟨_, _, glo g1, F, B.p kV doc pm an cdv ct, fun n ks rs hm => ?_⟩
    rw [hkw] at hm
    unfold kwpOf at hm
    obtain ⟨p, hp1, hp2⟩ := List.mem_flatMap.mp hm
    obtain ⟨z, hz1, hz2⟩ := List.mem_map.mp hp1
    obtain ⟨q, hq1, hq2⟩ := List.mem_map.mp hp2
    subst hz2
    simp only [Prod.mk.injEq] at hq2
    obtain ⟨en, rfl, rfl, rfl⟩ := hq2
    have ed : z.1 = d := inj_of_nodup b5 (List.of_mem_zip hz1).1 hd en
    have Bz := bnd z hz1
    rw [ed] at Bz
    obtain ⟨q1, q2, q3⟩ := Bz.k q hq1
    exact ⟨q1, q2, q3 kV doc pm an cdv ct⟩
end Pi

/-! PiEndT2: as PiEndT, where two defs make lambdas. -/
namespace Pi
open PySem L2 PyProof.Rows
theorem says_ex {fa : List He.Fa} {fn : List He.DefD} {ts : List He.Tab} {tf : List He.Defn} {ex ex' : PySem.W.Frag → Bool} {w : World} {h : Heap} {K : PySem.W.Frag} (e : ex' K = true) (c : He.SaysX fa fn ts tf ex w h K) : He.SaysX fa fn ts tf ex' w h K := ⟨c.t, e, c.hd, c.out, c.empty⟩
variable [WD]
def seenT2 (K : PySem.W.Frag) (a P P2 : Addr) (ob : Obj) (xs : List V) : Hp := fun b => if b = P ∨ b = P2 then some (.tbl #[]) else seen K a ob xs b
theorem seenT2_some {K : PySem.W.Frag} {a b P P2 : Addr} {ob : Obj} {xs : List V} {u : HO} (h : seenT2 K a P P2 ob xs b = some u) : ((b = P ∨ b = P2) ∧ u = .tbl #[]) ∨ (¬ (b = P ∨ b = P2) ∧ b = a ∧ K.lookup a = none ∧ u = .frz ob (.lst xs)) := by
  unfold seenT2 at h
  split at h
  · rename_i z
    exact .inl ⟨z, (Option.some.inj h).symm⟩
  · rename_i z
    exact .inr ⟨z, seen_some h⟩
theorem enterT2 {Pr : Program} {w : World} {K : PySem.W.Frag} {mg mb : Str → Option Value} {k : Nat} {fa a c P c2 P2 : Addr} {fdt : FuncData} {x : Str} {st : Shared} {vs : List Value} {ns : List Int} {sp : Sp}
    (hK : K.In st.heap) (gm : st.heap.Ns mainGlobals mg) (gb : st.heap.Ns builtinsNs mb) (gbb : ∀ y : Str, y ≠ "__name__" → mb y = bootBuiltins y) (gl : st.heap.NoLimit) (gg : st.gens = #[])
    (at_ : st.heap.get? a = some { cls := .type "list", data := .seq vs.toArray }) (hi : IntsAre vs ns) (hz : ns.length ≤ sizeLine) (room : Room k callerA)
    (tP : st.heap.get? P = some { cls := .none, data := .fields #[] }) (nK : K.lookup P = none) (hC : PySem.W.CodeHd st.heap c P)
    (tP2 : st.heap.get? P2 = some { cls := .none, data := .fields #[] }) (nK2 : K.lookup P2 = none) (hC2 : PySem.W.CodeHd st.heap c2 P2)
    (bm : ∃ (m : Addr) (o : Obj), mg "__builtins__" = some (.ref m) ∧ m ≠ builtinsNs ∧ st.heap.get? m = some o ∧ o.cls = .type "module" ∧ o.dict = some builtinsNs ∧ o.data = .plain)
    (F : ∀ base : Heap, LamX.TabB base mg c P → LamX.TabB base mg c2 P2 → FnG Pr w K mg base k fa fdt [x] sp) (hb : ∀ u : Value, BindsTo st fdt ⟨[u], []⟩ [(x, u)])
    (hs : ∀ H : Hp, H P = some (.tbl #[]) → H P2 = some (.tbl #[]) → SqF K H a (ns.map V.int) → sp [.ref a] H (fun v _ => v = .bl true) fun _ _ _ => False) :
    codeAny (model Pr w) callerA (.call (.ref fa) ⟨[.ref a], []⟩) (fun r s' => r = .ok (.ret (.bool true)) ∧ OldK st.heap s'.heap ∧ s'.os = st.os ∧ AllBare s'.gens) st := by
  obtain ⟨ob, eob⟩ : ∃ ob : Obj, ob = { cls := .type "list", data := .seq vs.toArray } := ⟨_, rfl⟩
  rw [← eob] at at_
  have tab : ∀ b, b = P ∨ b = P2 → st.heap.get? b = some { cls := .none, data := .fields #[] } := fun b h => by rcases h with rfl | rfl <;> assumption
  have nKK : ∀ b, b = P ∨ b = P2 → K.lookup b = none := fun b h => by rcases h with rfl | rfl <;> assumption
  have aP : ¬ (a = P ∨ a = P2) := fun z => by
    have := tab a z
    rw [this, eob] at at_
    have y := congrArg Obj.data (Option.some.inj at_)
    exact nomatch (show Data.fields #[] = Data.seq vs.toArray _ from y)
  have rv := L2.vals_ints hi
  obtain ⟨H, eH⟩ : ∃ H : Hp, H = seenT2 K a P P2 ob (ns.map V.int) := ⟨_, rfl⟩
  have HT : ∀ b, b = P ∨ b = P2 → H b = some (.tbl #[]) := fun b h => by rw [eH]; exact if_pos h
  have only : ∀ b u, H b = some u → ((b = P ∨ b = P2) ∧ u = .tbl #[]) ∨ (¬ (b = P ∨ b = P2) ∧ b = a ∧ K.lookup a = none ∧ u = .frz ob (.lst (ns.map V.int))) := fun b u h => by rw [eH] at h; exact seenT2_some h
  have Hn : ∀ {b : Addr}, ¬ (b = P ∨ b = P2) → ¬(b = a ∧ K.lookup a = none) → H b = none := fun {b} n1 n2 => by rw [eH]; exact (if_neg n1).trans (seen_none n2)
  have keepB : ∀ {b : Addr} {o : Obj}, st.heap.get? b = some o → b ≠ a → ¬ (b = P ∨ b = P2) → (hidT st.heap H).get? b = some o := fun {b o} e n1 n2 => hidT_get e (Hn n2 fun z => n1 z.1)
  have notA : ∀ {b : Addr} {o : Obj}, st.heap.get? b = some o → (∀ q n, o.data ≠ .seq q n) → b ≠ a := fun {b o} e n z => by
    subst z
    rw [at_] at e
    injection e with e
    exact n vs.toArray _ (by rw [← e, eob])
  have notP : ∀ {b : Addr} {o : Obj}, st.heap.get? b = some o → o.data ≠ .fields #[] → ¬ (b = P ∨ b = P2) := fun {b o} e n z => by
    rw [tab b z] at e
    injection e with e
    exact n (by rw [← e])
  have nsB : ∀ {b : Addr} {m : Str → Option Value}, st.heap.Ns b m → (hidT st.heap H).Ns b m := by
    rintro b m ⟨o, es, ep, e, d, r⟩
    exact ⟨o, es, ep, keepB e (notA e fun q n z => by rw [d] at z; cases z) (notP e fun z => by rw [d] at z; cases z), d, r⟩
  have kB : K.In (hidT st.heap H) := fun b o e => hidT_get (hK b o e) (Hn (fun z => by rw [nKK b z] at e; cases e) fun z => by rw [z.1, z.2] at e; cases e)
  have hokH : HOk Pr w H st.heap := fun b u h => by
    rcases only b u h with ⟨z, rfl⟩ | ⟨_, rfl, e2, rfl⟩
    · exact tab b z
    · exact ⟨at_, by rw [List.length_map]; exact hz, vs, _, rv, by rw [at_, eob]⟩
  have md : L2.Mod K mg (hidT st.heap H) := by
    obtain ⟨ml, l1, l2⟩ := gl
    exact ⟨kB, nsB gm, ⟨mb, nsB gb, gbb⟩, ⟨ml, nsB l1, l2⟩⟩
  have mgP : ¬ (mainGlobals = P ∨ mainGlobals = P2) := by
    obtain ⟨o, es, ep, e, d, _⟩ := gm
    exact notP e fun z => by rw [d] at z; cases z
  have tb : ∀ c' P', P' = P ∨ P' = P2 → PySem.W.CodeHd st.heap c' P' → LamX.TabB (hidT st.heap H) mg c' P' := fun c' P' hp hC => by
    refine ⟨?_, ?_, fun e => mgP (by rw [e]; exact hp)⟩
    · obtain ⟨o, us, file, tf, flags, tg, inF, text, tt, e, c1, c2, c3, rest⟩ := hC
      refine ⟨o, us, file, tf, flags, tg, inF, text, tt, keepB e (notA e fun q n z => by rw [c2] at z; cases z) (notP e fun z => ?_), c1, c2, c3, rest⟩
      rw [c2] at z
      cases z
      simp at c3
    · obtain ⟨m, o, b1, b2, b3, b4, b5, b6⟩ := bm
      refine ⟨m, o, b1, b2, fun z => ?_, fun z => (notP b3 fun z => by rw [b6] at z; cases z) (by rw [z]; exact hp), keepB b3 (notA b3 fun q n z => by rw [b6] at z; cases z) (notP b3 fun z => by rw [b6] at z; cases z), b4, b5, b6⟩
      obtain ⟨o', es, ep, e, d, _⟩ := gm
      rw [z, e] at b3
      injection b3 with b3
      rw [b3, b6] at d
      cases d
  have e0 : Env0 Pr w K mg (hidT st.heap H) callerA [] st H :=
    { frames := rfl, mod := md, bs := fun b o e => of_hidT e, bsz := Nat.le_of_eq (hidT_size _ _), funs := trivial, frf := fun b hb => (nomatch hb), hok := hokH, bare := .of_eq gg }
  have sq : SqF K H a (ns.map V.int) := by
    cases q : K.lookup a with
    | none =>
      have z : H a = some (.frz ob (.lst (ns.map V.int))) := by rw [eH]; exact (if_neg aP).trans (if_pos ⟨rfl, q⟩)
      exact ⟨.inl (.inr ⟨ob, z⟩), .inl ⟨ob, z⟩⟩
    | some o =>
      have e := hK a o q
      rw [at_] at e
      injection e with e
      have al : ∀ H' : Hp, SqL K H' a (ns.map V.int) := fun H' => .inr ⟨o, vs.toArray, _, q, by rw [← e, eob], by rw [← e, eob], by rw [← e, eob], by rw [List.size_toArray, hi.length]; exact hz, by simpa using rv⟩
      exact ⟨al H, .inr al⟩
  refine codeAny_mono ((F _ (tb c P (.inl rfl) hC) (tb c2 P2 (.inr rfl) hC2)).run callerA [] st H ⟨[.ref a], []⟩ [.ref a] [.ref a] _ _ room rfl e0 (hb (.ref a)) (.cons rfl .nil) (hs H (HT P (.inl rfl)) (HT P2 (.inr rfl)) sq)) fun r s' hr => ?_
  cases r with
  | error e =>
    obtain ⟨_, _, _, _, _, _, _, _, _, _, _, _, no⟩ := hr
    exact no.elim
  | ok fl =>
    cases fl with
    | ret u =>
      obtain ⟨v, H', os, bare, un, hok', rvu, ev⟩ := hr
      have ev : v = .bl true := ev
      subst ev
      have eu : u = .bool true := rvu
      subst eu
      have tm2 : ∀ b, b = P ∨ b = P2 → ∃ more, s'.heap.get? b = some { cls := .none, data := .fields (#[] ++ more) } := fun b hb => by
        obtain ⟨more, tm⟩ := un.tbls b #[] (HT b hb)
        exact ⟨more, hok' b _ tm⟩
      have rest : ∀ b o, ¬ (b = P ∨ b = P2) → st.heap.get? b = some o → s'.heap.get? b = some o := fun b o nP e => by
        cases q : H b with
        | none => exact un.keep b o e q (fun z => nomatch z) (fun z => nomatch z)
        | some h =>
          rcases only b h q with ⟨z, _⟩ | ⟨_, e1, e2, e3⟩
          · exact absurd z nP
          · subst e1 e3
            have h1 := (hok' _ _ (un.frzs _ ob _ q)).1
            rw [at_] at e
            injection e with e
            rw [← e]
            exact h1
      refine ⟨rfl, ⟨fun b o e => ?_, fun b o e => ?_⟩, os, bare⟩
      · by_cases z : b = P ∨ b = P2
        · rw [tab b z] at e
          injection e with e
          subst e
          obtain ⟨more, hm⟩ := tm2 b z
          rcases z with rfl | rfl
          · exact .inr (.inl ⟨(hC.tab tP).isCodeTable, rfl, #[], more, rfl, hm⟩)
          · exact .inr (.inl ⟨(hC2.tab tP2).isCodeTable, rfl, #[], more, rfl, hm⟩)
        · exact .inl (rest b o z e)
      · by_cases z : b = P ∨ b = P2
        · obtain ⟨more, hm⟩ := tm2 b z
          exact ⟨_, hm⟩
        · exact ⟨o, rest b o z e⟩
    | next => exact hr.elim
    | brk => exact hr.elim
    | cont => exact hr.elim
omit [WD] in
/-- a law that makes lambdas itself, by its terms -/
theorem law_endT2 {l : PySem.W.OpenLaw} {n k : Nat} {q : Program} {loose : List Str} {XP : (Str → Option Value) → Heap → Prop} {YP : World → Heap → Prop} {d : DefRec} {x y : Str}
    (hn : l.most = some n) (hn2 : n ≤ sizeLine) (hdf : d.params.defaults = []) (room : Room (3 * k) callerA) (s : SC) (ds : List DefX) (dl : DefX) (hdl : dl ∈ ds) (hname : dl.dd.name = d.name) (hps : dl.fd.ps = [x]) (htab : (tabOf ds).lookup dl.dd.name = some dl.fd)
    (hlam : s.lams = [d.name, y]) (hdy : d.name ≠ y) (hB : ∀ d ∈ ds, defB s d = true)
    (F : ∀ (w : World) (mg : Str → Option Value) (h : Heap), YP w h → h.Ns mainGlobals mg → ∃ K : PySem.W.Frag, K.In h ∧ Facts K mg s ds ∧ h.get? (He.cT K (d.name, none)).2 = some { cls := .none, data := .fields #[] } ∧ K.lookup (He.cT K (d.name, none)).2 = none ∧
      PySem.W.codeHdIn K (He.cT K (d.name, none)).1 (He.cT K (d.name, none)).2 = true ∧ h.get? (He.cT K (y, none)).2 = some { cls := .none, data := .fields #[] } ∧ K.lookup (He.cT K (y, none)).2 = none ∧
      PySem.W.codeHdIn K (He.cT K (y, none)).1 (He.cT K (y, none)).2 = true ∧ (He.cT K (d.name, none)).2 ≠ (He.cT K (y, none)).2)
    (pure_ : ∀ (T T2 : Nat) (ns : List Int), T ≠ T2 → ns.length ≤ n → wC (tabOf ds) k d.name [.fls (ns.map D.int)] (fun b => if b = T then some (.tab d.name) else if b = T2 then some (.tab y) else none) (fun z _ => z = .bl true) XF) :
    PySem.W.WalkO q loose XP YP l.row.toRowW d [] (fun f vs => PySem.call f vs) := by
  refine Att.attach_call hn hdf fun w s₀ s₁ mg mb fa o pm cd doc a vs ns G Y ho hd hcd hmg hobj hints hlen hg => ?_
  letI : WD := ⟨w⟩
  obtain ⟨K, KX, Fa, t1, t2, t3, q1, q2, q3, ne⟩ := F w mg _ Y G.T.g
  obtain ⟨fa', fdt, g, FD, b, _⟩ := Fa.defs dl hdl
  have ef : fa' = fa := by
    rw [hname, hmg] at g
    injection g with g
    injection g with g
    exact g.symm
  subst ef
  have tl : s.tab.lookup dl.dd.name = some dl.fd := by rw [Fa.tab]; exact htab
  have all := fun (base : Heap) (tb : LamX.TabB base mg (He.cT K (d.name, none)).1 (He.cT K (d.name, none)).2) (tb2 : LamX.TabB base mg (He.cT K (y, none)).1 (He.cT K (y, none)).2) => all_fn (P := l.prog) (w := w) (base := base) rfl Fa hB (by
    rw [hlam]
    intro z hz
    rcases List.mem_cons.mp hz with rfl | hz
    · exact tb
    · rw [List.mem_singleton.mp hz]; exact tb2) k dl hdl tl fa' fdt g FD
  rw [hps] at all
  refine enterT2 KX G.T.g G.T.b G.T.builtins G.T.nolimit hg hobj hints (Nat.le_trans hlen hn2) room t1 t2 (PySem.W.codeHd_of_K KX t3) q1 q2 (PySem.W.codeHd_of_K KX q3) G.T.bmain all (fun u => .of_eq (by rw [b [u] (by rw [hps]; rfl), hps]; rfl)) fun H hH hH2 sq => ?_
  refine ⟨by rw [hps]; rfl, fun b => if b = (He.cT K (d.name, none)).2 then some (.tab d.name) else if b = (He.cT K (y, none)).2 then some (.tab y) else none, [.fls (ns.map D.int)], _, XF, fun a o h => ?_, .cons (.fls sq ?_) .nil, by rw [Fa.tab, hname]; exact pure_ _ _ ns ne hlen, fun z S' v H' hz e' s' r => ?_, fun _ _ _ _ _ _ h => h.elim⟩
  · dsimp only at h
    split at h
    · rename_i z
      cases h
      subst z
      exact ⟨LamX.TabS.nil hH, rfl⟩
    · split at h
      · rename_i z
        cases h
        subst z
        exact ⟨LamX.TabS.nil hH2, rfl⟩
      · cases h
  · clear sq hlen hints
    induction ns with
    | nil => exact .nil
    | cons i r ih => exact .cons (.int i) ih
  · have hz : z = .bl true := hz
    subst hz
    cases r
    rfl
end Pi

/-! PiSimp: what the terms ask, case by case, for rewriting. -/
namespace Pi
open PySem
section
variable {S : Sto} {Q : KE} {q : Bool → Prop} {i j : Int} {x y : Str} {a b : Nat} {xs ys : List D} {c d : Bool} {v w : D}
theorem x_add : bopW .add (.int i) (.int j) S Q = Q (.int (i + j)) S := rfl
theorem x_adds : bopW .add (.str x) (.str y) S Q = (x.length + y.length ≤ sizeLine ∧ Q (.str (x ++ y)) S) := rfl
theorem x_addl : bopW .add (.ref a) (.ref b) S Q = (∃ xs, S a = some (.lst xs) ∧ ∃ ys, S b = some (.lst ys) ∧ xs.length + ys.length ≤ sizeLine ∧ ∀ p, S p = none → Q (.ref p) (put S p (.lst (xs ++ ys)))) := by
  apply propext
  exact ⟨fun ⟨xs, ys, h1, h2, h3⟩ => ⟨xs, h1, ys, h2, h3⟩, fun ⟨xs, h1, ys, h2, h3⟩ => ⟨xs, ys, h1, h2, h3⟩⟩
theorem x_addt : bopW .add (.tup xs) (.tup ys) S Q = (xs.length + ys.length ≤ sizeLine ∧ Q (.tup (xs ++ ys)) S) := rfl
theorem x_sub : bopW .sub (.int i) (.int j) S Q = Q (.int (i - j)) S := rfl
theorem x_mul : bopW .mul (.int i) (.int j) S Q = ((SmallI i ∨ SmallI j ∨ L2.CMulW i j) ∧ Q (.int (i * j)) S) := rfl
theorem x_mult : bopW .mul (.tup xs) (.int i) S Q = (-(2 ^ 63) ≤ i ∧ i ≤ 1000 ∧ xs.length ≤ 1000 ∧ Q (.tup (rep i.toNat xs)) S) := rfl
theorem x_mull : bopW .mul (.ref a) (.int i) S Q = (∃ xs, S a = some (.lst xs) ∧ -(2 ^ 63) ≤ i ∧ i < 2 ^ 63 ∧ xs.length * i.toNat ≤ sizeLine ∧ ∀ p, S p = none → Q (.ref p) (put S p (.lst (rep i.toNat xs)))) := rfl
theorem x_muls : bopW .mul (.str x) (.int i) S Q = (1 ≤ i ∧ i ≤ 1000 ∧ 1 ≤ x.length ∧ x.length ≤ 1000 ∧ Q (.str (mulS i.toNat x)) S) := rfl
theorem x_fdv : bopW .fdv (.int i) (.int j) S Q = ((0 < j ∧ (j < 1073741824 ∨ j.natAbs.log2 < 9000)) ∧ Q (.int (i / j)) S) := rfl
theorem x_mod : bopW .mod (.int i) (.int j) S Q = (0 < j ∧ Q (.int (i % j)) S) := rfl
theorem x_pow : bopW .pow (.int i) (.int j) S Q = ((0 ≤ j ∧ j ≤ 1000000 ∧ i.natAbs < 2 ^ 64) ∧ Q (.int (i ^ j.toNat)) S) := rfl
theorem x_auga {r : D → Prop} : augW .add (.int i) (.int j) r = r (.int (i + j)) := rfl
theorem x_augs {r : D → Prop} : augW .sub (.int i) (.int j) r = r (.int (i - j)) := rfl
theorem x_augm {r : D → Prop} : augW .mul (.int i) (.int j) r = ((SmallI i ∨ SmallI j ∨ L2.CMulW i j) ∧ r (.int (i * j))) := rfl
theorem x_eqi : copW .eq (.int i) (.int j) S q = q (decide (i = j)) := rfl
theorem x_eqs : copW .eq (.str x) (.str y) S q = q (decide (x = y)) := rfl
theorem x_eqb : copW .eq (.bl c) (.bl d) S q = q (decide (c = d)) := rfl
theorem x_nei : copW .ne (.int i) (.int j) S q = q (!decide (i = j)) := rfl
theorem x_nes : copW .ne (.str x) (.str y) S q = q (!decide (x = y)) := rfl
theorem x_neb : copW .ne (.bl c) (.bl d) S q = q (!decide (c = d)) := rfl
def eqD (x y : D) (S : Sto) (q : Bool → Prop) : Prop := ∃ d e, PyOf S x d ∧ PyOf S y e ∧ SeqAt.shaped d = true ∧ SeqAt.shaped e = true ∧ q (PyData.eqv d e)
theorem x_eqtt : copW .eq (.tup xs) (.tup ys) S q = eqD (.tup xs) (.tup ys) S q := rfl
theorem x_eqrr : copW .eq (.ref a) (.ref b) S q = eqD (.ref a) (.ref b) S q := rfl
theorem x_eqtr : copW .eq (.tup xs) (.ref b) S q = eqD (.tup xs) (.ref b) S q := rfl
theorem x_eqrt : copW .eq (.ref a) (.tup ys) S q = eqD (.ref a) (.tup ys) S q := rfl
theorem x_eqst : copW .eq (.str x) (.tup ys) S q = eqD (.str x) (.tup ys) S q := rfl
theorem x_eqts : copW .eq (.tup xs) (.str y) S q = eqD (.tup xs) (.str y) S q := rfl
theorem x_nett : copW .ne (.tup xs) (.tup ys) S q = eqD (.tup xs) (.tup ys) S (fun b => q (!b)) := rfl
theorem x_nerr : copW .ne (.ref a) (.ref b) S q = eqD (.ref a) (.ref b) S (fun b => q (!b)) := rfl
theorem x_netr : copW .ne (.tup xs) (.ref b) S q = eqD (.tup xs) (.ref b) S (fun b => q (!b)) := rfl
theorem x_nert : copW .ne (.ref a) (.tup ys) S q = eqD (.ref a) (.tup ys) S (fun b => q (!b)) := rfl
theorem x_nest : copW .ne (.str x) (.tup ys) S q = eqD (.str x) (.tup ys) S (fun b => q (!b)) := rfl
theorem x_nets : copW .ne (.tup xs) (.str y) S q = eqD (.tup xs) (.str y) S (fun b => q (!b)) := rfl
theorem x_lt : copW .lt (.int i) (.int j) S q = q (decide (i < j)) := rfl
theorem x_lttt : copW .lt (.tup xs) (.tup ys) S q = ∃ d e, PyOf S (.tup xs) d ∧ PyOf S (.tup ys) e ∧ PySem.W.alike d e = true ∧ d ≠ .none ∧ min d.depth e.depth ≤ 64 ∧ q (PySem.W.dataLt d e) := rfl
theorem x_le : copW .le (.int i) (.int j) S q = q (decide (i ≤ j)) := rfl
theorem x_gt : copW .gt (.int i) (.int j) S q = q (decide (j < i)) := rfl
theorem x_ge : copW .ge (.int i) (.int j) S q = q (decide (j ≤ i)) := rfl
theorem x_ins : copW .isin (.str x) (.str y) S q = ∃ n : Nat, x = ⟨#[n]⟩ ∧ q (decide (n ∈ y.cps.toList)) := rfl
theorem x_itup : copW .isin v (.tup ys) S q = ∃ d ds, PyOf S v d ∧ PyOfs S ys ds ∧ SeqAt.shaped d = true ∧ SeqAt.shaped (.tuple ds) = true ∧ q (ds.any fun z => PyData.eqv z d) := by cases v <;> rfl
theorem x_nitup : copW .notin v (.tup ys) S q = ∃ d ds, PyOf S v d ∧ PyOfs S ys ds ∧ SeqAt.shaped d = true ∧ SeqAt.shaped (.tuple ds) = true ∧ q (!(ds.any fun z => PyData.eqv z d)) := by cases v <;> rfl
theorem x_isn : copW .is_ v .non S q = q (isNon v) := rfl
theorem x_isnt : copW .isnt v .non S q = q (!isNon v) := rfl
theorem x_ixt : idxW (.tup xs) (.int i) S Q = ∃ v, L2.atI xs i = some v ∧ Q v S := rfl
theorem x_ixl : idxW (.ref a) (.int i) S Q = ∃ xs, S a = some (.lst xs) ∧ ∃ v, L2.atI xs i = some v ∧ Q v S := by
  apply propext
  exact ⟨fun ⟨xs, v, h1, h2, h3⟩ => ⟨xs, h1, v, h2, h3⟩, fun ⟨xs, h1, v, h2, h3⟩ => ⟨xs, v, h1, h2, h3⟩⟩
theorem x_ixd : idxW (.ref a) (.str x) S Q = ∃ kvs, S a = some (.dct kvs) ∧ ∃ v, getK kvs x = some v ∧ Q v S := by
  apply propext
  exact ⟨fun ⟨xs, v, h1, h2, h3⟩ => ⟨xs, h1, v, h2, h3⟩, fun ⟨xs, h1, v, h2, h3⟩ => ⟨xs, v, h1, h2, h3⟩⟩
theorem x_ixs : idxW (.str x) (.int i) S Q = (x.length ≤ sizeLine ∧ ∃ c, L2.atI x.cps.toList i = some c ∧ Q (.str ⟨#[c]⟩) S) := rfl
variable {lo hi : Option Int}
theorem x_slt : slcW (.tup xs) lo hi S Q = Q (.tup (cutD xs lo hi)) S := rfl
theorem x_sll : slcW (.ref a) lo hi S Q = ∃ xs, S a = some (.lst xs) ∧ ∀ p, S p = none → Q (.ref p) (put S p (.lst (cutD xs lo hi))) := rfl
theorem x_sls : slcW (.str x) lo hi S Q = (x.length ≤ sizeLine ∧ Q (.str (L2.cutS x lo hi)) S) := rfl
variable {r : Sto → Prop}
theorem x_std : stoW (.ref a) (.str x) v S r = ∃ kvs, S a = some (.dct kvs) ∧ kvs.length < 1000 ∧ r (put S a (.dct (setK kvs x v))) := rfl
theorem x_stl : stoW (.ref a) (.int i) v S r = ∃ xs, S a = some (.lst xs) ∧ ∃ j, L2.ixN xs.length i = some j ∧ r (put S a (.lst (xs.set j v))) := by
  apply propext
  exact ⟨fun ⟨xs, v, h1, h2, h3⟩ => ⟨xs, h1, v, h2, h3⟩, fun ⟨xs, h1, v, h2, h3⟩ => ⟨xs, v, h1, h2, h3⟩⟩
variable {ts : List Ty}
theorem x_isin : isiW .non ts S q = q false := rfl
theorem x_isis : isiW (.str x) ts S q = q (ts.any (isTy .str)) := by
  apply propext
  exact ⟨fun ⟨t, h, h2⟩ => by cases h; exact h2, fun h => ⟨_, rfl, h⟩⟩
theorem x_isit : isiW (.tup xs) ts S q = q (ts.any (isTy .tuple)) := by
  apply propext
  exact ⟨fun ⟨t, h, h2⟩ => by cases h; exact h2, fun h => ⟨_, rfl, h⟩⟩
theorem x_isii : isiW (.int i) ts S q = q (ts.any (isTy .int)) := by
  apply propext
  exact ⟨fun ⟨t, h, h2⟩ => by cases h; exact h2, fun h => ⟨_, rfl, h⟩⟩
theorem x_isib : isiW (.bl c) ts S q = q (ts.any (isTy .bool)) := by
  apply propext
  exact ⟨fun ⟨t, h, h2⟩ => by cases h; exact h2, fun h => ⟨_, rfl, h⟩⟩
theorem x_isir (h : S a = some (.lst xs)) : isiW (.ref a) ts S q = q (ts.any (isTy .list)) := by
  have e : tyOf S (.ref a) = some .list := by show (match S a with | some (.lst _) => some Ty.list | some (.dct _) => some .dict | _ => none) = _; rw [h]
  apply propext
  exact ⟨fun ⟨t, h1, h2⟩ => by rw [e] at h1; cases h1; exact h2, fun h => ⟨_, e, h⟩⟩
theorem x_lens : biW .len [.str x] S Q = (x.length ≤ sizeLine ∧ Q (.int x.length) S) := rfl
theorem x_lent : biW .len [.tup xs] S Q = Q (.int xs.length) S := rfl
theorem x_lenf : biW .len [.fls xs] S Q = Q (.int xs.length) S := rfl
theorem x_lenl : biW .len [.ref a] S Q = ∃ xs, S a = some (.lst xs) ∧ Q (.int xs.length) S := rfl
theorem x_inti : biW .int [.int i] S Q = Q (.int i) S := rfl
theorem x_intb : biW .int [.bl c] S Q = Q (.int (if c then 1 else 0)) S := rfl
theorem x_abs : biW .abs [.int i] S Q = Q (.int (if i < 0 then -i else i)) S := rfl
theorem x_max2 : biW .max [.int i, .int j] S Q = Q (.int (if j > i then j else i)) S := rfl
theorem x_min2 : biW .min [.int i, .int j] S Q = Q (.int (if j < i then j else i)) S := rfl
theorem x_maxl : biW .max [.ref a] S Q = ∃ xs, S a = some (.lst xs) ∧ ∃ ns, intsB xs = some ns ∧ 0 < ns.length ∧ ∀ m, m ∈ ns → (∀ y, y ∈ ns → y ≤ m) → Q (.int m) S := by
  apply propext
  exact ⟨fun ⟨xs, v, h1, h2, h3⟩ => ⟨xs, h1, v, h2, h3⟩, fun ⟨xs, h1, v, h2, h3⟩ => ⟨xs, v, h1, h2, h3⟩⟩
theorem x_minl : biW .min [.ref a] S Q = ∃ xs, S a = some (.lst xs) ∧ ∃ ns, intsB xs = some ns ∧ 0 < ns.length ∧ ∀ m, m ∈ ns → (∀ y, y ∈ ns → m ≤ y) → Q (.int m) S := by
  apply propext
  exact ⟨fun ⟨xs, v, h1, h2, h3⟩ => ⟨xs, h1, v, h2, h3⟩, fun ⟨xs, h1, v, h2, h3⟩ => ⟨xs, v, h1, h2, h3⟩⟩
theorem x_mxd : mxdW (.ref a) v S Q = ∃ xs, S a = some (.lst xs) ∧ ∃ ns, intsB xs = some ns ∧ (ns = [] → Q v S) ∧ (ns ≠ [] → ∀ m, m ∈ ns → (∀ y, y ∈ ns → y ≤ m) → Q (.int m) S) := by
  apply propext
  exact ⟨fun ⟨xs, v, h1, h2, h3⟩ => ⟨xs, h1, v, h2, h3⟩, fun ⟨xs, h1, v, h2, h3⟩ => ⟨xs, v, h1, h2, h3⟩⟩
theorem x_tupl : biW .tuple [.ref a] S Q = ∃ xs, S a = some (.lst xs) ∧ Q (.tup xs) S := rfl
theorem x_tupt : biW .tuple [.tup xs] S Q = Q (.tup xs) S := rfl
theorem x_lisl : biW .list [.ref a] S Q = ∃ xs, S a = some (.lst xs) ∧ ∀ p, S p = none → Q (.ref p) (put S p (.lst xs)) := rfl
theorem x_list : biW .list [.tup xs] S Q = ∀ p, S p = none → Q (.ref p) (put S p (.lst xs)) := rfl
theorem x_liss : biW .list [.str x] S Q = (x.length ≤ 1000 ∧ ∀ p, S p = none → Q (.ref p) (put S p (.lst (x.cps.toList.map fun c => .str ⟨#[c]⟩)))) := rfl
theorem x_all : biW .all [.ref a] S Q = ∃ xs, S a = some (.lst xs) ∧ ∃ b, allB xs = some b ∧ Q (.bl b) S := by
  apply propext
  exact ⟨fun ⟨xs, v, h1, h2, h3⟩ => ⟨xs, h1, v, h2, h3⟩, fun ⟨xs, h1, v, h2, h3⟩ => ⟨xs, v, h1, h2, h3⟩⟩
theorem x_any : biW .any [.ref a] S Q = ∃ xs, S a = some (.lst xs) ∧ ∃ b, anyB xs = some b ∧ Q (.bl b) S := by
  apply propext
  exact ⟨fun ⟨xs, v, h1, h2, h3⟩ => ⟨xs, h1, v, h2, h3⟩, fun ⟨xs, h1, v, h2, h3⟩ => ⟨xs, v, h1, h2, h3⟩⟩
theorem x_sum : biW .sum [.ref a] S Q = ∃ xs, S a = some (.lst xs) ∧ ∃ ns, intsB xs = some ns ∧ Q (.int ns.sum) S := by
  apply propext
  exact ⟨fun ⟨xs, v, h1, h2, h3⟩ => ⟨xs, h1, v, h2, h3⟩, fun ⟨xs, h1, v, h2, h3⟩ => ⟨xs, v, h1, h2, h3⟩⟩
theorem x_repr : biW .repr [v] S Q = ∃ d, PyOf S v d ∧ d.showable = true ∧ d.hasDict = false ∧ d.depth ≤ 64 ∧ d.shown.length ≤ sizeLine ∧ Q (.str d.shown) S := rfl
theorem x_app : mtW .append (.ref a) [v] S Q = ∃ xs, S a = some (.lst xs) ∧ xs.length < sizeLine ∧ Q .non (put S a (.lst (xs ++ [v]))) := rfl
theorem x_ext : mtW .extend (.ref a) [.ref b] S Q = ∃ xs, S a = some (.lst xs) ∧ ∃ ys, S b = some (.lst ys) ∧ xs.length + ys.length ≤ sizeLine ∧ Q .non (put S a (.lst (xs ++ ys))) := by
  apply propext
  exact ⟨fun ⟨xs, v, h1, h2, h3⟩ => ⟨xs, h1, v, h2, h3⟩, fun ⟨xs, h1, v, h2, h3⟩ => ⟨xs, v, h1, h2, h3⟩⟩
theorem x_pop : mtW .pop (.ref a) [] S Q = ∃ xs, S a = some (.lst xs) ∧ ∃ v, xs[xs.length - 1]? = some v ∧ Q v (put S a (.lst xs.dropLast)) := by
  apply propext
  exact ⟨fun ⟨xs, v, h1, h2, h3⟩ => ⟨xs, h1, v, h2, h3⟩, fun ⟨xs, h1, v, h2, h3⟩ => ⟨xs, v, h1, h2, h3⟩⟩
theorem x_popa : mtW .popAt (.ref a) [.int i] S Q = ∃ xs, S a = some (.lst xs) ∧ ∃ k v, -(2 ^ 63) ≤ i ∧ i < 2 ^ 63 ∧ seqIndex? i xs.length = some k ∧ xs[k]? = some v ∧ Q v (put S a (.lst (xs.eraseIdx k))) := by
  apply propext
  exact ⟨fun ⟨xs, k, v, h1, h2⟩ => ⟨xs, h1, k, v, h2⟩, fun ⟨xs, h1, k, v, h2⟩ => ⟨xs, k, v, h1, h2⟩⟩
theorem x_join : mtW .join (.str x) [.ref a] S Q = ∃ xs, S a = some (.lst xs) ∧ ∃ ys, textsB xs = some ys ∧ (ys.map Str.length).sum + x.length * ys.length ≤ 16777216 ∧ Q (.str (Txt.join x ys)) S := by
  apply propext
  exact ⟨fun ⟨xs, v, h1, h2, h3⟩ => ⟨xs, h1, v, h2, h3⟩, fun ⟨xs, h1, v, h2, h3⟩ => ⟨xs, v, h1, h2, h3⟩⟩
theorem x_rcva : rcvW .append (.ref a) S = ∃ xs, S a = some (.lst xs) := rfl
theorem x_rcve : rcvW .extend (.ref a) S = ∃ xs, S a = some (.lst xs) := rfl
theorem x_rcvp : rcvW .pop (.ref a) S = ∃ xs, S a = some (.lst xs) := rfl
theorem x_rcvq : rcvW .popAt (.ref a) S = ∃ xs, S a = some (.lst xs) := rfl
theorem x_rcvi : rcvW .index (.ref a) S = ∃ xs, S a = some (.lst xs) := rfl
theorem x_rcvc : rcvW .count (.ref a) S = ∃ xs, S a = some (.lst xs) := rfl
theorem x_idxl : idxL (.ref a) (.int i) S Q = ∃ xs, S a = some (.lst xs) ∧ ∃ v, 0 ≤ i ∧ xs[i.toNat]? = some v ∧ Q v S := by
  apply propext
  exact ⟨fun ⟨xs, v, h1, h2, h3⟩ => ⟨xs, h1, v, h2, h3⟩, fun ⟨xs, h1, v, h2, h3⟩ => ⟨xs, v, h1, h2, h3⟩⟩
theorem x_rcvj : rcvW .join (.str x) S = True := rfl
variable {s : Src → Prop} {z : List D → (Sto → Prop) → Prop}
theorem x_srct : srcW (.tup xs) S s = s ⟨xs, fun _ => True⟩ := rfl
theorem x_srcf : srcW (.fls xs) S s = s ⟨xs, fun _ => True⟩ := rfl
theorem x_srcs : srcW (.str x) S s = s ⟨x.cps.toList.map fun c => .str ⟨#[c]⟩, fun _ => True⟩ := rfl
theorem x_srcl : srcW (.ref a) S s = ∃ xs, S a = some (.lst xs) ∧ s ⟨xs, fun S' => IsL S' a xs⟩ := rfl
theorem x_seqt : seqW (.tup xs) S z = z xs fun _ => True := rfl
theorem x_seql : seqW (.ref a) S z = ∃ xs, S a = some (.lst xs) ∧ z xs fun S' => IsL S' a xs := rfl
theorem x_enu : enuW (.ref a) S s = ∃ xs, S a = some (.lst xs) ∧ s ⟨numbered 0 xs, fun S' => IsL S' a xs⟩ := rfl
theorem x_enut : enuW (.tup xs) S s = s ⟨numbered 0 xs, fun _ => True⟩ := rfl
theorem x_zipl : zipW (.ref a) (.ref b) S s = ∃ xs, S a = some (.lst xs) ∧ ∃ ys, S b = some (.lst ys) ∧ s ⟨zipped xs ys, fun S' => IsL S' a xs ∧ IsL S' b ys⟩ := by
  apply propext
  exact ⟨fun ⟨xs, v, h1, h2, h3⟩ => ⟨xs, h1, v, h2, h3⟩, fun ⟨xs, h1, v, h2, h3⟩ => ⟨xs, v, h1, h2, h3⟩⟩
theorem x_zipm : zipW (.tup xs) (.ref b) S s = ∃ ys, S b = some (.lst ys) ∧ s ⟨zipped xs ys, fun S' => IsL S' b ys⟩ := rfl
theorem x_zipt : zipW (.tup xs) (.tup ys) S s = s ⟨zipped xs ys, fun _ => True⟩ := rfl
theorem x_rng1 : rngW [.int j] s = (Big j ∧ s ⟨intsF 0 j.toNat, fun _ => True⟩) := rfl
theorem x_rng2 : rngW [.int i, .int j] s = ((Big i ∧ Big j) ∧ s ⟨intsF i (j - i).toNat, fun _ => True⟩) := rfl
variable {φ : Fr} {p : Fr → Prop} {n : Nat} {tg : List Nat}
theorem x_isird {kvs : List (Str × D)} (h : S a = some (.dct kvs)) : isiW (.ref a) ts S q = q (ts.any (isTy .dict)) := by
  have e : tyOf S (.ref a) = some .dict := by show (match S a with | some (.lst _) => some Ty.list | some (.dct _) => some .dict | _ => none) = _; rw [h]
  apply propext
  exact ⟨fun ⟨t, h1, h2⟩ => by rw [e] at h1; cases h1; exact h2, fun h => ⟨_, e, h⟩⟩
theorem x_dctl : biW .dict [.ref a] S Q = ∃ xs, S a = some (.lst xs) ∧ ∃ kvs, pairsB xs = some kvs ∧ ∀ p, S p = none → Q (.ref p) (put S p (.dct (dispK [] (kvs.map (·.1)) (kvs.map (·.2))))) := by
  apply propext
  exact ⟨fun ⟨xs, v, h1, h2, h3⟩ => ⟨xs, h1, v, h2, h3⟩, fun ⟨xs, h1, v, h2, h3⟩ => ⟨xs, v, h1, h2, h3⟩⟩
theorem x_idn : idnW (.ref a) v S Q = ∃ kvs, S a = some (.dcn kvs) ∧ KyB v ∧ ∃ w, getN kvs v = some w ∧ Q w S := by
  apply propext
  exact ⟨fun ⟨kvs, w, h1, h2, h3, h4⟩ => ⟨kvs, h1, h2, w, h3, h4⟩, fun ⟨kvs, h1, h2, w, h3, h4⟩ => ⟨kvs, w, h1, h2, h3, h4⟩⟩
theorem x_dnit : copW .isn v (.tup ys) S q = ∃ d ds, PyOf S v d ∧ PyOfs S ys ds ∧ SeqAt.shaped d = true ∧ SeqAt.shaped (.tuple ds) = true ∧ q (ds.any fun z => PyData.eqv z d) := rfl
theorem x_dnnt : copW .ntn v (.tup ys) S q = ∃ d ds, PyOf S v d ∧ PyOfs S ys ds ∧ SeqAt.shaped d = true ∧ SeqAt.shaped (.tuple ds) = true ∧ q (!(ds.any fun z => PyData.eqv z d)) := rfl
theorem x_rgl : rgnW false i j S Q = (L2.RgOk i j ∧ ∀ p, S p = none → Q (.ref p) (put S p (.lst (intsF i (j - i).toNat)))) := rfl
theorem x_rgt : rgnW true i j S Q = (L2.RgOk i j ∧ Q (.tup (intsF i (j - i).toNat)) S) := rfl
theorem x_dni : copW .isn v (.ref a) S q = ∃ kvs, S a = some (.dcn kvs) ∧ KyB v ∧ q (getN kvs v).isSome := rfl
theorem x_dnn : copW .ntn v (.ref a) S q = ∃ kvs, S a = some (.dcn kvs) ∧ KyB v ∧ q (!(getN kvs v).isSome) := rfl
theorem x_stn : stnW (.ref a) w v S r = ∃ kvs, S a = some (.dcn kvs) ∧ KyB w ∧ kvs.length < sizeLine ∧ r (put S a (.dcn (setN kvs w v))) := rfl
theorem x_gtn1 : gtnW (.ref a) [v] S Q = ∃ kvs, S a = some (.dcn kvs) ∧ KyB v ∧ Q ((getN kvs v).getD .non) S := rfl
theorem x_gtn2 : gtnW (.ref a) [v, w] S Q = ∃ kvs, S a = some (.dcn kvs) ∧ KyB v ∧ Q ((getN kvs v).getD w) S := rfl
theorem x_isdn : isDcn (.ref a) S = ∃ kvs, S a = some (.dcn kvs) := by
  apply propext
  exact ⟨fun ⟨_, kvs, e, h⟩ => by cases e; exact ⟨kvs, h⟩, fun ⟨kvs, h⟩ => ⟨a, kvs, rfl, h⟩⟩
theorem x_lenD : biW .lenD [.ref a] S Q = ∃ kvs, S a = some (.dcn kvs) ∧ Q (.int kvs.length) S := rfl
theorem x_listD : biW .listD [.ref a] S Q = ∃ kvs, S a = some (.dcn kvs) ∧ ∀ p, S p = none → Q (.ref p) (put S p (.lst (kvs.map (·.1)))) := rfl
theorem x_rev : revW (.ref a) S Q = ∃ xs, S a = some (.lst xs) ∧ ∀ p, S p = none → Q (.ref p) (put S p (.lst xs.reverse)) := rfl
theorem x_vls {s : Src → Prop} : vlsW (.ref a) S s = ∃ kvs, S a = some (.dcn kvs) ∧ s ⟨kvs.map (·.2), fun S' => S' a = some (.dcn kvs)⟩ := rfl
theorem x_dic {s : Src → Prop} : dicW (.ref a) S s = ∃ kvs, S a = some (.dcn kvs) ∧ s ⟨kvs.map (·.1), fun S' => S' a = some (.dcn kvs)⟩ := rfl
theorem x_exn {us : List (D × D)} {p : List (D × D) → Prop} : (∃ t, some (O.dcn us) = some (O.dcn t) ∧ p t) = p us := by
  apply propext
  exact ⟨fun ⟨t, e, h⟩ => by cases e; exact h, fun h => ⟨us, rfl, h⟩⟩
theorem x_exn0 {us : List (D × D)} : (∃ t, some (O.dcn us) = some (O.dcn t)) = True := by
  apply propext
  exact ⟨fun _ => trivial, fun _ => ⟨us, rfl⟩⟩
theorem x_ison {cn : Str} {cs : List Str} : isoW .non cn cs q = q false := rfl
theorem x_isoe {dn cn : Str} {cs : List Str} : isoW (.exc dn) cn cs q = (dn ∈ cs ∧ q (decide (dn = cn))) := rfl
theorem x_nexc {cn : Str} : isNon (.exc cn) = false := rfl
theorem x_nnon : isNon .non = true := rfl
theorem x_nint : isNon (.int i) = false := rfl
theorem x_nstr : isNon (.str x) = false := rfl
theorem x_ntup : isNon (.tup xs) = false := rfl
theorem x_nref : isNon (.ref a) = false := rfl
theorem x_nbl : isNon (.bl c) = false := rfl
theorem x_tg1 : tgW [n] false v S φ p = p (φ.set n (some v)) := by
  apply propext
  exact ⟨fun ⟨j, e, h⟩ => by cases e; exact h, fun h => ⟨n, rfl, h⟩⟩
theorem x_tgt : tgW tg true (.tup xs) S φ p = (xs.length = tg.length ∧ p (setF φ tg xs)) := by
  apply propext
  exact ⟨fun ⟨ys, e, h⟩ => by rcases e with e | ⟨a, e, _⟩ <;> cases e; exact h, fun h => ⟨xs, .inl rfl, h⟩⟩
theorem x_tgl : tgW tg true (.ref a) S φ p = ∃ xs, S a = some (.lst xs) ∧ xs.length = tg.length ∧ p (setF φ tg xs) := by
  apply propext
  exact ⟨fun ⟨ys, e, h⟩ => by rcases e with e | ⟨a, e, g⟩ <;> cases e; exact ⟨ys, g, h⟩, fun ⟨xs, g, h⟩ => ⟨xs, .inr ⟨a, rfl, g⟩, h⟩⟩
theorem x_var {C : CallT} {E : XE} : wE C (.var n) φ S Q E = ∃ d, φ[n]? = some (some d) ∧ Q d S := rfl
theorem x_put : put S a o a = some o := put_same
theorem x_puto {o : O} (h : ¬ b = a) : put S a o b = S b := put_ne h
theorem x_puto' {o : O} (h : ¬ a = b) : put S a o b = S b := put_ne (Ne.symm h)
theorem x_ex {α : Type} {u : α} {p : α → Prop} : (∃ t, some u = some t ∧ p t) = p u := by
  apply propext
  exact ⟨fun ⟨t, e, h⟩ => by cases e; exact h, fun h => ⟨u, rfl, h⟩⟩
theorem x_exv {u : D} {p : D → Prop} : (∃ t, some (some u) = some (some t) ∧ p t) = p u := by
  apply propext
  exact ⟨fun ⟨t, e, h⟩ => by cases e; exact h, fun h => ⟨u, rfl, h⟩⟩
theorem x_exl {us : List D} {p : List D → Prop} : (∃ t, some (O.lst us) = some (O.lst t) ∧ p t) = p us := by
  apply propext
  exact ⟨fun ⟨t, e, h⟩ => by cases e; exact h, fun h => ⟨us, rfl, h⟩⟩
theorem x_exl0 {us : List D} : (∃ t, some (O.lst us) = some (O.lst t)) = True := by
  apply propext
  exact ⟨fun _ => trivial, fun _ => ⟨us, rfl⟩⟩
theorem x_exd {us : List (Str × D)} {p : List (Str × D) → Prop} : (∃ t, some (O.dct us) = some (O.dct t) ∧ p t) = p us := by
  apply propext
  exact ⟨fun ⟨t, e, h⟩ => by cases e; exact h, fun h => ⟨us, rfl, h⟩⟩
theorem x_exb {u : Bool} {p : Bool → Prop} : (∃ t, D.bl u = D.bl t ∧ p t) = p u := by
  apply propext
  exact ⟨fun ⟨t, e, h⟩ => by cases e; exact h, fun h => ⟨u, rfl, h⟩⟩
theorem x_exi {u : Int} {p : Int → Prop} : (∃ t, D.int u = D.int t ∧ p t) = p u := by
  apply propext
  exact ⟨fun ⟨t, e, h⟩ => by cases e; exact h, fun h => ⟨u, rfl, h⟩⟩
theorem x_dec {P : Prop} [Decidable P] {α : Prop} {β : Prop} : (if decide P = true then α else β) = if P then α else β := by
  by_cases h : P
  · simp [h]
  · simp [h]
theorem x_decf {P : Prop} [Decidable P] {α : Prop} {β : Prop} : (if decide P = false then α else β) = if P then β else α := by
  by_cases h : P
  · simp [h]
  · simp [h]
theorem x_ndec {P : Prop} [Decidable P] {α : Prop} {β : Prop} : (if (!decide P) = true then α else β) = if P then β else α := by
  by_cases h : P
  · simp [h]
  · simp [h]
theorem x_ndecf {P : Prop} [Decidable P] {α : Prop} {β : Prop} : (if (!decide P) = false then α else β) = if P then α else β := by
  by_cases h : P
  · simp [h]
  · simp [h]
theorem x_ty_str_str : [Ty.str].any (isTy Ty.str) = true := rfl
theorem x_ty_str_tuple : [Ty.tuple].any (isTy Ty.str) = false := rfl
theorem x_ty_str_int : [Ty.int].any (isTy Ty.str) = false := rfl
theorem x_ty_str_bool : [Ty.bool].any (isTy Ty.str) = false := rfl
theorem x_ty_str_list : [Ty.list].any (isTy Ty.str) = false := rfl
theorem x_ty_str_dict : [Ty.dict].any (isTy Ty.str) = false := rfl
theorem x_ty_str_list_tuple : [Ty.list, Ty.tuple].any (isTy Ty.str) = false := rfl
theorem x_ty_str_tuple_list : [Ty.tuple, Ty.list].any (isTy Ty.str) = false := rfl
theorem x_ty_str_str_tuple : [Ty.str, Ty.tuple].any (isTy Ty.str) = true := rfl
theorem x_ty_str_tuple_str : [Ty.tuple, Ty.str].any (isTy Ty.str) = true := rfl
theorem x_ty_str_int_bool : [Ty.int, Ty.bool].any (isTy Ty.str) = false := rfl
theorem x_ty_str_bool_int : [Ty.bool, Ty.int].any (isTy Ty.str) = false := rfl
theorem x_ty_str_str_int : [Ty.str, Ty.int].any (isTy Ty.str) = true := rfl
theorem x_ty_str_int_str : [Ty.int, Ty.str].any (isTy Ty.str) = true := rfl
theorem x_ty_tuple_str : [Ty.str].any (isTy Ty.tuple) = false := rfl
theorem x_ty_tuple_tuple : [Ty.tuple].any (isTy Ty.tuple) = true := rfl
theorem x_ty_tuple_int : [Ty.int].any (isTy Ty.tuple) = false := rfl
theorem x_ty_tuple_bool : [Ty.bool].any (isTy Ty.tuple) = false := rfl
theorem x_ty_tuple_list : [Ty.list].any (isTy Ty.tuple) = false := rfl
theorem x_ty_tuple_dict : [Ty.dict].any (isTy Ty.tuple) = false := rfl
theorem x_ty_tuple_list_tuple : [Ty.list, Ty.tuple].any (isTy Ty.tuple) = true := rfl
theorem x_ty_tuple_tuple_list : [Ty.tuple, Ty.list].any (isTy Ty.tuple) = true := rfl
theorem x_ty_tuple_str_tuple : [Ty.str, Ty.tuple].any (isTy Ty.tuple) = true := rfl
theorem x_ty_tuple_tuple_str : [Ty.tuple, Ty.str].any (isTy Ty.tuple) = true := rfl
theorem x_ty_tuple_int_bool : [Ty.int, Ty.bool].any (isTy Ty.tuple) = false := rfl
theorem x_ty_tuple_bool_int : [Ty.bool, Ty.int].any (isTy Ty.tuple) = false := rfl
theorem x_ty_tuple_str_int : [Ty.str, Ty.int].any (isTy Ty.tuple) = false := rfl
theorem x_ty_tuple_int_str : [Ty.int, Ty.str].any (isTy Ty.tuple) = false := rfl
theorem x_ty_int_str : [Ty.str].any (isTy Ty.int) = false := rfl
theorem x_ty_int_tuple : [Ty.tuple].any (isTy Ty.int) = false := rfl
theorem x_ty_int_int : [Ty.int].any (isTy Ty.int) = true := rfl
theorem x_ty_int_bool : [Ty.bool].any (isTy Ty.int) = false := rfl
theorem x_ty_int_list : [Ty.list].any (isTy Ty.int) = false := rfl
theorem x_ty_int_dict : [Ty.dict].any (isTy Ty.int) = false := rfl
theorem x_ty_int_list_tuple : [Ty.list, Ty.tuple].any (isTy Ty.int) = false := rfl
theorem x_ty_int_tuple_list : [Ty.tuple, Ty.list].any (isTy Ty.int) = false := rfl
theorem x_ty_int_str_tuple : [Ty.str, Ty.tuple].any (isTy Ty.int) = false := rfl
theorem x_ty_int_tuple_str : [Ty.tuple, Ty.str].any (isTy Ty.int) = false := rfl
theorem x_ty_int_int_bool : [Ty.int, Ty.bool].any (isTy Ty.int) = true := rfl
theorem x_ty_int_bool_int : [Ty.bool, Ty.int].any (isTy Ty.int) = true := rfl
theorem x_ty_int_str_int : [Ty.str, Ty.int].any (isTy Ty.int) = true := rfl
theorem x_ty_int_int_str : [Ty.int, Ty.str].any (isTy Ty.int) = true := rfl
theorem x_ty_bool_str : [Ty.str].any (isTy Ty.bool) = false := rfl
theorem x_ty_bool_tuple : [Ty.tuple].any (isTy Ty.bool) = false := rfl
theorem x_ty_bool_int : [Ty.int].any (isTy Ty.bool) = true := rfl
theorem x_ty_bool_bool : [Ty.bool].any (isTy Ty.bool) = true := rfl
theorem x_ty_bool_list : [Ty.list].any (isTy Ty.bool) = false := rfl
theorem x_ty_bool_dict : [Ty.dict].any (isTy Ty.bool) = false := rfl
theorem x_ty_bool_list_tuple : [Ty.list, Ty.tuple].any (isTy Ty.bool) = false := rfl
theorem x_ty_bool_tuple_list : [Ty.tuple, Ty.list].any (isTy Ty.bool) = false := rfl
theorem x_ty_bool_str_tuple : [Ty.str, Ty.tuple].any (isTy Ty.bool) = false := rfl
theorem x_ty_bool_tuple_str : [Ty.tuple, Ty.str].any (isTy Ty.bool) = false := rfl
theorem x_ty_bool_int_bool : [Ty.int, Ty.bool].any (isTy Ty.bool) = true := rfl
theorem x_ty_bool_bool_int : [Ty.bool, Ty.int].any (isTy Ty.bool) = true := rfl
theorem x_ty_bool_str_int : [Ty.str, Ty.int].any (isTy Ty.bool) = true := rfl
theorem x_ty_bool_int_str : [Ty.int, Ty.str].any (isTy Ty.bool) = true := rfl
theorem x_ty_list_str : [Ty.str].any (isTy Ty.list) = false := rfl
theorem x_ty_list_tuple : [Ty.tuple].any (isTy Ty.list) = false := rfl
theorem x_ty_list_int : [Ty.int].any (isTy Ty.list) = false := rfl
theorem x_ty_list_bool : [Ty.bool].any (isTy Ty.list) = false := rfl
theorem x_ty_list_list : [Ty.list].any (isTy Ty.list) = true := rfl
theorem x_ty_list_dict : [Ty.dict].any (isTy Ty.list) = false := rfl
theorem x_ty_list_list_tuple : [Ty.list, Ty.tuple].any (isTy Ty.list) = true := rfl
theorem x_ty_list_tuple_list : [Ty.tuple, Ty.list].any (isTy Ty.list) = true := rfl
theorem x_ty_list_str_tuple : [Ty.str, Ty.tuple].any (isTy Ty.list) = false := rfl
theorem x_ty_list_tuple_str : [Ty.tuple, Ty.str].any (isTy Ty.list) = false := rfl
theorem x_ty_list_int_bool : [Ty.int, Ty.bool].any (isTy Ty.list) = false := rfl
theorem x_ty_list_bool_int : [Ty.bool, Ty.int].any (isTy Ty.list) = false := rfl
theorem x_ty_list_str_int : [Ty.str, Ty.int].any (isTy Ty.list) = false := rfl
theorem x_ty_list_int_str : [Ty.int, Ty.str].any (isTy Ty.list) = false := rfl
theorem x_ty_dict_str : [Ty.str].any (isTy Ty.dict) = false := rfl
theorem x_ty_dict_tuple : [Ty.tuple].any (isTy Ty.dict) = false := rfl
theorem x_ty_dict_int : [Ty.int].any (isTy Ty.dict) = false := rfl
theorem x_ty_dict_bool : [Ty.bool].any (isTy Ty.dict) = false := rfl
theorem x_ty_dict_list : [Ty.list].any (isTy Ty.dict) = false := rfl
theorem x_ty_dict_dict : [Ty.dict].any (isTy Ty.dict) = true := rfl
theorem x_ty_dict_list_tuple : [Ty.list, Ty.tuple].any (isTy Ty.dict) = false := rfl
theorem x_ty_dict_tuple_list : [Ty.tuple, Ty.list].any (isTy Ty.dict) = false := rfl
theorem x_ty_dict_str_tuple : [Ty.str, Ty.tuple].any (isTy Ty.dict) = false := rfl
theorem x_ty_dict_tuple_str : [Ty.tuple, Ty.str].any (isTy Ty.dict) = false := rfl
theorem x_ty_dict_int_bool : [Ty.int, Ty.bool].any (isTy Ty.dict) = false := rfl
theorem x_ty_dict_bool_int : [Ty.bool, Ty.int].any (isTy Ty.dict) = false := rfl
theorem x_ty_dict_str_int : [Ty.str, Ty.int].any (isTy Ty.dict) = false := rfl
theorem x_ty_dict_int_str : [Ty.int, Ty.str].any (isTy Ty.dict) = false := rfl
end
end Pi

namespace PiLaw
open PySem PySem.Spec PyProof.Rows L2 Pi
def f_is_number : FD := ⟨["thing"], 1, (.cons (.ret (.boo true (.cons (.isi (.var 0) [.int]) (.cons (.inv (.isi (.var 0) [.bool])) .nil)))) .nil)⟩
def f_is_list : FD := ⟨["thing"], 1, (.cons (.ret (.isi (.var 0) [.list, .tuple])) .nil)⟩
def f_is_name : FD := ⟨["thing"], 2, (.cons (.ret (.boo true (.cons (.isi (.var 0) [.str]) (.cons (.chn .le .le (.lit (.int 1)) (.bui .len (.cons (.var 0) .nil)) (.glo "LONGEST" (.int 3))) (.cons (.bui .all (.cons (.lc (.cmp .isin (.var 1) (.glo "LETTERS" (.str "abcdefghijklmnopqrstuvwxyz"))) [1] [1] false (.of (.var 0)) .nil) .nil)) .nil))))) .nil)⟩
def f_has_form : FD := ⟨["thing", "deep"], 3, (.cons (.iff (.cal "is_name" (.cons (.var 0) .nil)) (.cons (.ret (.lit (.bl true))) .nil) .nil) (.cons (.iff (.boo false (.cons (.inv (.isi (.var 0) [.tuple])) (.cons (.cmp .eq (.var 1) (.lit (.int 0))) (.cons (.inv (.chn .le .le (.lit (.int 2)) (.bui .len (.cons (.var 0) .nil)) (.glo "MOST_ITEMS" (.int 8)))) .nil)))) (.cons (.ret (.lit (.bl false))) .nil) .nil) (.cons (.ret (.boo true (.cons (.cal "is_name" (.cons (.idx (.var 0) (.neg (.lit (.int 1)))) .nil)) (.cons (.bui .all (.cons (.lc (.cal "has_form" (.cons (.var 2) (.cons (.bin .sub (.var 1) (.lit (.int 1))) .nil))) [2] [2] false (.of (.slc (.var 0) .nil (.cons (.neg (.lit (.int 1))) .nil))) .nil) .nil)) .nil)))) .nil)))⟩
def f_inner_params : FD := ⟨["kind"], 1, (.cons (.ret (.ife (.isi (.var 0) [.str]) (.tup .nil) (.slc (.var 0) .nil (.cons (.neg (.lit (.int 1))) .nil)))) .nil)⟩
def f_inner_end : FD := ⟨["kind"], 1, (.cons (.ret (.ife (.isi (.var 0) [.str]) (.var 0) (.idx (.var 0) (.neg (.lit (.int 1)))))) .nil)⟩
def f_inner_names : FD := ⟨["kind"], 3, (.cons (.iff (.isi (.var 0) [.str]) (.cons (.ret (.tup (.cons (.var 0) .nil))) .nil) .nil) (.cons (.ret (.bui .tuple (.cons (.lcc (.var 2) [1, 2] [1] false (.of (.var 0)) [2] [2] false (.of (.cal "inner_names" (.cons (.var 1) .nil)))) .nil))) .nil))⟩
def f_is_kind : FD := ⟨["thing"], 1, (.cons (.ret (.boo true (.cons (.cal "has_form" (.cons (.var 0) (.cons (.glo "MOST_DEEP" (.int 4)) .nil))) (.cons (.cmp .le (.bui .len (.cons (.cal "inner_names" (.cons (.var 0) .nil)) .nil)) (.glo "MOST_PLACES" (.int 14))) .nil)))) .nil)⟩
def f_need_kind : FD := ⟨["kind"], 1, (.cons (.iff (.inv (.cal "is_kind" (.cons (.var 0) .nil))) (.cons (.rai "BadKind" (.cons (.lit (.str "not a kind")) .nil)) .nil) .nil) .nil)⟩
def f_is_rising : FD := ⟨["thing"], 3, (.cons (.ret (.bui .all (.cons (.lc (.cmp .lt (.var 1) (.var 2)) [1, 2] [1, 2] true (.zip (.var 0) (.slc (.var 0) (.cons (.lit (.int 1)) .nil) .nil)) .nil) .nil))) .nil)⟩
def f_is_above : FD := ⟨["many", "world", "thing"], 4, (.cons (.iff (.boo false (.cons (.inv (.isi (.var 2) [.tuple])) (.cons (.inv (.bui .all (.cons (.lc (.boo true (.cons (.cal "is_number" (.cons (.var 3) .nil)) (.cons (.chn .le .lt (.lit (.int 0)) (.var 3) (.var 0)) .nil))) [3] [3] false (.of (.var 2)) .nil) .nil))) .nil))) (.cons (.ret (.lit (.bl false))) .nil) .nil) (.cons (.ret (.boo true (.cons (.cal "is_rising" (.cons (.var 2) .nil)) (.cons (.cmp .notin (.var 1) (.var 2)) .nil)))) .nil))⟩
def f_is_held : FD := ⟨["thing"], 2, (.cons (.ret (.boo true (.cons (.isi (.var 0) [.tuple]) (.cons (.bui .all (.cons (.lc (.cal "is_name" (.cons (.var 1) .nil)) [1] [1] false (.of (.var 0)) .nil) .nil)) (.cons (.cal "is_rising" (.cons (.var 0) .nil)) .nil))))) .nil)⟩
def f_goes_up : FD := ⟨["model", "world"], 7, (.cons (.asg [3, 4] true (.idx (.var 0) (.var 1))) (.cons (.for_ [2] false (.of (.var 3)) (.cons (.iff (.inv (.bui .all (.cons (.lc (.cmp .isin (.var 5) (.var 3)) [5] [5] false (.of (.idx (.idx (.var 0) (.var 2)) (.lit (.int 0)))) .nil) .nil))) (.cons (.ret (.lit (.bl false))) .nil) .nil) (.cons (.iff (.inv (.bui .all (.cons (.lc (.cmp .isin (.var 6) (.idx (.idx (.var 0) (.var 2)) (.lit (.int 1)))) [6] [6] false (.of (.var 4)) .nil) .nil))) (.cons (.ret (.lit (.bl false))) .nil) .nil) .nil))) (.cons (.ret (.lit (.bl true))) .nil)))⟩
def f_is_model : FD := ⟨["thing"], 5, (.cons (.iff (.boo false (.cons (.inv (.cal "is_list" (.cons (.var 0) .nil))) (.cons (.inv (.chn .le .le (.lit (.int 1)) (.bui .len (.cons (.var 0) .nil)) (.glo "MOST_WORLDS" (.int 100)))) .nil))) (.cons (.ret (.lit (.bl false))) .nil) .nil) (.cons (.iff (.inv (.bui .all (.cons (.lc (.boo true (.cons (.isi (.var 3) [.tuple]) (.cons (.cmp .eq (.bui .len (.cons (.var 3) .nil)) (.lit (.int 2))) .nil))) [3] [3] false (.of (.var 0)) .nil) .nil))) (.cons (.ret (.lit (.bl false))) .nil) .nil) (.cons (.asg [1] false (.bui .len (.cons (.var 0) .nil))) (.cons (.iff (.inv (.bui .all (.cons (.lc (.boo true (.cons (.cal "is_above" (.cons (.var 1) (.cons (.var 4) (.cons (.idx (.var 3) (.lit (.int 0))) .nil)))) (.cons (.cal "is_held" (.cons (.idx (.var 3) (.lit (.int 1))) .nil)) .nil))) [4, 3] [4, 3] true (.enu (.var 0)) .nil) .nil))) (.cons (.ret (.lit (.bl false))) .nil) .nil) (.cons (.ret (.bui .all (.cons (.lc (.cal "goes_up" (.cons (.var 0) (.cons (.var 2) .nil))) [2] [2] false (.rng (.cons (.var 1) .nil)) .nil) .nil))) .nil)))))⟩
def f_need_model : FD := ⟨["model"], 1, (.cons (.iff (.inv (.cal "is_model" (.cons (.var 0) .nil))) (.cons (.rai "BadModel" (.cons (.lit (.str "not a model")) .nil)) .nil) .nil) .nil)⟩
def f_bearing : FD := ⟨["model", "kind"], 11, (.cons (.asg [2] false (.lc (.cmp .isin (.cal "inner_end" (.cons (.var 1) .nil)) (.var 8)) [7, 8] [7, 8] true (.of (.var 0)) .nil)) (.cons (.asg [3] false (.lc (.cal "bearing" (.cons (.var 0) (.cons (.var 5) .nil))) [5] [5] false (.of (.cal "inner_params" (.cons (.var 1) .nil))) .nil)) (.cons (.asg [4] false (.lc (.boo false (.cons (.idx (.var 2) (.var 6)) (.cons (.inv (.bui .all (.cons (.lc (.idx (.var 10) (.var 6)) [10] [10] false (.of (.var 3)) .nil) .nil))) .nil))) [6] [6] false (.rng (.cons (.bui .len (.cons (.var 0) .nil)) .nil)) .nil)) (.cons (.iff (.cmp .eq (.var 3) (.lst .nil)) (.cons (.ret (.var 2)) .nil) .nil) (.cons (.ret (.lc (.boo true (.cons (.idx (.var 4) (.var 6)) (.cons (.bui .all (.cons (.lc (.idx (.var 4) (.var 9)) [9] [9] false (.of (.idx (.idx (.var 0) (.var 6)) (.lit (.int 0)))) .nil) .nil)) .nil))) [6] [6] false (.rng (.cons (.bui .len (.cons (.var 0) .nil)) .nil)) .nil)) .nil)))))⟩
def f_bears : FD := ⟨["model", "world", "kind"], 3, (.cons (.exp (.cal "need_model" (.cons (.var 0) .nil))) (.cons (.iff (.boo false (.cons (.inv (.cal "is_number" (.cons (.var 1) .nil))) (.cons (.inv (.chn .le .lt (.lit (.int 0)) (.var 1) (.bui .len (.cons (.var 0) .nil)))) .nil))) (.cons (.rai "BadWorld" (.cons (.lit (.str "not the number of a world")) .nil)) .nil) .nil) (.cons (.exp (.cal "need_kind" (.cons (.var 2) .nil))) (.cons (.ret (.idx (.cal "bearing" (.cons (.var 0) (.cons (.var 2) .nil))) (.var 1))) .nil))))⟩
def f_refutes : FD := ⟨["model", "kind"], 2, (.cons (.exp (.cal "need_model" (.cons (.var 0) .nil))) (.cons (.exp (.cal "need_kind" (.cons (.var 1) .nil))) (.cons (.ret (.inv (.idx (.cal "bearing" (.cons (.var 0) (.cons (.var 1) .nil))) (.lit (.int 0))))) .nil)))⟩
def f__law_begun : FD := ⟨["_law_script"], 3, (.cons (.asg [1] false (.lc (.bin .sub (.bui .abs (.cons (.var 2) .nil)) (.bin .pow (.lit (.int 10)) (.lit (.int 18)))) [2] [2] false (.of (.var 0)) (.cons (.cmp .ge (.bui .abs (.cons (.var 2) .nil)) (.bin .pow (.lit (.int 10)) (.lit (.int 18)))) .nil))) (.cons (.ret (.dis ["large", "rest", "cells", "turn"] (.cons (.var 1) (.cons (.lit (.int 0)) (.cons (.lc (.bui .abs (.cons (.var 2) .nil)) [2] [2] false (.of (.var 0)) .nil) (.cons (.lit (.int 0)) .nil)))))) .nil))⟩
def f__law_mixed : FD := ⟨["_law_draw"], 6, (.cons (.sto (.var 0) (.lit (.str "turn")) (.bin .add (.idx (.var 0) (.lit (.str "turn"))) (.lit (.int 1)))) (.cons (.par [2, 3] (.cons (.bui .int (.cons (.idx (.var 0) (.lit (.str "turn"))) .nil)) (.cons (.lit (.int 0)) .nil))) (.cons (.for_ [1] false (.of (.lst (.cons (.lit (.int 2147483629)) (.cons (.lit (.int 2147483587)) (.cons (.lit (.int 2147483579)) .nil))))) (.cons (.asg [4] false (.bin .mod (.bin .add (.bin .mul (.var 2) (.lit (.int 69621))) (.bin .fdv (.var 1) (.lit (.int 7)))) (.var 1))) (.cons (.for_ [5] false (.of (.idx (.var 0) (.lit (.str "cells")))) (.cons (.asg [4] false (.bin .mod (.bin .add (.bin .mul (.var 4) (.lit (.int 48271))) (.bui .int (.cons (.var 5) .nil))) (.var 1))) .nil)) (.cons (.asg [3] false (.bin .add (.bin .mul (.var 3) (.lit (.int 2147483647))) (.bin .mod (.bin .pow (.var 4) (.lit (.int 5))) (.var 1)))) .nil)))) (.cons (.ret (.var 3)) .nil))))⟩
def f__law_take : FD := ⟨["_law_draw", "_law_amount"], 3, (.cons (.iff (.cmp .eq (.idx (.var 0) (.lit (.str "rest"))) (.lit (.int 0))) (.cons (.sto (.var 0) (.lit (.str "rest")) (.ife (.cmp .ne (.idx (.var 0) (.lit (.str "large"))) (.lst .nil)) (.met .popAt (.idx (.var 0) (.lit (.str "large"))) (.cons (.lit (.int 0)) .nil)) (.cal "_law_mixed" (.cons (.var 0) .nil)))) .nil) .nil) (.cons (.asg [2] false (.bin .mod (.bui .int (.cons (.idx (.var 0) (.lit (.str "rest"))) .nil)) (.var 1))) (.cons (.sto (.var 0) (.lit (.str "rest")) (.bin .fdv (.bui .int (.cons (.idx (.var 0) (.lit (.str "rest"))) .nil)) (.var 1))) (.cons (.ret (.var 2)) .nil))))⟩
def f__law_pick : FD := ⟨["_law_draw", "_law_some"], 2, (.cons (.ret (.idx (.var 1) (.cal "_law_take" (.cons (.var 0) (.cons (.bui .len (.cons (.var 1) .nil)) .nil))))) .nil)⟩
def f__law_shuffled : FD := ⟨["_law_draw", "_law_some"], 4, (.cons (.par [2, 3] (.cons (.bui .list (.cons (.var 1) .nil)) (.cons (.lst .nil) .nil))) (.cons (.whl (.cmp .ne (.var 2) (.lst .nil)) (.cons (.exp (.met .append (.var 3) (.cons (.met .popAt (.var 2) (.cons (.cal "_law_take" (.cons (.var 0) (.cons (.bui .len (.cons (.var 2) .nil)) .nil))) .nil)) .nil))) .nil)) (.cons (.ret (.var 3)) .nil)))⟩
def f__law_word : FD := ⟨["_law_draw"], 4, (.cons (.asg [2, 3] true (.tup (.cons (.lit (.str "abcdefghijklmnopqrstuvwxyz")) (.cons (.lit (.str "")) .nil)))) (.cons (.for_ [1] false (.rng (.cons (.bin .add (.lit (.int 1)) (.cal "_law_take" (.cons (.var 0) (.cons (.lit (.int 3)) .nil)))) .nil)) (.cons (.asg [3] false (.bin .add (.var 3) (.idx (.var 2) (.cal "_law_take" (.cons (.var 0) (.cons (.lit (.int 26)) .nil)))))) .nil)) (.cons (.ret (.var 3)) .nil)))⟩
def f__law_words : FD := ⟨["_law_draw"], 4, (.cons (.par [1, 2] (.cons (.cal "_law_pick" (.cons (.var 0) (.cons (.lst (.cons (.lit (.int 1)) (.cons (.lit (.int 2)) (.cons (.lit (.int 2)) (.cons (.lit (.int 3)) (.cons (.lit (.int 3)) (.cons (.lit (.int 4)) .nil))))))) .nil))) (.cons (.bui .list (.cons (.lit (.str "abcdefghijklmn")) .nil)) .nil))) (.cons (.iff (.cmp .eq (.cal "_law_take" (.cons (.var 0) (.cons (.lit (.int 8)) .nil))) (.lit (.int 0))) (.cons (.ret (.slc (.var 2) .nil (.cons (.cal "_law_pick" (.cons (.var 0) (.cons (.lst (.cons (.lit (.int 5)) (.cons (.lit (.int 7)) (.cons (.lit (.int 14)) .nil)))) .nil))) .nil))) .nil) .nil) (.cons (.ret (.ife (.cmp .gt (.cal "_law_take" (.cons (.var 0) (.cons (.lit (.int 3)) .nil))) (.lit (.int 0))) (.slc (.var 2) .nil (.cons (.var 1) .nil)) (.lc (.cal "_law_word" (.cons (.var 0) .nil)) [3] [3] false (.rng (.cons (.var 1) .nil)) .nil))) .nil)))⟩
def f__law_params : FD := ⟨["_law_shape"], 1, (.cons (.ret (.ife (.isi (.var 0) [.str]) (.tup .nil) (.slc (.var 0) .nil (.cons (.neg (.lit (.int 1))) .nil)))) .nil)⟩
def f__law_end : FD := ⟨["_law_shape"], 1, (.cons (.ret (.ife (.isi (.var 0) [.str]) (.var 0) (.idx (.var 0) (.neg (.lit (.int 1)))))) .nil)⟩
def f__law_places : FD := ⟨["_law_shape"], 3, (.cons (.iff (.isi (.var 0) [.str]) (.cons (.ret (.lst (.cons (.var 0) .nil))) .nil) .nil) (.cons (.asg [1] false (.lst .nil)) (.cons (.for_ [2] false (.of (.var 0)) (.cons (.asg [1] false (.bin .add (.var 1) (.cal "_law_places" (.cons (.var 2) .nil)))) .nil)) (.cons (.ret (.var 1)) .nil))))⟩
def f__law_loose : FD := ⟨["_law_draw", "_law_words_here", "_law_room", "_law_deep"], 7, (.cons (.iff (.boo false (.cons (.cmp .lt (.var 2) (.lit (.int 2))) (.cons (.cmp .eq (.var 3) (.lit (.int 0))) (.cons (.cmp .eq (.cal "_law_take" (.cons (.var 0) (.cons (.lit (.int 3)) .nil))) (.lit (.int 0))) .nil)))) (.cons (.ret (.cal "_law_pick" (.cons (.var 0) (.cons (.var 1) .nil)))) .nil) .nil) (.cons (.par [5, 6] (.cons (.lst .nil) (.cons (.bin .sub (.var 2) (.lit (.int 1))) .nil))) (.cons (.for_ [4] false (.rng (.cons (.bin .add (.lit (.int 1)) (.cal "_law_take" (.cons (.var 0) (.cons (.bui .min (.cons (.var 6) (.cons (.lit (.int 4)) .nil))) .nil)))) .nil)) (.cons (.iff (.cmp .gt (.var 6) (.lit (.int 0))) (.cons (.exp (.met .append (.var 5) (.cons (.cal "_law_loose" (.cons (.var 0) (.cons (.var 1) (.cons (.ife (.cmp .gt (.var 6) (.lit (.int 1))) (.cal "_law_pick" (.cons (.var 0) (.cons (.lst (.cons (.lit (.int 1)) (.cons (.lit (.int 1)) (.cons (.lit (.int 2)) (.cons (.var 6) .nil))))) .nil))) (.lit (.int 1))) (.cons (.bin .sub (.var 3) (.lit (.int 1))) .nil))))) .nil))) (.cons (.asg [6] false (.bin .sub (.var 6) (.bui .len (.cons (.cal "_law_places" (.cons (.idx (.var 5) (.neg (.lit (.int 1)))) .nil)) .nil)))) .nil)) .nil) .nil)) (.cons (.ret (.bui .tuple (.cons (.bin .add (.var 5) (.lst (.cons (.cal "_law_pick" (.cons (.var 0) (.cons (.var 1) .nil))) .nil))) .nil))) .nil))))⟩
def f__law_order : FD := ⟨["_law_draw", "_law_many"], 7, (.cons (.asg [3, 4] true (.tup (.cons (.cal "_law_shuffled" (.cons (.var 0) (.cons (.lr1 false (.var 1)) .nil))) (.cons .dnw .nil)))) (.cons (.for_ [2] false (.rng (.cons (.var 1) .nil)) (.cons (.asg [5] false (.lst .nil)) (.cons (.for_ [6] false (.rng (.cons (.var 2) .nil)) (.cons (.iff (.cmp .eq (.cal "_law_take" (.cons (.var 0) (.cons (.lit (.int 3)) .nil))) (.lit (.int 0))) (.cons (.asg [5] false (.bin .add (.bin .add (.var 5) (.lst (.cons (.idx (.var 3) (.var 6)) .nil))) (.bui .list (.cons (.idn (.var 4) (.idx (.var 3) (.var 6))) .nil)))) .nil) .nil) .nil)) (.cons (.stn (.var 4) (.idx (.var 3) (.var 2)) (.bui .tuple (.cons (.sset (.var 5)) .nil))) .nil)))) (.cons (.ret (.lc (.idn (.var 4) (.var 2)) [2] [2] false (.rng (.cons (.var 1) .nil)) .nil)) .nil)))⟩
def f__law_house : FD := ⟨["_law_draw", "_law_words_here"], 10, (.cons (.asg [2] false (.cal "_law_order" (.cons (.var 0) (.cons (.bin .add (.lit (.int 1)) (.cal "_law_take" (.cons (.var 0) (.cons (.lit (.int 6)) .nil)))) .nil)))) (.cons (.asg [3] false (.lc (.lc (.var 9) [9] [9] false (.of (.var 1)) (.cons (.cmp .eq (.cal "_law_take" (.cons (.var 0) (.cons (.lit (.int 4)) .nil))) (.lit (.int 0))) .nil)) [5] [5] false (.rng (.cons (.bui .len (.cons (.var 2) .nil)) .nil)) .nil)) (.cons (.asg [4] false (.lst .nil)) (.cons (.for_ [5] false (.rng (.cons (.bui .len (.cons (.var 2) .nil)) .nil)) (.cons (.asg [6] false (.lc (.var 8) [8] [8] false (.rng (.cons (.bui .len (.cons (.var 2) .nil)) .nil)) (.cons (.boo false (.cons (.cmp .eq (.var 8) (.var 5)) (.cons (.cmp .isin (.var 5) (.idx (.var 2) (.var 8))) .nil))) .nil))) (.cons (.asg [7] false (.lst .nil)) (.cons (.for_ [8] false (.of (.var 6)) (.cons (.asg [7] false (.bin .add (.var 7) (.idx (.var 3) (.var 8)))) .nil)) (.cons (.exp (.met .append (.var 4) (.cons (.tup (.cons (.idx (.var 2) (.var 5)) (.cons (.bui .tuple (.cons (.sset (.var 7)) .nil)) .nil))) .nil))) .nil))))) (.cons (.ret (.var 4)) .nil)))))⟩
def f__law_bears : FD := ⟨["_law_house_here", "_law_k", "_law_shape"], 6, (.cons (.for_ [3] false (.of (.bin .add (.lst (.cons (.var 1) .nil)) (.bui .list (.cons (.idx (.idx (.var 0) (.var 1)) (.lit (.int 0))) .nil)))) (.cons (.asg [4] false (.cmp .eq (.lc (.lit (.int 1)) [5] [5] false (.of (.cal "_law_params" (.cons (.var 2) .nil))) (.cons (.inv (.cal "_law_bears" (.cons (.var 0) (.cons (.var 3) (.cons (.var 5) .nil))))) .nil)) (.lst .nil))) (.cons (.iff (.boo true (.cons (.var 4) (.cons (.cmp .notin (.cal "_law_end" (.cons (.var 2) .nil)) (.idx (.idx (.var 0) (.var 3)) (.lit (.int 1)))) .nil))) (.cons (.ret (.lit (.bl false))) .nil) .nil) .nil))) (.cons (.ret (.lit (.bl true))) .nil))⟩
def f_law : FD := ⟨["_law_script"], 12, (.cons (.asg [1] false (.cal "_law_begun" (.cons (.var 0) .nil))) (.cons (.for_ [2] false (.rng (.cons (.bui .max (.cons (.lit (.int 5)) (.cons (.bui .min (.cons (.lit (.int 20)) (.cons (.bui .len (.cons (.var 0) .nil)) .nil))) .nil))) .nil)) (.cons (.asg [3] false (.cal "_law_words" (.cons (.var 1) .nil))) (.cons (.asg [4] false (.cal "_law_house" (.cons (.var 1) (.cons (.bin .add (.var 3) (.lst (.cons (.lit (.str "z")) .nil))) .nil)))) (.cons (.asg [5] false (.bui .repr (.cons (.var 4) .nil))) (.cons (.for_ [6] false (.rng (.cons (.lit (.int 3)) .nil)) (.cons (.asg [7] false (.cal "_law_loose" (.cons (.var 1) (.cons (.var 3) (.cons (.lit (.int 9)) (.cons (.lit (.int 3)) .nil)))))) (.cons (.asg [8] false (.lc (.cal "_law_bears" (.cons (.var 4) (.cons (.var 9) (.cons (.var 7) .nil)))) [9] [9] false (.rng (.cons (.bui .len (.cons (.var 4) .nil)) .nil)) .nil)) (.cons (.iff (.cmp .ne (.bui .repr (.cons (.lc (.cal "bears" (.cons (.var 4) (.cons (.var 9) (.cons (.var 7) .nil)))) [9] [9] false (.rng (.cons (.bui .len (.cons (.var 4) .nil)) .nil)) .nil) .nil)) (.bui .repr (.cons (.var 8) .nil))) (.cons (.ret (.lit (.bl false))) .nil) .nil) (.cons (.asg [9] false (.cal "_law_take" (.cons (.var 1) (.cons (.bui .len (.cons (.var 4) .nil)) .nil)))) (.cons (.iff (.cmp .ne (.bui .repr (.cons (.cak "bears" .nil ["kind", "world", "model"] (.cons (.var 7) (.cons (.var 9) (.cons (.bui .tuple (.cons (.var 4) .nil)) .nil))) ["model", "world", "kind"]) .nil)) (.bui .repr (.cons (.idx (.var 8) (.var 9)) .nil))) (.cons (.ret (.lit (.bl false))) .nil) .nil) (.cons (.iff (.cmp .ne (.bui .repr (.cons (.lst (.cons (.cal "refutes" (.cons (.var 4) (.cons (.var 7) .nil))) (.cons (.cak "refutes" .nil ["kind", "model"] (.cons (.var 7) (.cons (.bui .tuple (.cons (.var 4) .nil)) .nil)) ["model", "kind"]) .nil))) .nil)) (.bui .repr (.cons (.bin .mul (.lst (.cons (.inv (.idx (.var 8) (.lit (.int 0)))) .nil)) (.lit (.int 2))) .nil))) (.cons (.ret (.lit (.bl false))) .nil) .nil) (.cons (.asg [10] false (.lc (.var 11) [11] [11] false (.of (.idx (.idx (.var 4) (.var 9)) (.lit (.int 0)))) (.cons (.inv (.cal "bears" (.cons (.var 4) (.cons (.var 11) (.cons (.var 7) .nil))))) .nil))) (.cons (.iff (.boo true (.cons (.idx (.var 8) (.var 9)) (.cons (.cmp .ne (.var 10) (.lst .nil)) .nil))) (.cons (.ret (.lit (.bl false))) .nil) .nil) .nil))))))))) (.cons (.iff (.cmp .ne (.bui .repr (.cons (.var 4) .nil)) (.var 5)) (.cons (.ret (.lit (.bl false))) .nil) .nil) .nil)))))) (.cons (.ret (.lit (.bl true))) .nil)))⟩
def law_b2_7 : ISs := (.cons (.iff (.boo true (.cons (.idx (.var 8) (.var 9)) (.cons (.cmp .ne (.var 10) (.lst .nil)) .nil))) (.cons (.ret (.lit (.bl false))) .nil) .nil) .nil)
def law_b2_6 : ISs := (.cons (.asg [10] false (.lc (.var 11) [11] [11] false (.of (.idx (.idx (.var 4) (.var 9)) (.lit (.int 0)))) (.cons (.inv (.cal "bears" (.cons (.var 4) (.cons (.var 11) (.cons (.var 7) .nil))))) .nil))) law_b2_7)
def law_b2_5 : ISs := (.cons (.iff (.cmp .ne (.bui .repr (.cons (.lst (.cons (.cal "refutes" (.cons (.var 4) (.cons (.var 7) .nil))) (.cons (.cak "refutes" .nil ["kind", "model"] (.cons (.var 7) (.cons (.bui .tuple (.cons (.var 4) .nil)) .nil)) ["model", "kind"]) .nil))) .nil)) (.bui .repr (.cons (.bin .mul (.lst (.cons (.inv (.idx (.var 8) (.lit (.int 0)))) .nil)) (.lit (.int 2))) .nil))) (.cons (.ret (.lit (.bl false))) .nil) .nil) law_b2_6)
def law_b2_4 : ISs := (.cons (.iff (.cmp .ne (.bui .repr (.cons (.cak "bears" .nil ["kind", "world", "model"] (.cons (.var 7) (.cons (.var 9) (.cons (.bui .tuple (.cons (.var 4) .nil)) .nil))) ["model", "world", "kind"]) .nil)) (.bui .repr (.cons (.idx (.var 8) (.var 9)) .nil))) (.cons (.ret (.lit (.bl false))) .nil) .nil) law_b2_5)
def law_b2_3 : ISs := (.cons (.asg [9] false (.cal "_law_take" (.cons (.var 1) (.cons (.bui .len (.cons (.var 4) .nil)) .nil)))) law_b2_4)
def law_b2_2 : ISs := (.cons (.iff (.cmp .ne (.bui .repr (.cons (.lc (.cal "bears" (.cons (.var 4) (.cons (.var 9) (.cons (.var 7) .nil)))) [9] [9] false (.rng (.cons (.bui .len (.cons (.var 4) .nil)) .nil)) .nil) .nil)) (.bui .repr (.cons (.var 8) .nil))) (.cons (.ret (.lit (.bl false))) .nil) .nil) law_b2_3)
def law_b2_1 : ISs := (.cons (.asg [8] false (.lc (.cal "_law_bears" (.cons (.var 4) (.cons (.var 9) (.cons (.var 7) .nil)))) [9] [9] false (.rng (.cons (.bui .len (.cons (.var 4) .nil)) .nil)) .nil)) law_b2_2)
def law_b2 : ISs := (.cons (.asg [7] false (.cal "_law_loose" (.cons (.var 1) (.cons (.var 3) (.cons (.lit (.int 9)) (.cons (.lit (.int 3)) .nil)))))) law_b2_1)
def law_b1_4 : ISs := (.cons (.iff (.cmp .ne (.bui .repr (.cons (.var 4) .nil)) (.var 5)) (.cons (.ret (.lit (.bl false))) .nil) .nil) .nil)
def law_b1_3 : ISs := (.cons (.for_ [6] false (.rng (.cons (.lit (.int 3)) .nil)) law_b2) law_b1_4)
def law_b1_2 : ISs := (.cons (.asg [5] false (.bui .repr (.cons (.var 4) .nil))) law_b1_3)
def law_b1_1 : ISs := (.cons (.asg [4] false (.cal "_law_house" (.cons (.var 1) (.cons (.bin .add (.var 3) (.lst (.cons (.lit (.str "z")) .nil))) .nil)))) law_b1_2)
def law_b1 : ISs := (.cons (.asg [3] false (.cal "_law_words" (.cons (.var 1) .nil))) law_b1_1)
def law_m_2 : ISs := (.cons (.ret (.lit (.bl true))) .nil)
def law_m_1 : ISs := (.cons (.for_ [2] false (.rng (.cons (.bui .max (.cons (.lit (.int 5)) (.cons (.bui .min (.cons (.lit (.int 20)) (.cons (.bui .len (.cons (.var 0) .nil)) .nil))) .nil))) .nil)) law_b1) law_m_2)
def law_m : ISs := (.cons (.asg [1] false (.cal "_law_begun" (.cons (.var 0) .nil))) law_m_1)
theorem law_eq : f_law = ⟨["_law_script"], 12, law_m⟩ := rfl
def tab : Tab := ([("is_number", f_is_number), ("is_list", f_is_list), ("is_name", f_is_name), ("has_form", f_has_form), ("inner_params", f_inner_params), ("inner_end", f_inner_end), ("inner_names", f_inner_names), ("is_kind", f_is_kind), ("need_kind", f_need_kind), ("is_rising", f_is_rising), ("is_above", f_is_above), ("is_held", f_is_held), ("goes_up", f_goes_up), ("is_model", f_is_model), ("need_model", f_need_model), ("bearing", f_bearing), ("bears", f_bears), ("refutes", f_refutes), ("_law_begun", f__law_begun), ("_law_mixed", f__law_mixed), ("_law_take", f__law_take), ("_law_pick", f__law_pick), ("_law_shuffled", f__law_shuffled), ("_law_word", f__law_word), ("_law_words", f__law_words)] : List (Str × FD)) ++ ([("_law_params", f__law_params), ("_law_end", f__law_end), ("_law_places", f__law_places), ("_law_loose", f__law_loose), ("_law_order", f__law_order), ("_law_house", f__law_house), ("_law_bears", f__law_bears), ("law", f_law)] : List (Str × FD))
def x_is_number : DefX := ⟨mkD "is_number" 11, ["thing"], f_is_number⟩
def x_is_list : DefX := ⟨mkD "is_list" 12, ["thing"], f_is_list⟩
def x_is_name : DefX := ⟨mkD "is_name" 13, ["thing", "sign"], f_is_name⟩
def x_has_form : DefX := ⟨mkD "has_form" 14, ["thing", "deep", "item"], f_has_form⟩
def x_inner_params : DefX := ⟨mkD "inner_params" 15, ["kind"], f_inner_params⟩
def x_inner_end : DefX := ⟨mkD "inner_end" 16, ["kind"], f_inner_end⟩
def x_inner_names : DefX := ⟨mkD "inner_names" 17, ["kind", "item", "name"], f_inner_names⟩
def x_is_kind : DefX := ⟨mkD "is_kind" 18, ["thing"], f_is_kind⟩
def x_need_kind : DefX := ⟨mkD "need_kind" 19, ["kind"], f_need_kind⟩
def x_is_rising : DefX := ⟨mkD "is_rising" 22, ["thing", "one", "other"], f_is_rising⟩
def x_is_above : DefX := ⟨mkD "is_above" 23, ["many", "world", "thing", "item"], f_is_above⟩
def x_is_held : DefX := ⟨mkD "is_held" 24, ["thing", "item"], f_is_held⟩
def x_goes_up : DefX := ⟨mkD "goes_up" 25, ["model", "world", "higher", "above", "holds", "item", "name"], f_goes_up⟩
def x_is_model : DefX := ⟨mkD "is_model" 26, ["thing", "many", "world", "item", "at"], f_is_model⟩
def x_need_model : DefX := ⟨mkD "need_model" 27, ["model"], f_need_model⟩
def x_bearing : DefX := ⟨mkD "bearing" 28, ["model", "kind", "ends", "rows", "good", "param", "world", "above", "holds", "higher", "row"], f_bearing⟩
def x_bears : DefX := ⟨mkD "bears" 29, ["model", "world", "kind"], f_bears⟩
def x_refutes : DefX := ⟨mkD "refutes" 30, ["model", "kind"], f_refutes⟩
def x__law_begun : DefX := ⟨mkD "_law_begun" 32, ["_law_script", "_law_large", "_law_grain"], f__law_begun⟩
def x__law_mixed : DefX := ⟨mkD "_law_mixed" 33, ["_law_draw", "_law_prime", "_law_turn", "_law_found", "_law_blend", "_law_grain"], f__law_mixed⟩
def x__law_take : DefX := ⟨mkD "_law_take" 34, ["_law_draw", "_law_amount", "_law_found"], f__law_take⟩
def x__law_pick : DefX := ⟨mkD "_law_pick" 35, ["_law_draw", "_law_some"], f__law_pick⟩
def x__law_shuffled : DefX := ⟨mkD "_law_shuffled" 36, ["_law_draw", "_law_some", "_law_pool", "_law_found"], f__law_shuffled⟩
def x__law_word : DefX := ⟨mkD "_law_word" 37, ["_law_draw", "_law_turn", "_law_letters", "_law_found"], f__law_word⟩
def x__law_words : DefX := ⟨mkD "_law_words" 38, ["_law_draw", "_law_many", "_law_letters", "_law_turn"], f__law_words⟩
def x__law_params : DefX := ⟨mkD "_law_params" 39, ["_law_shape"], f__law_params⟩
def x__law_end : DefX := ⟨mkD "_law_end" 40, ["_law_shape"], f__law_end⟩
def x__law_places : DefX := ⟨mkD "_law_places" 41, ["_law_shape", "_law_found", "_law_part"], f__law_places⟩
def x__law_loose : DefX := ⟨mkD "_law_loose" 42, ["_law_draw", "_law_words_here", "_law_room", "_law_deep", "_law_turn", "_law_found", "_law_left"], f__law_loose⟩
def x__law_order : DefX := ⟨mkD "_law_order" 43, ["_law_draw", "_law_many", "_law_k", "_law_row_here", "_law_above", "_law_found", "_law_j"], f__law_order⟩
def x__law_house : DefX := ⟨mkD "_law_house" 44, ["_law_draw", "_law_words_here", "_law_above", "_law_begun_here", "_law_found", "_law_k", "_law_below", "_law_holds", "_law_j", "_law_each"], f__law_house⟩
def x__law_bears : DefX := ⟨mkD "_law_bears" 45, ["_law_house_here", "_law_k", "_law_shape", "_law_j", "_law_is_full", "_law_side"], f__law_bears⟩
def x_law : DefX := ⟨mkD "law" 46, ["_law_script", "_law_draw", "_law_turn", "_law_words_here", "_law_house_here", "_law_shown", "_law_lap", "_law_shape", "_law_dues", "_law_k", "_law_spots", "_law_j"], f_law⟩
def defs : List DefX := ([x_is_number, x_is_list, x_is_name, x_has_form, x_inner_params, x_inner_end, x_inner_names, x_is_kind, x_need_kind, x_is_rising, x_is_above, x_is_held, x_goes_up, x_is_model, x_need_model, x_bearing, x_bears, x_refutes, x__law_begun, x__law_mixed, x__law_take, x__law_pick, x__law_shuffled, x__law_word, x__law_words] : List DefX) ++ ([x__law_params, x__law_end, x__law_places, x__law_loose, x__law_order, x__law_house, x__law_bears, x_law] : List DefX)
theorem law_in : x_law ∈ defs := List.mem_iff_getElem?.mpr ⟨32, rfl⟩
def k_is_number : Kws := []
def k_is_list : Kws := []
def k_is_name : Kws := []
def k_has_form : Kws := []
def k_inner_params : Kws := []
def k_inner_end : Kws := []
def k_inner_names : Kws := []
def k_is_kind : Kws := []
def k_need_kind : Kws := []
def k_is_rising : Kws := []
def k_is_above : Kws := []
def k_is_held : Kws := []
def k_goes_up : Kws := []
def k_is_model : Kws := []
def k_need_model : Kws := []
def k_bearing : Kws := []
def k_bears : Kws := [(0, ["kind", "world", "model"], ["model", "world", "kind"])]
def k_refutes : Kws := [(0, ["kind", "model"], ["model", "kind"])]
def k__law_begun : Kws := []
def k__law_mixed : Kws := []
def k__law_take : Kws := []
def k__law_pick : Kws := []
def k__law_shuffled : Kws := []
def k__law_word : Kws := []
def k__law_words : Kws := []
def k__law_params : Kws := []
def k__law_end : Kws := []
def k__law_places : Kws := []
def k__law_loose : Kws := []
def k__law_order : Kws := []
def k__law_house : Kws := []
def k__law_bears : Kws := []
def k_law : Kws := []
def kws : List Kws := ([k_is_number, k_is_list, k_is_name, k_has_form, k_inner_params, k_inner_end, k_inner_names, k_is_kind, k_need_kind, k_is_rising, k_is_above, k_is_held, k_goes_up, k_is_model, k_need_model, k_bearing, k_bears, k_refutes, k__law_begun, k__law_mixed, k__law_take, k__law_pick, k__law_shuffled, k__law_word, k__law_words] : List Kws) ++ ([k__law_params, k__law_end, k__law_places, k__law_loose, k__law_order, k__law_house, k__law_bears, k_law] : List Kws)
def sc : SC where
  N := []
  sc := defScope (top 0)
  fn := fun _ => true
  free := (["ValueError", "isinstance", "str", "tuple", "all", "len", "range", "int", "list", "max", "repr", "bool", "abs", "sorted", "min", "zip", "set", "enumerate"] : List Str)
  con := [("LETTERS", D.str "abcdefghijklmnopqrstuvwxyz"), ("LONGEST", D.int 3), ("MOST_ITEMS", D.int 8), ("MOST_DEEP", D.int 4), ("MOST_PLACES", D.int 14), ("MOST_WORLDS", D.int 100)]
  tab := tabOf defs
  exc := ["BadKind", "BadModel", "BadWorld"]
  kwp := kwpOf ((defs.zip kws).map fun p => (p.1.dd.name, p.2))
theorem ok_is_number : defB sc x_is_number = true := by kernel_rfl
theorem ok_is_list : defB sc x_is_list = true := by kernel_rfl
theorem ok_is_name : defB sc x_is_name = true := by kernel_rfl
theorem ok_has_form : defB sc x_has_form = true := by kernel_rfl
theorem ok_inner_params : defB sc x_inner_params = true := by kernel_rfl
theorem ok_inner_end : defB sc x_inner_end = true := by kernel_rfl
theorem ok_inner_names : defB sc x_inner_names = true := by kernel_rfl
theorem ok_is_kind : defB sc x_is_kind = true := by kernel_rfl
theorem ok_need_kind : defB sc x_need_kind = true := by kernel_rfl
theorem ok_is_rising : defB sc x_is_rising = true := by kernel_rfl
theorem ok_is_above : defB sc x_is_above = true := by kernel_rfl
theorem ok_is_held : defB sc x_is_held = true := by kernel_rfl
theorem ok_goes_up : defB sc x_goes_up = true := by kernel_rfl
theorem ok_is_model : defB sc x_is_model = true := by kernel_rfl
theorem ok_need_model : defB sc x_need_model = true := by kernel_rfl
theorem ok_bearing : defB sc x_bearing = true := by kernel_rfl
theorem ok_bears : defB sc x_bears = true := by kernel_rfl
theorem ok_refutes : defB sc x_refutes = true := by kernel_rfl
theorem ok__law_begun : defB sc x__law_begun = true := by kernel_rfl
theorem ok__law_mixed : defB sc x__law_mixed = true := by kernel_rfl
theorem ok__law_take : defB sc x__law_take = true := by kernel_rfl
theorem ok__law_pick : defB sc x__law_pick = true := by kernel_rfl
theorem ok__law_shuffled : defB sc x__law_shuffled = true := by kernel_rfl
theorem ok__law_word : defB sc x__law_word = true := by kernel_rfl
theorem ok__law_words : defB sc x__law_words = true := by kernel_rfl
theorem ok__law_params : defB sc x__law_params = true := by kernel_rfl
theorem ok__law_end : defB sc x__law_end = true := by kernel_rfl
theorem ok__law_places : defB sc x__law_places = true := by kernel_rfl
theorem ok__law_loose : defB sc x__law_loose = true := by kernel_rfl
theorem ok__law_order : defB sc x__law_order = true := by kernel_rfl
theorem ok__law_house : defB sc x__law_house = true := by kernel_rfl
theorem ok__law_bears : defB sc x__law_bears = true := by kernel_rfl
theorem ok_law : defB sc x_law = true := by kernel_rfl
theorem oks : ∀ d ∈ defs, defB sc d = true := by
  show ∀ d ∈ (x_is_number :: x_is_list :: x_is_name :: x_has_form :: x_inner_params :: x_inner_end :: x_inner_names :: x_is_kind :: x_need_kind :: x_is_rising :: x_is_above :: x_is_held :: x_goes_up :: x_is_model :: x_need_model :: x_bearing :: x_bears :: x_refutes :: x__law_begun :: x__law_mixed :: x__law_take :: x__law_pick :: x__law_shuffled :: x__law_word :: x__law_words :: x__law_params :: x__law_end :: x__law_places :: x__law_loose :: x__law_order :: x__law_house :: x__law_bears :: x_law :: []), defB sc d = true
  exact List.forall_mem_cons.mpr ⟨ok_is_number, List.forall_mem_cons.mpr ⟨ok_is_list, List.forall_mem_cons.mpr ⟨ok_is_name, List.forall_mem_cons.mpr ⟨ok_has_form, List.forall_mem_cons.mpr ⟨ok_inner_params, List.forall_mem_cons.mpr ⟨ok_inner_end, List.forall_mem_cons.mpr ⟨ok_inner_names, List.forall_mem_cons.mpr ⟨ok_is_kind, List.forall_mem_cons.mpr ⟨ok_need_kind, List.forall_mem_cons.mpr ⟨ok_is_rising, List.forall_mem_cons.mpr ⟨ok_is_above, List.forall_mem_cons.mpr ⟨ok_is_held, List.forall_mem_cons.mpr ⟨ok_goes_up, List.forall_mem_cons.mpr ⟨ok_is_model, List.forall_mem_cons.mpr ⟨ok_need_model, List.forall_mem_cons.mpr ⟨ok_bearing, List.forall_mem_cons.mpr ⟨ok_bears, List.forall_mem_cons.mpr ⟨ok_refutes, List.forall_mem_cons.mpr ⟨ok__law_begun, List.forall_mem_cons.mpr ⟨ok__law_mixed, List.forall_mem_cons.mpr ⟨ok__law_take, List.forall_mem_cons.mpr ⟨ok__law_pick, List.forall_mem_cons.mpr ⟨ok__law_shuffled, List.forall_mem_cons.mpr ⟨ok__law_word, List.forall_mem_cons.mpr ⟨ok__law_words, List.forall_mem_cons.mpr ⟨ok__law_params, List.forall_mem_cons.mpr ⟨ok__law_end, List.forall_mem_cons.mpr ⟨ok__law_places, List.forall_mem_cons.mpr ⟨ok__law_loose, List.forall_mem_cons.mpr ⟨ok__law_order, List.forall_mem_cons.mpr ⟨ok__law_house, List.forall_mem_cons.mpr ⟨ok__law_bears, List.forall_mem_cons.mpr ⟨ok_law, fun _ h => nomatch h⟩⟩⟩⟩⟩⟩⟩⟩⟩⟩⟩⟩⟩⟩⟩⟩⟩⟩⟩⟩⟩⟩⟩⟩⟩⟩⟩⟩⟩⟩⟩⟩⟩
theorem b_is_number : BindOk x_is_number k_is_number := ⟨fun _ _ _ _ _ _ us hl => match us, hl with | [_], _ => rfl, fun q hq => nomatch hq⟩
theorem b_is_list : BindOk x_is_list k_is_list := ⟨fun _ _ _ _ _ _ us hl => match us, hl with | [_], _ => rfl, fun q hq => nomatch hq⟩
theorem b_is_name : BindOk x_is_name k_is_name := ⟨fun _ _ _ _ _ _ us hl => match us, hl with | [_], _ => rfl, fun q hq => nomatch hq⟩
theorem b_has_form : BindOk x_has_form k_has_form := ⟨fun _ _ _ _ _ _ us hl => match us, hl with | [_, _], _ => rfl, fun q hq => nomatch hq⟩
theorem b_inner_params : BindOk x_inner_params k_inner_params := ⟨fun _ _ _ _ _ _ us hl => match us, hl with | [_], _ => rfl, fun q hq => nomatch hq⟩
theorem b_inner_end : BindOk x_inner_end k_inner_end := ⟨fun _ _ _ _ _ _ us hl => match us, hl with | [_], _ => rfl, fun q hq => nomatch hq⟩
theorem b_inner_names : BindOk x_inner_names k_inner_names := ⟨fun _ _ _ _ _ _ us hl => match us, hl with | [_], _ => rfl, fun q hq => nomatch hq⟩
theorem b_is_kind : BindOk x_is_kind k_is_kind := ⟨fun _ _ _ _ _ _ us hl => match us, hl with | [_], _ => rfl, fun q hq => nomatch hq⟩
theorem b_need_kind : BindOk x_need_kind k_need_kind := ⟨fun _ _ _ _ _ _ us hl => match us, hl with | [_], _ => rfl, fun q hq => nomatch hq⟩
theorem b_is_rising : BindOk x_is_rising k_is_rising := ⟨fun _ _ _ _ _ _ us hl => match us, hl with | [_], _ => rfl, fun q hq => nomatch hq⟩
theorem b_is_above : BindOk x_is_above k_is_above := ⟨fun _ _ _ _ _ _ us hl => match us, hl with | [_, _, _], _ => rfl, fun q hq => nomatch hq⟩
theorem b_is_held : BindOk x_is_held k_is_held := ⟨fun _ _ _ _ _ _ us hl => match us, hl with | [_], _ => rfl, fun q hq => nomatch hq⟩
theorem b_goes_up : BindOk x_goes_up k_goes_up := ⟨fun _ _ _ _ _ _ us hl => match us, hl with | [_, _], _ => rfl, fun q hq => nomatch hq⟩
theorem b_is_model : BindOk x_is_model k_is_model := ⟨fun _ _ _ _ _ _ us hl => match us, hl with | [_], _ => rfl, fun q hq => nomatch hq⟩
theorem b_need_model : BindOk x_need_model k_need_model := ⟨fun _ _ _ _ _ _ us hl => match us, hl with | [_], _ => rfl, fun q hq => nomatch hq⟩
theorem b_bearing : BindOk x_bearing k_bearing := ⟨fun _ _ _ _ _ _ us hl => match us, hl with | [_, _], _ => rfl, fun q hq => nomatch hq⟩
theorem b_bears : BindOk x_bears k_bears := ⟨fun _ _ _ _ _ _ us hl => match us, hl with | [_, _, _], _ => rfl, List.forall_mem_cons.mpr ⟨⟨rfl, by decide, fun _ _ _ _ _ _ us ws h1 h2 => match us, ws, h1, h2 with | [], [_, _, _], _, _ => rfl⟩, fun _ h => nomatch h⟩⟩
theorem b_refutes : BindOk x_refutes k_refutes := ⟨fun _ _ _ _ _ _ us hl => match us, hl with | [_, _], _ => rfl, List.forall_mem_cons.mpr ⟨⟨rfl, by decide, fun _ _ _ _ _ _ us ws h1 h2 => match us, ws, h1, h2 with | [], [_, _], _, _ => rfl⟩, fun _ h => nomatch h⟩⟩
theorem b__law_begun : BindOk x__law_begun k__law_begun := ⟨fun _ _ _ _ _ _ us hl => match us, hl with | [_], _ => rfl, fun q hq => nomatch hq⟩
theorem b__law_mixed : BindOk x__law_mixed k__law_mixed := ⟨fun _ _ _ _ _ _ us hl => match us, hl with | [_], _ => rfl, fun q hq => nomatch hq⟩
theorem b__law_take : BindOk x__law_take k__law_take := ⟨fun _ _ _ _ _ _ us hl => match us, hl with | [_, _], _ => rfl, fun q hq => nomatch hq⟩
theorem b__law_pick : BindOk x__law_pick k__law_pick := ⟨fun _ _ _ _ _ _ us hl => match us, hl with | [_, _], _ => rfl, fun q hq => nomatch hq⟩
theorem b__law_shuffled : BindOk x__law_shuffled k__law_shuffled := ⟨fun _ _ _ _ _ _ us hl => match us, hl with | [_, _], _ => rfl, fun q hq => nomatch hq⟩
theorem b__law_word : BindOk x__law_word k__law_word := ⟨fun _ _ _ _ _ _ us hl => match us, hl with | [_], _ => rfl, fun q hq => nomatch hq⟩
theorem b__law_words : BindOk x__law_words k__law_words := ⟨fun _ _ _ _ _ _ us hl => match us, hl with | [_], _ => rfl, fun q hq => nomatch hq⟩
theorem b__law_params : BindOk x__law_params k__law_params := ⟨fun _ _ _ _ _ _ us hl => match us, hl with | [_], _ => rfl, fun q hq => nomatch hq⟩
theorem b__law_end : BindOk x__law_end k__law_end := ⟨fun _ _ _ _ _ _ us hl => match us, hl with | [_], _ => rfl, fun q hq => nomatch hq⟩
theorem b__law_places : BindOk x__law_places k__law_places := ⟨fun _ _ _ _ _ _ us hl => match us, hl with | [_], _ => rfl, fun q hq => nomatch hq⟩
theorem b__law_loose : BindOk x__law_loose k__law_loose := ⟨fun _ _ _ _ _ _ us hl => match us, hl with | [_, _, _, _], _ => rfl, fun q hq => nomatch hq⟩
theorem b__law_order : BindOk x__law_order k__law_order := ⟨fun _ _ _ _ _ _ us hl => match us, hl with | [_, _], _ => rfl, fun q hq => nomatch hq⟩
theorem b__law_house : BindOk x__law_house k__law_house := ⟨fun _ _ _ _ _ _ us hl => match us, hl with | [_, _], _ => rfl, fun q hq => nomatch hq⟩
theorem b__law_bears : BindOk x__law_bears k__law_bears := ⟨fun _ _ _ _ _ _ us hl => match us, hl with | [_, _, _], _ => rfl, fun q hq => nomatch hq⟩
theorem b_law : BindOk x_law k_law := ⟨fun _ _ _ _ _ _ us hl => match us, hl with | [_], _ => rfl, fun q hq => nomatch hq⟩
theorem bnds : ∀ p ∈ defs.zip kws, BindOk p.1 p.2 := by
  show ∀ p ∈ ((x_is_number, k_is_number) :: (x_is_list, k_is_list) :: (x_is_name, k_is_name) :: (x_has_form, k_has_form) :: (x_inner_params, k_inner_params) :: (x_inner_end, k_inner_end) :: (x_inner_names, k_inner_names) :: (x_is_kind, k_is_kind) :: (x_need_kind, k_need_kind) :: (x_is_rising, k_is_rising) :: (x_is_above, k_is_above) :: (x_is_held, k_is_held) :: (x_goes_up, k_goes_up) :: (x_is_model, k_is_model) :: (x_need_model, k_need_model) :: (x_bearing, k_bearing) :: (x_bears, k_bears) :: (x_refutes, k_refutes) :: (x__law_begun, k__law_begun) :: (x__law_mixed, k__law_mixed) :: (x__law_take, k__law_take) :: (x__law_pick, k__law_pick) :: (x__law_shuffled, k__law_shuffled) :: (x__law_word, k__law_word) :: (x__law_words, k__law_words) :: (x__law_params, k__law_params) :: (x__law_end, k__law_end) :: (x__law_places, k__law_places) :: (x__law_loose, k__law_loose) :: (x__law_order, k__law_order) :: (x__law_house, k__law_house) :: (x__law_bears, k__law_bears) :: (x_law, k_law) :: []), BindOk p.1 p.2
  exact List.forall_mem_cons.mpr ⟨b_is_number, List.forall_mem_cons.mpr ⟨b_is_list, List.forall_mem_cons.mpr ⟨b_is_name, List.forall_mem_cons.mpr ⟨b_has_form, List.forall_mem_cons.mpr ⟨b_inner_params, List.forall_mem_cons.mpr ⟨b_inner_end, List.forall_mem_cons.mpr ⟨b_inner_names, List.forall_mem_cons.mpr ⟨b_is_kind, List.forall_mem_cons.mpr ⟨b_need_kind, List.forall_mem_cons.mpr ⟨b_is_rising, List.forall_mem_cons.mpr ⟨b_is_above, List.forall_mem_cons.mpr ⟨b_is_held, List.forall_mem_cons.mpr ⟨b_goes_up, List.forall_mem_cons.mpr ⟨b_is_model, List.forall_mem_cons.mpr ⟨b_need_model, List.forall_mem_cons.mpr ⟨b_bearing, List.forall_mem_cons.mpr ⟨b_bears, List.forall_mem_cons.mpr ⟨b_refutes, List.forall_mem_cons.mpr ⟨b__law_begun, List.forall_mem_cons.mpr ⟨b__law_mixed, List.forall_mem_cons.mpr ⟨b__law_take, List.forall_mem_cons.mpr ⟨b__law_pick, List.forall_mem_cons.mpr ⟨b__law_shuffled, List.forall_mem_cons.mpr ⟨b__law_word, List.forall_mem_cons.mpr ⟨b__law_words, List.forall_mem_cons.mpr ⟨b__law_params, List.forall_mem_cons.mpr ⟨b__law_end, List.forall_mem_cons.mpr ⟨b__law_places, List.forall_mem_cons.mpr ⟨b__law_loose, List.forall_mem_cons.mpr ⟨b__law_order, List.forall_mem_cons.mpr ⟨b__law_house, List.forall_mem_cons.mpr ⟨b__law_bears, List.forall_mem_cons.mpr ⟨b_law, fun _ h => nomatch h⟩⟩⟩⟩⟩⟩⟩⟩⟩⟩⟩⟩⟩⟩⟩⟩⟩⟩⟩⟩⟩⟩⟩⟩⟩⟩⟩⟩⟩⟩⟩⟩⟩
theorem heads : headB fa sc defs kws = true := by kernel_rfl
end PiLaw
namespace PiLaw
open PySem Pi
def PureLaw : Prop := ∀ ns : List Int, ns.length ≤ 63 → wC (tabOf defs) 75 "law" [.fls (ns.map D.int)] (fun _ => none) (fun z _ => z = .bl true) XF
end PiLaw
section
open PySem PySem.W PySem.Calls PyProof.Rows
theorem PiLaw.law_of (hp : PiLaw.PureLaw) : PySem.Challenge.rw_typetells_k22_what_worlds_bear.Holds := by
  w_on; o_law
  refine HandSHeadRun.head_any (r := OpenLaw.row PySem.Challenge.rw_typetells_k22_what_worlds_bear) (q := view (OpenLaw.row PySem.Challenge.rw_typetells_k22_what_worlds_bear).prog [46]) (H := PiLaw.hk) (ob := PiLaw.ob) (M := 4000) (loose := PiLaw.names) (d := HandSHeadRun.topDef (OpenLaw.row PySem.Challenge.rw_typetells_k22_what_worlds_bear).prog 46) (kwd := []) PiLaw.ob_eq
    (by kernel_rfl) (fun s => by kernel_rfl) PiLaw.run (by kernel_rfl) (by kernel_rfl) (by kernel_rfl) (by rfl) (by first | assumption | decide +kernel) (by decide +kernel) ⟨rfl, rfl, rfl, rfl, rfl, by decide +kernel⟩ ?hw ?hc
  case hw => w_witness2
  case hc =>
    refine Pi.law_end (l := PySem.Challenge.rw_typetells_k22_what_worlds_bear) (n := 63) (k := 75) (x := "_law_script") rfl (by decide) (by kernel_rfl) ⟨rfl, by decide, by decide⟩ PiLaw.sc PiLaw.defs PiLaw.x_law PiLaw.law_in (by kernel_rfl) rfl (by kernel_rfl) rfl PiLaw.oks
      (fun w mg h Y G => ?_) ?_
    · obtain ⟨K, KX, c⟩ := Y
      exact ⟨K, KX, Pi.facts_of KX G c rfl (more := PiLaw.more) rfl rfl PiLaw.heads PiLaw.bnds rfl Pi.errF_nil rfl⟩
    · exact hp
end
namespace PiLaw
open PySem Pi
local macro_rules
  | `(tactic| push_cast) => `(tactic| try simp (maxSteps := 2000000) only [startF, wSs, wS, wE, wL, wO, wB, wI, Pi.x_add, Pi.x_adds, Pi.x_addl, Pi.x_addt, Pi.x_sub, Pi.x_mul, Pi.x_mult, Pi.x_mull, Pi.x_muls, Pi.x_fdv, Pi.x_mod, Pi.x_pow, Pi.x_auga, Pi.x_augs, Pi.x_augm, Pi.x_eqi, Pi.x_eqs, Pi.x_eqb, Pi.x_nei, Pi.x_nes, Pi.x_neb, Pi.x_eqtt, Pi.x_eqrr, Pi.x_eqtr, Pi.x_eqrt, Pi.x_eqst, Pi.x_eqts, Pi.x_nett, Pi.x_nerr, Pi.x_netr, Pi.x_nert, Pi.x_nest, Pi.x_nets, Pi.x_lt, Pi.x_lttt, Pi.x_le, Pi.x_gt, Pi.x_ge, Pi.x_ins, Pi.x_itup, Pi.x_nitup, Pi.x_isn, Pi.x_isnt, Pi.x_ixt, Pi.x_ixl, Pi.x_ixd, Pi.x_ixs, Pi.x_slt, Pi.x_sll, Pi.x_sls, Pi.x_std, Pi.x_stl, Pi.x_isin, Pi.x_isis, Pi.x_isit, Pi.x_isii, Pi.x_isib, Pi.x_lens, Pi.x_lent, Pi.x_lenf, Pi.x_lenl, Pi.x_inti, Pi.x_intb, Pi.x_abs, Pi.x_max2, Pi.x_min2, Pi.x_maxl, Pi.x_minl, Pi.x_mxd, Pi.x_tupl, Pi.x_tupt, Pi.x_lisl, Pi.x_list, Pi.x_liss, Pi.x_all, Pi.x_any, Pi.x_sum, Pi.x_repr, Pi.x_app, Pi.x_ext, Pi.x_pop, Pi.x_popa, Pi.x_join, Pi.x_rcva, Pi.x_rcve, Pi.x_rcvp, Pi.x_rcvq, Pi.x_rcvi, Pi.x_rcvc, Pi.x_idxl, Pi.x_rcvj, Pi.x_srct, Pi.x_srcf, Pi.x_srcs, Pi.x_srcl, Pi.x_seqt, Pi.x_seql, Pi.x_enu, Pi.x_enut, Pi.x_zipl, Pi.x_zipm, Pi.x_zipt, Pi.x_rng1, Pi.x_rng2, Pi.x_dctl, Pi.x_idn, Pi.x_dnit, Pi.x_dnnt, Pi.x_rgl, Pi.x_rgt, Pi.x_dni, Pi.x_dnn, Pi.x_stn, Pi.x_gtn1, Pi.x_gtn2, Pi.x_isdn, Pi.x_lenD, Pi.x_listD, Pi.x_rev, Pi.x_vls, Pi.x_dic, Pi.x_exn, Pi.x_exn0, Pi.x_ison, Pi.x_isoe, Pi.x_nexc, Pi.x_nnon, Pi.x_nint, Pi.x_nstr, Pi.x_ntup, Pi.x_nref, Pi.x_nbl, Pi.x_tg1, Pi.x_tgt, Pi.x_tgl, Pi.x_var, Pi.x_put, Pi.x_ex, Pi.x_exv, Pi.x_exl, Pi.x_exl0, Pi.x_exd, Pi.x_exb, Pi.x_exi, Pi.x_dec, Pi.x_decf, Pi.x_ndec, Pi.x_ndecf, Pi.x_ty_str_str, Pi.x_ty_str_tuple, Pi.x_ty_str_int, Pi.x_ty_str_bool, Pi.x_ty_str_list, Pi.x_ty_str_dict, Pi.x_ty_str_list_tuple, Pi.x_ty_str_tuple_list, Pi.x_ty_str_str_tuple, Pi.x_ty_str_tuple_str, Pi.x_ty_str_int_bool, Pi.x_ty_str_bool_int, Pi.x_ty_str_str_int, Pi.x_ty_str_int_str, Pi.x_ty_tuple_str, Pi.x_ty_tuple_tuple, Pi.x_ty_tuple_int, Pi.x_ty_tuple_bool, Pi.x_ty_tuple_list, Pi.x_ty_tuple_dict, Pi.x_ty_tuple_list_tuple, Pi.x_ty_tuple_tuple_list, Pi.x_ty_tuple_str_tuple, Pi.x_ty_tuple_tuple_str, Pi.x_ty_tuple_int_bool, Pi.x_ty_tuple_bool_int, Pi.x_ty_tuple_str_int, Pi.x_ty_tuple_int_str, Pi.x_ty_int_str, Pi.x_ty_int_tuple, Pi.x_ty_int_int, Pi.x_ty_int_bool, Pi.x_ty_int_list, Pi.x_ty_int_dict, Pi.x_ty_int_list_tuple, Pi.x_ty_int_tuple_list, Pi.x_ty_int_str_tuple, Pi.x_ty_int_tuple_str, Pi.x_ty_int_int_bool, Pi.x_ty_int_bool_int, Pi.x_ty_int_str_int, Pi.x_ty_int_int_str, Pi.x_ty_bool_str, Pi.x_ty_bool_tuple, Pi.x_ty_bool_int, Pi.x_ty_bool_bool, Pi.x_ty_bool_list, Pi.x_ty_bool_dict, Pi.x_ty_bool_list_tuple, Pi.x_ty_bool_tuple_list, Pi.x_ty_bool_str_tuple, Pi.x_ty_bool_tuple_str, Pi.x_ty_bool_int_bool, Pi.x_ty_bool_bool_int, Pi.x_ty_bool_str_int, Pi.x_ty_bool_int_str, Pi.x_ty_list_str, Pi.x_ty_list_tuple, Pi.x_ty_list_int, Pi.x_ty_list_bool, Pi.x_ty_list_list, Pi.x_ty_list_dict, Pi.x_ty_list_list_tuple, Pi.x_ty_list_tuple_list, Pi.x_ty_list_str_tuple, Pi.x_ty_list_tuple_str, Pi.x_ty_list_int_bool, Pi.x_ty_list_bool_int, Pi.x_ty_list_str_int, Pi.x_ty_list_int_str, Pi.x_ty_dict_str, Pi.x_ty_dict_tuple, Pi.x_ty_dict_int, Pi.x_ty_dict_bool, Pi.x_ty_dict_list, Pi.x_ty_dict_dict, Pi.x_ty_dict_list_tuple, Pi.x_ty_dict_tuple_list, Pi.x_ty_dict_str_tuple, Pi.x_ty_dict_tuple_str, Pi.x_ty_dict_int_bool, Pi.x_ty_dict_bool_int, Pi.x_ty_dict_str_int, Pi.x_ty_dict_int_str, Pi.x_puto, Pi.x_puto', List.map_cons, List.map_nil, List.length_cons, List.length_nil, List.cons_append, List.nil_append, List.replicate, Nat.sub_zero, Nat.sub_self, Nat.zero_add, Nat.reduceAdd, Nat.reduceSub, List.getElem?_cons_zero, List.getElem?_cons_succ, List.set_cons_zero, List.set_cons_succ, setF, wipeF, true_and, and_true, if_true, if_false, Bool.true_eq_false, Bool.false_eq_true, ite_true, ite_false, reduceIte, not_true_eq_false, not_false_eq_true, Bool.not_true, Bool.not_false, exists_eq_left', exists_const, ne_eq])
local macro_rules
  | `(tactic| push_cast [$xs,*]) => `(tactic| try simp (maxSteps := 2000000) only [startF, wSs, wS, wE, wL, wO, wB, wI, Pi.x_add, Pi.x_adds, Pi.x_addl, Pi.x_addt, Pi.x_sub, Pi.x_mul, Pi.x_mult, Pi.x_mull, Pi.x_muls, Pi.x_fdv, Pi.x_mod, Pi.x_pow, Pi.x_auga, Pi.x_augs, Pi.x_augm, Pi.x_eqi, Pi.x_eqs, Pi.x_eqb, Pi.x_nei, Pi.x_nes, Pi.x_neb, Pi.x_eqtt, Pi.x_eqrr, Pi.x_eqtr, Pi.x_eqrt, Pi.x_eqst, Pi.x_eqts, Pi.x_nett, Pi.x_nerr, Pi.x_netr, Pi.x_nert, Pi.x_nest, Pi.x_nets, Pi.x_lt, Pi.x_lttt, Pi.x_le, Pi.x_gt, Pi.x_ge, Pi.x_ins, Pi.x_itup, Pi.x_nitup, Pi.x_isn, Pi.x_isnt, Pi.x_ixt, Pi.x_ixl, Pi.x_ixd, Pi.x_ixs, Pi.x_slt, Pi.x_sll, Pi.x_sls, Pi.x_std, Pi.x_stl, Pi.x_isin, Pi.x_isis, Pi.x_isit, Pi.x_isii, Pi.x_isib, Pi.x_lens, Pi.x_lent, Pi.x_lenf, Pi.x_lenl, Pi.x_inti, Pi.x_intb, Pi.x_abs, Pi.x_max2, Pi.x_min2, Pi.x_maxl, Pi.x_minl, Pi.x_mxd, Pi.x_tupl, Pi.x_tupt, Pi.x_lisl, Pi.x_list, Pi.x_liss, Pi.x_all, Pi.x_any, Pi.x_sum, Pi.x_repr, Pi.x_app, Pi.x_ext, Pi.x_pop, Pi.x_popa, Pi.x_join, Pi.x_rcva, Pi.x_rcve, Pi.x_rcvp, Pi.x_rcvq, Pi.x_rcvi, Pi.x_rcvc, Pi.x_idxl, Pi.x_rcvj, Pi.x_srct, Pi.x_srcf, Pi.x_srcs, Pi.x_srcl, Pi.x_seqt, Pi.x_seql, Pi.x_enu, Pi.x_enut, Pi.x_zipl, Pi.x_zipm, Pi.x_zipt, Pi.x_rng1, Pi.x_rng2, Pi.x_dctl, Pi.x_idn, Pi.x_dnit, Pi.x_dnnt, Pi.x_rgl, Pi.x_rgt, Pi.x_dni, Pi.x_dnn, Pi.x_stn, Pi.x_gtn1, Pi.x_gtn2, Pi.x_isdn, Pi.x_lenD, Pi.x_listD, Pi.x_rev, Pi.x_vls, Pi.x_dic, Pi.x_exn, Pi.x_exn0, Pi.x_ison, Pi.x_isoe, Pi.x_nexc, Pi.x_nnon, Pi.x_nint, Pi.x_nstr, Pi.x_ntup, Pi.x_nref, Pi.x_nbl, Pi.x_tg1, Pi.x_tgt, Pi.x_tgl, Pi.x_var, Pi.x_put, Pi.x_ex, Pi.x_exv, Pi.x_exl, Pi.x_exl0, Pi.x_exd, Pi.x_exb, Pi.x_exi, Pi.x_dec, Pi.x_decf, Pi.x_ndec, Pi.x_ndecf, Pi.x_ty_str_str, Pi.x_ty_str_tuple, Pi.x_ty_str_int, Pi.x_ty_str_bool, Pi.x_ty_str_list, Pi.x_ty_str_dict, Pi.x_ty_str_list_tuple, Pi.x_ty_str_tuple_list, Pi.x_ty_str_str_tuple, Pi.x_ty_str_tuple_str, Pi.x_ty_str_int_bool, Pi.x_ty_str_bool_int, Pi.x_ty_str_str_int, Pi.x_ty_str_int_str, Pi.x_ty_tuple_str, Pi.x_ty_tuple_tuple, Pi.x_ty_tuple_int, Pi.x_ty_tuple_bool, Pi.x_ty_tuple_list, Pi.x_ty_tuple_dict, Pi.x_ty_tuple_list_tuple, Pi.x_ty_tuple_tuple_list, Pi.x_ty_tuple_str_tuple, Pi.x_ty_tuple_tuple_str, Pi.x_ty_tuple_int_bool, Pi.x_ty_tuple_bool_int, Pi.x_ty_tuple_str_int, Pi.x_ty_tuple_int_str, Pi.x_ty_int_str, Pi.x_ty_int_tuple, Pi.x_ty_int_int, Pi.x_ty_int_bool, Pi.x_ty_int_list, Pi.x_ty_int_dict, Pi.x_ty_int_list_tuple, Pi.x_ty_int_tuple_list, Pi.x_ty_int_str_tuple, Pi.x_ty_int_tuple_str, Pi.x_ty_int_int_bool, Pi.x_ty_int_bool_int, Pi.x_ty_int_str_int, Pi.x_ty_int_int_str, Pi.x_ty_bool_str, Pi.x_ty_bool_tuple, Pi.x_ty_bool_int, Pi.x_ty_bool_bool, Pi.x_ty_bool_list, Pi.x_ty_bool_dict, Pi.x_ty_bool_list_tuple, Pi.x_ty_bool_tuple_list, Pi.x_ty_bool_str_tuple, Pi.x_ty_bool_tuple_str, Pi.x_ty_bool_int_bool, Pi.x_ty_bool_bool_int, Pi.x_ty_bool_str_int, Pi.x_ty_bool_int_str, Pi.x_ty_list_str, Pi.x_ty_list_tuple, Pi.x_ty_list_int, Pi.x_ty_list_bool, Pi.x_ty_list_list, Pi.x_ty_list_dict, Pi.x_ty_list_list_tuple, Pi.x_ty_list_tuple_list, Pi.x_ty_list_str_tuple, Pi.x_ty_list_tuple_str, Pi.x_ty_list_int_bool, Pi.x_ty_list_bool_int, Pi.x_ty_list_str_int, Pi.x_ty_list_int_str, Pi.x_ty_dict_str, Pi.x_ty_dict_tuple, Pi.x_ty_dict_int, Pi.x_ty_dict_bool, Pi.x_ty_dict_list, Pi.x_ty_dict_dict, Pi.x_ty_dict_list_tuple, Pi.x_ty_dict_tuple_list, Pi.x_ty_dict_str_tuple, Pi.x_ty_dict_tuple_str, Pi.x_ty_dict_int_bool, Pi.x_ty_dict_bool_int, Pi.x_ty_dict_str_int, Pi.x_ty_dict_int_str, Pi.x_puto, Pi.x_puto', List.map_cons, List.map_nil, List.length_cons, List.length_nil, List.cons_append, List.nil_append, List.replicate, Nat.sub_zero, Nat.sub_self, Nat.zero_add, Nat.reduceAdd, Nat.reduceSub, List.getElem?_cons_zero, List.getElem?_cons_succ, List.set_cons_zero, List.set_cons_succ, setF, wipeF, true_and, and_true, if_true, if_false, Bool.true_eq_false, Bool.false_eq_true, ite_true, ite_false, reduceIte, not_true_eq_false, not_false_eq_true, Bool.not_true, Bool.not_false, exists_eq_left', exists_const, ne_eq, $xs,*])
local macro_rules
  | `(tactic| push_cast at $h:ident) => `(tactic| try simp (maxSteps := 2000000) only [startF, wSs, wS, wE, wL, wO, wB, wI, Pi.x_add, Pi.x_adds, Pi.x_addl, Pi.x_addt, Pi.x_sub, Pi.x_mul, Pi.x_mult, Pi.x_mull, Pi.x_muls, Pi.x_fdv, Pi.x_mod, Pi.x_pow, Pi.x_auga, Pi.x_augs, Pi.x_augm, Pi.x_eqi, Pi.x_eqs, Pi.x_eqb, Pi.x_nei, Pi.x_nes, Pi.x_neb, Pi.x_eqtt, Pi.x_eqrr, Pi.x_eqtr, Pi.x_eqrt, Pi.x_eqst, Pi.x_eqts, Pi.x_nett, Pi.x_nerr, Pi.x_netr, Pi.x_nert, Pi.x_nest, Pi.x_nets, Pi.x_lt, Pi.x_lttt, Pi.x_le, Pi.x_gt, Pi.x_ge, Pi.x_ins, Pi.x_itup, Pi.x_nitup, Pi.x_isn, Pi.x_isnt, Pi.x_ixt, Pi.x_ixl, Pi.x_ixd, Pi.x_ixs, Pi.x_slt, Pi.x_sll, Pi.x_sls, Pi.x_std, Pi.x_stl, Pi.x_isin, Pi.x_isis, Pi.x_isit, Pi.x_isii, Pi.x_isib, Pi.x_lens, Pi.x_lent, Pi.x_lenf, Pi.x_lenl, Pi.x_inti, Pi.x_intb, Pi.x_abs, Pi.x_max2, Pi.x_min2, Pi.x_maxl, Pi.x_minl, Pi.x_mxd, Pi.x_tupl, Pi.x_tupt, Pi.x_lisl, Pi.x_list, Pi.x_liss, Pi.x_all, Pi.x_any, Pi.x_sum, Pi.x_repr, Pi.x_app, Pi.x_ext, Pi.x_pop, Pi.x_popa, Pi.x_join, Pi.x_rcva, Pi.x_rcve, Pi.x_rcvp, Pi.x_rcvq, Pi.x_rcvi, Pi.x_rcvc, Pi.x_idxl, Pi.x_rcvj, Pi.x_srct, Pi.x_srcf, Pi.x_srcs, Pi.x_srcl, Pi.x_seqt, Pi.x_seql, Pi.x_enu, Pi.x_enut, Pi.x_zipl, Pi.x_zipm, Pi.x_zipt, Pi.x_rng1, Pi.x_rng2, Pi.x_dctl, Pi.x_idn, Pi.x_dnit, Pi.x_dnnt, Pi.x_rgl, Pi.x_rgt, Pi.x_dni, Pi.x_dnn, Pi.x_stn, Pi.x_gtn1, Pi.x_gtn2, Pi.x_isdn, Pi.x_lenD, Pi.x_listD, Pi.x_rev, Pi.x_vls, Pi.x_dic, Pi.x_exn, Pi.x_exn0, Pi.x_ison, Pi.x_isoe, Pi.x_nexc, Pi.x_nnon, Pi.x_nint, Pi.x_nstr, Pi.x_ntup, Pi.x_nref, Pi.x_nbl, Pi.x_tg1, Pi.x_tgt, Pi.x_tgl, Pi.x_var, Pi.x_put, Pi.x_ex, Pi.x_exv, Pi.x_exl, Pi.x_exl0, Pi.x_exd, Pi.x_exb, Pi.x_exi, Pi.x_dec, Pi.x_decf, Pi.x_ndec, Pi.x_ndecf, Pi.x_ty_str_str, Pi.x_ty_str_tuple, Pi.x_ty_str_int, Pi.x_ty_str_bool, Pi.x_ty_str_list, Pi.x_ty_str_dict, Pi.x_ty_str_list_tuple, Pi.x_ty_str_tuple_list, Pi.x_ty_str_str_tuple, Pi.x_ty_str_tuple_str, Pi.x_ty_str_int_bool, Pi.x_ty_str_bool_int, Pi.x_ty_str_str_int, Pi.x_ty_str_int_str, Pi.x_ty_tuple_str, Pi.x_ty_tuple_tuple, Pi.x_ty_tuple_int, Pi.x_ty_tuple_bool, Pi.x_ty_tuple_list, Pi.x_ty_tuple_dict, Pi.x_ty_tuple_list_tuple, Pi.x_ty_tuple_tuple_list, Pi.x_ty_tuple_str_tuple, Pi.x_ty_tuple_tuple_str, Pi.x_ty_tuple_int_bool, Pi.x_ty_tuple_bool_int, Pi.x_ty_tuple_str_int, Pi.x_ty_tuple_int_str, Pi.x_ty_int_str, Pi.x_ty_int_tuple, Pi.x_ty_int_int, Pi.x_ty_int_bool, Pi.x_ty_int_list, Pi.x_ty_int_dict, Pi.x_ty_int_list_tuple, Pi.x_ty_int_tuple_list, Pi.x_ty_int_str_tuple, Pi.x_ty_int_tuple_str, Pi.x_ty_int_int_bool, Pi.x_ty_int_bool_int, Pi.x_ty_int_str_int, Pi.x_ty_int_int_str, Pi.x_ty_bool_str, Pi.x_ty_bool_tuple, Pi.x_ty_bool_int, Pi.x_ty_bool_bool, Pi.x_ty_bool_list, Pi.x_ty_bool_dict, Pi.x_ty_bool_list_tuple, Pi.x_ty_bool_tuple_list, Pi.x_ty_bool_str_tuple, Pi.x_ty_bool_tuple_str, Pi.x_ty_bool_int_bool, Pi.x_ty_bool_bool_int, Pi.x_ty_bool_str_int, Pi.x_ty_bool_int_str, Pi.x_ty_list_str, Pi.x_ty_list_tuple, Pi.x_ty_list_int, Pi.x_ty_list_bool, Pi.x_ty_list_list, Pi.x_ty_list_dict, Pi.x_ty_list_list_tuple, Pi.x_ty_list_tuple_list, Pi.x_ty_list_str_tuple, Pi.x_ty_list_tuple_str, Pi.x_ty_list_int_bool, Pi.x_ty_list_bool_int, Pi.x_ty_list_str_int, Pi.x_ty_list_int_str, Pi.x_ty_dict_str, Pi.x_ty_dict_tuple, Pi.x_ty_dict_int, Pi.x_ty_dict_bool, Pi.x_ty_dict_list, Pi.x_ty_dict_dict, Pi.x_ty_dict_list_tuple, Pi.x_ty_dict_tuple_list, Pi.x_ty_dict_str_tuple, Pi.x_ty_dict_tuple_str, Pi.x_ty_dict_int_bool, Pi.x_ty_dict_bool_int, Pi.x_ty_dict_str_int, Pi.x_ty_dict_int_str, Pi.x_puto, Pi.x_puto', List.map_cons, List.map_nil, List.length_cons, List.length_nil, List.cons_append, List.nil_append, List.replicate, Nat.sub_zero, Nat.sub_self, Nat.zero_add, Nat.reduceAdd, Nat.reduceSub, List.getElem?_cons_zero, List.getElem?_cons_succ, List.set_cons_zero, List.set_cons_succ, setF, wipeF, true_and, and_true, if_true, if_false, Bool.true_eq_false, Bool.false_eq_true, ite_true, ite_false, reduceIte, not_true_eq_false, not_false_eq_true, Bool.not_true, Bool.not_false, exists_eq_left', exists_const, ne_eq] at $h:ident)
local macro_rules
  | `(tactic| push_cast [$xs,*] at $h:ident) => `(tactic| try simp (maxSteps := 2000000) only [startF, wSs, wS, wE, wL, wO, wB, wI, Pi.x_add, Pi.x_adds, Pi.x_addl, Pi.x_addt, Pi.x_sub, Pi.x_mul, Pi.x_mult, Pi.x_mull, Pi.x_muls, Pi.x_fdv, Pi.x_mod, Pi.x_pow, Pi.x_auga, Pi.x_augs, Pi.x_augm, Pi.x_eqi, Pi.x_eqs, Pi.x_eqb, Pi.x_nei, Pi.x_nes, Pi.x_neb, Pi.x_eqtt, Pi.x_eqrr, Pi.x_eqtr, Pi.x_eqrt, Pi.x_eqst, Pi.x_eqts, Pi.x_nett, Pi.x_nerr, Pi.x_netr, Pi.x_nert, Pi.x_nest, Pi.x_nets, Pi.x_lt, Pi.x_lttt, Pi.x_le, Pi.x_gt, Pi.x_ge, Pi.x_ins, Pi.x_itup, Pi.x_nitup, Pi.x_isn, Pi.x_isnt, Pi.x_ixt, Pi.x_ixl, Pi.x_ixd, Pi.x_ixs, Pi.x_slt, Pi.x_sll, Pi.x_sls, Pi.x_std, Pi.x_stl, Pi.x_isin, Pi.x_isis, Pi.x_isit, Pi.x_isii, Pi.x_isib, Pi.x_lens, Pi.x_lent, Pi.x_lenf, Pi.x_lenl, Pi.x_inti, Pi.x_intb, Pi.x_abs, Pi.x_max2, Pi.x_min2, Pi.x_maxl, Pi.x_minl, Pi.x_mxd, Pi.x_tupl, Pi.x_tupt, Pi.x_lisl, Pi.x_list, Pi.x_liss, Pi.x_all, Pi.x_any, Pi.x_sum, Pi.x_repr, Pi.x_app, Pi.x_ext, Pi.x_pop, Pi.x_popa, Pi.x_join, Pi.x_rcva, Pi.x_rcve, Pi.x_rcvp, Pi.x_rcvq, Pi.x_rcvi, Pi.x_rcvc, Pi.x_idxl, Pi.x_rcvj, Pi.x_srct, Pi.x_srcf, Pi.x_srcs, Pi.x_srcl, Pi.x_seqt, Pi.x_seql, Pi.x_enu, Pi.x_enut, Pi.x_zipl, Pi.x_zipm, Pi.x_zipt, Pi.x_rng1, Pi.x_rng2, Pi.x_dctl, Pi.x_idn, Pi.x_dnit, Pi.x_dnnt, Pi.x_rgl, Pi.x_rgt, Pi.x_dni, Pi.x_dnn, Pi.x_stn, Pi.x_gtn1, Pi.x_gtn2, Pi.x_isdn, Pi.x_lenD, Pi.x_listD, Pi.x_rev, Pi.x_vls, Pi.x_dic, Pi.x_exn, Pi.x_exn0, Pi.x_ison, Pi.x_isoe, Pi.x_nexc, Pi.x_nnon, Pi.x_nint, Pi.x_nstr, Pi.x_ntup, Pi.x_nref, Pi.x_nbl, Pi.x_tg1, Pi.x_tgt, Pi.x_tgl, Pi.x_var, Pi.x_put, Pi.x_ex, Pi.x_exv, Pi.x_exl, Pi.x_exl0, Pi.x_exd, Pi.x_exb, Pi.x_exi, Pi.x_dec, Pi.x_decf, Pi.x_ndec, Pi.x_ndecf, Pi.x_ty_str_str, Pi.x_ty_str_tuple, Pi.x_ty_str_int, Pi.x_ty_str_bool, Pi.x_ty_str_list, Pi.x_ty_str_dict, Pi.x_ty_str_list_tuple, Pi.x_ty_str_tuple_list, Pi.x_ty_str_str_tuple, Pi.x_ty_str_tuple_str, Pi.x_ty_str_int_bool, Pi.x_ty_str_bool_int, Pi.x_ty_str_str_int, Pi.x_ty_str_int_str, Pi.x_ty_tuple_str, Pi.x_ty_tuple_tuple, Pi.x_ty_tuple_int, Pi.x_ty_tuple_bool, Pi.x_ty_tuple_list, Pi.x_ty_tuple_dict, Pi.x_ty_tuple_list_tuple, Pi.x_ty_tuple_tuple_list, Pi.x_ty_tuple_str_tuple, Pi.x_ty_tuple_tuple_str, Pi.x_ty_tuple_int_bool, Pi.x_ty_tuple_bool_int, Pi.x_ty_tuple_str_int, Pi.x_ty_tuple_int_str, Pi.x_ty_int_str, Pi.x_ty_int_tuple, Pi.x_ty_int_int, Pi.x_ty_int_bool, Pi.x_ty_int_list, Pi.x_ty_int_dict, Pi.x_ty_int_list_tuple, Pi.x_ty_int_tuple_list, Pi.x_ty_int_str_tuple, Pi.x_ty_int_tuple_str, Pi.x_ty_int_int_bool, Pi.x_ty_int_bool_int, Pi.x_ty_int_str_int, Pi.x_ty_int_int_str, Pi.x_ty_bool_str, Pi.x_ty_bool_tuple, Pi.x_ty_bool_int, Pi.x_ty_bool_bool, Pi.x_ty_bool_list, Pi.x_ty_bool_dict, Pi.x_ty_bool_list_tuple, Pi.x_ty_bool_tuple_list, Pi.x_ty_bool_str_tuple, Pi.x_ty_bool_tuple_str, Pi.x_ty_bool_int_bool, Pi.x_ty_bool_bool_int, Pi.x_ty_bool_str_int, Pi.x_ty_bool_int_str, Pi.x_ty_list_str, Pi.x_ty_list_tuple, Pi.x_ty_list_int, Pi.x_ty_list_bool, Pi.x_ty_list_list, Pi.x_ty_list_dict, Pi.x_ty_list_list_tuple, Pi.x_ty_list_tuple_list, Pi.x_ty_list_str_tuple, Pi.x_ty_list_tuple_str, Pi.x_ty_list_int_bool, Pi.x_ty_list_bool_int, Pi.x_ty_list_str_int, Pi.x_ty_list_int_str, Pi.x_ty_dict_str, Pi.x_ty_dict_tuple, Pi.x_ty_dict_int, Pi.x_ty_dict_bool, Pi.x_ty_dict_list, Pi.x_ty_dict_dict, Pi.x_ty_dict_list_tuple, Pi.x_ty_dict_tuple_list, Pi.x_ty_dict_str_tuple, Pi.x_ty_dict_tuple_str, Pi.x_ty_dict_int_bool, Pi.x_ty_dict_bool_int, Pi.x_ty_dict_str_int, Pi.x_ty_dict_int_str, Pi.x_puto, Pi.x_puto', List.map_cons, List.map_nil, List.length_cons, List.length_nil, List.cons_append, List.nil_append, List.replicate, Nat.sub_zero, Nat.sub_self, Nat.zero_add, Nat.reduceAdd, Nat.reduceSub, List.getElem?_cons_zero, List.getElem?_cons_succ, List.set_cons_zero, List.set_cons_succ, setF, wipeF, true_and, and_true, if_true, if_false, Bool.true_eq_false, Bool.false_eq_true, ite_true, ite_false, reduceIte, not_true_eq_false, not_false_eq_true, Bool.not_true, Bool.not_false, exists_eq_left', exists_const, ne_eq, $xs,*] at $h:ident)
/-! the draws -/
theorem wc {k : Nat} {f : Str} {fd : FD} {ds : List D} {S : Sto} {Q : KE} {E : XE} (h : tab.lookup f = some fd) (hl : ds.length = fd.ps.length) (hb : wSs (wC tab k) fd.body { nx := fun _ S' => Q .non S', rt := Q } (fun c a _ S' => E c a S') (startF fd.n ds) S) : wC tab (k + 1) f ds S Q E := ⟨fd, h, hl, hb⟩
abbrev iL (l : List Int) : List D := l.map D.int
def drw (l : Nat) (r : Int) (c : Nat) (t : Int) : List (Str × D) := [("large", .ref l), ("rest", .int r), ("cells", .ref c), ("turn", .int t)]
theorem drw_l {l c : Nat} {r t : Int} : getK (drw l r c t) "large" = some (.ref l) := rfl
theorem drw_r {l c : Nat} {r t : Int} : getK (drw l r c t) "rest" = some (.int r) := rfl
theorem drw_c {l c : Nat} {r t : Int} : getK (drw l r c t) "cells" = some (.ref c) := rfl
theorem drw_t {l c : Nat} {r t : Int} : getK (drw l r c t) "turn" = some (.int t) := rfl
theorem drw_sr {l c : Nat} {r t x : Int} : setK (drw l r c t) "rest" (.int x) = drw l x c t := rfl
theorem drw_st {l c : Nat} {r t x : Int} : setK (drw l r c t) "turn" (.int x) = drw l r c x := rfl
theorem drw_len {l c : Nat} {r t : Int} : (drw l r c t).length < 1000 := by show 4 < 1000; decide
structure Draw (S : Sto) (a l c : Nat) : Prop where
  al : a ≠ l
  ac : a ≠ c
  lc : l ≠ c
  ex : ∃ (r t : Int) (ls cs : List Int), S a = some (.dct (drw l r c t)) ∧ S l = some (.lst (iL ls)) ∧ S c = some (.lst (iL cs))
/-- what stays when a draw is made -/
structure Kp (a l : Nat) (S S' : Sto) : Prop where
  k : ∀ p o, S p = some o → p ≠ a → p ≠ l → S' p = some o
theorem Kp.refl {a l : Nat} {S : Sto} : Kp a l S S := ⟨fun _ _ h _ _ => h⟩
theorem Kp.trans {a l : Nat} {S S1 S2 : Sto} (h : Kp a l S S1) (g : Kp a l S1 S2) : Kp a l S S2 := ⟨fun p o e n m => g.k p o (h.k p o e n m) n m⟩
theorem Kp.new {a l p : Nat} {S : Sto} {o : O} (h : S p = none) : Kp a l S (put S p o) := ⟨fun q u e _ _ => by
  have ne : q ≠ p := fun z => by rw [z, h] at e; cases e
  rw [put_ne ne]; exact e⟩
theorem Kp.set {a l : Nat} {S : Sto} {o : O} : Kp a l S (put S a o) := ⟨fun q u e n _ => by rw [put_ne n]; exact e⟩
theorem Draw.new {S : Sto} {a l c p : Nat} {o : O} (d : Draw S a l c) (h : S p = none) : Draw (put S p o) a l c := by
  obtain ⟨h1, h2, h3, r, t, ls, cs, e1, e2, e3⟩ := d
  have n1 : a ≠ p := fun z => by rw [z, h] at e1; cases e1
  have n2 : l ≠ p := fun z => by rw [z, h] at e2; cases e2
  have n3 : c ≠ p := fun z => by rw [z, h] at e3; cases e3
  exact ⟨h1, h2, h3, r, t, ls, cs, by rw [put_ne n1]; exact e1, by rw [put_ne n2]; exact e2, by rw [put_ne n3]; exact e3⟩
/-- another object is written -/
theorem Draw.other {S : Sto} {a l c p : Nat} {o u : O} (d : Draw S a l c) (h1 : p ≠ a) (h2 : p ≠ l) (h3 : p ≠ c) : Draw (put S p o) a l c := by
  obtain ⟨n1, n2, n3, r, t, ls, cs, e1, e2, e3⟩ := d
  exact ⟨n1, n2, n3, r, t, ls, cs, by rw [put_ne h1.symm]; exact e1, by rw [put_ne h2.symm]; exact e2, by rw [put_ne h3.symm]; exact e3⟩
theorem Draw.ne {S : Sto} {a l c p : Nat} (d : Draw S a l c) (h : S p = none) : p ≠ a ∧ p ≠ l ∧ p ≠ c := by
  obtain ⟨h1, h2, h3, r, t, ls, cs, e1, e2, e3⟩ := d
  refine ⟨fun z => ?_, fun z => ?_, fun z => ?_⟩
  · rw [← z, h] at e1; cases e1
  · rw [← z, h] at e2; cases e2
  · rw [← z, h] at e3; cases e3
theorem loop_ok {α : Type} {ok : Sto → Prop} {step : D → α → Sto → (α → Sto → Prop) → Prop} {fin : α → Sto → Prop} (I : List D → α → Sto → Prop) (h0 : ∀ xs a S, I xs a S → ok S) (h1 : ∀ a S, I [] a S → fin a S)
    (h2 : ∀ x xs a S N, I (x :: xs) a S → (∀ b S', I xs b S' → N b S') → step x a S N) : ∀ {xs : List D} {a : α} {S : Sto}, I xs a S → loopW ok step fin xs a S
  | [], a, S, h => ⟨h0 _ _ _ h, h1 _ _ h⟩
  | x :: xs, a, S, h => ⟨h0 _ _ _ h, h2 _ _ _ _ _ h fun b S' h' => loop_ok I h0 h1 h2 h'⟩
theorem iL_py {S : Sto} : ∀ l : List Int, PyOfs S (iL l) (l.map PyData.int)
  | [] => .nil
  | i :: l => .cons (.int i) (iL_py l)
theorem sp_mixed {k a l c : Nat} {S : Sto} {Q : KE} {E : XE} (d : Draw S a l c) (hQ : ∀ i S', Draw S' a l c → Kp a l S S' → Q (.int i) S') : wC tab (k + 1) "_law_mixed" [.ref a] S Q E := by
  obtain ⟨n1, n2, n3, r, t, ls, cs, e1, e2, e3⟩ := d
  refine wc (fd := f__law_mixed) rfl rfl ?_
  unfold f__law_mixed
  push_cast [e1, drw_t, drw_st, drw_len]
  refine ⟨by rw [sizeLine_eq]; decide, fun p hp => ?_⟩
  have pa : p ≠ a := fun z => by rw [z, put_same] at hp; cases hp
  have hp : S p = none := by rw [put_ne pa] at hp; exact hp
  have pl : p ≠ l := fun z => by rw [z, e2] at hp; cases hp
  have pc : p ≠ c := fun z => by rw [z, e3] at hp; cases hp
  refine loop_ok (fun xs φ S' => (∀ x ∈ xs, ∃ i : Int, x = .int i ∧ 0 < i ∧ i < 2 ^ 31) ∧ ∃ o1 o4 o5 f, φ = [some (.ref a), o1, some (.int (t + 1)), some (.int f), o4, o5] ∧ S' = put (put S a (.dct (drw l r c (t + 1)))) p (.lst [.int 2147483629, .int 2147483587, .int 2147483579])) ?_ ?_ ?_ ⟨?_, _, _, _, _, rfl, rfl⟩
  · rintro xs φ S' ⟨_, _, _, _, _, _, rfl⟩
    exact put_same
  · rintro φ S' ⟨_, o1, o4, o5, f, rfl, rfl⟩
    push_cast
    refine hQ _ _ ⟨n1, n2, n3, r, t + 1, ls, cs, ?_, ?_, ?_⟩ (Kp.set.trans (Kp.new ?_))
    · rw [put_ne pa.symm, put_same]
    · rw [put_ne pl.symm, put_ne n1.symm]; exact e2
    · rw [put_ne pc.symm, put_ne n2.symm]; exact e3
    · rw [put_ne pa]; exact hp
  · rintro x xs φ S' N ⟨hx, o1, o4, o5, f, rfl, rfl⟩ hN
    obtain ⟨i, rfl, i0, i1⟩ := hx x List.mem_cons_self
    have hca : put (put S a (.dct (drw l r c (t + 1)))) p (.lst [.int 2147483629, .int 2147483587, .int 2147483579]) a = some (.dct (drw l r c (t + 1))) := by rw [put_ne pa.symm, put_same]
    have hcc : put (put S a (.dct (drw l r c (t + 1)))) p (.lst [.int 2147483629, .int 2147483587, .int 2147483579]) c = some (.lst (iL cs)) := by rw [put_ne pc.symm, put_ne n2.symm]; exact e3
    push_cast [hca, hcc, drw_c]
    refine ⟨.inr (.inl (by unfold SmallI; decide)), by decide, i0, ?_⟩
    refine loop_ok (fun xs φ S' => (∀ x ∈ xs, ∃ i : Int, x = .int i) ∧ ∃ o5 b, φ = [some (.ref a), some (.int i), some (.int (t + 1)), some (.int f), some (.int b), o5] ∧ 0 ≤ b ∧ b < i ∧ S' = put (put S a (.dct (drw l r c (t + 1)))) p (.lst [.int 2147483629, .int 2147483587, .int 2147483579])) ?_ ?_ ?_ ⟨?_, _, _, rfl, Int.emod_nonneg _ (by omega), Int.emod_lt_of_pos _ i0, rfl⟩
    · rintro xs φ S' ⟨_, _, _, _, _, _, rfl⟩
      exact hcc
    · rintro φ S' ⟨_, o5, b, rfl, b0, b1, rfl⟩
      push_cast
      refine ⟨.inr (.inl (by unfold SmallI; decide)), ⟨by decide, by decide, by omega⟩, i0, hN _ _ ⟨fun x hm => hx x (List.mem_cons_of_mem _ hm), _, _, _, _, rfl, rfl⟩⟩
    · rintro x xs φ S' N' ⟨hx', o5, b, rfl, b0, b1, rfl⟩ hN'
      obtain ⟨j, rfl⟩ := hx' x List.mem_cons_self
      push_cast
      exact ⟨.inr (.inl (by unfold SmallI; decide)), i0, hN' _ _ ⟨fun x hm => hx' x (List.mem_cons_of_mem _ hm), _, _, rfl, Int.emod_nonneg _ (by omega), Int.emod_lt_of_pos _ i0, rfl⟩⟩
    · intro x hm
      obtain ⟨j, _, rfl⟩ := List.mem_map.mp hm
      exact ⟨j, rfl⟩
  · intro x hm
    simp only [List.mem_cons, List.not_mem_nil, or_false] at hm
    rcases hm with rfl | rfl | rfl <;> exact ⟨_, rfl, by decide, by decide⟩
theorem eqv_nil : ∀ ls : List Int, PyData.eqv (.list (ls.map PyData.int)) (.list []) = decide (ls = [])
  | [] => rfl
  | _ :: _ => rfl
theorem sp_take {k a l c : Nat} {n : Int} {S : Sto} {Q : KE} {E : XE} (d : Draw S a l c) (n0 : 0 < n) (n1 : n < 1073741824 ∨ n.natAbs.log2 < 9000) (hQ : ∀ i S', 0 ≤ i → i < n → Draw S' a l c → Kp a l S S' → Q (.int i) S') : wC tab (k + 2) "_law_take" [.ref a, .int n] S Q E := by
  refine wc (fd := f__law_take) rfl rfl ?_
  unfold f__law_take
  -- the end, from any number that is left
  have fin : ∀ (S1 : Sto) (r t : Int) (ls cs : List Int), a ≠ l → a ≠ c → l ≠ c → S1 a = some (.dct (drw l r c t)) → S1 l = some (.lst (iL ls)) → S1 c = some (.lst (iL cs)) → Kp a l S S1 →
      ∀ (q : Int), Q (.int (r % n)) (put S1 a (.dct (drw l q c t))) := fun S1 r t ls cs h1 h2 h3 e1 e2 e3 kp q =>
    hQ _ _ (Int.emod_nonneg _ (by omega)) (Int.emod_lt_of_pos _ n0) ⟨h1, h2, h3, q, t, ls, cs, put_same, by rw [put_ne h1.symm]; exact e2, by rw [put_ne h2.symm]; exact e3⟩ (kp.trans Kp.set)
  obtain ⟨h1, h2, h3, r, t, ls, cs, e1, e2, e3⟩ := d
  push_cast [e1, drw_r, drw_l, drw_sr, drw_len]
  split
  · refine ⟨by rw [sizeLine_eq]; decide, fun p hp => ?_⟩
    have pa : p ≠ a := fun z => by rw [z, e1] at hp; cases hp
    have pl : p ≠ l := fun z => by rw [z, e2] at hp; cases hp
    have pc : p ≠ c := fun z => by rw [z, e3] at hp; cases hp
    have f1 : put S p (.lst []) a = some (.dct (drw l r c t)) := by rw [put_ne pa.symm]; exact e1
    have f2 : put S p (.lst []) l = some (.lst (iL ls)) := by rw [put_ne pl.symm]; exact e2
    have f3 : put S p (.lst []) c = some (.lst (iL cs)) := by rw [put_ne pc.symm]; exact e3
    refine ⟨.list (ls.map PyData.int), .list [], .lst f2 (iL_py ls), .lst put_same .nil, PySem.W.ke_shaped_ints ls, rfl, ?_⟩
    rw [eqv_nil]
    push_cast [f1, f2, drw_l]
    split
    · refine sp_mixed ⟨h1, h2, h3, r, t, ls, cs, f1, f2, f3⟩ fun i S1 d1 k1 => ?_
      obtain ⟨_, _, _, r1, t1, ls1, cs1, g1, g2, g3⟩ := d1
      push_cast [g1, drw_r, drw_sr, drw_len]
      refine ⟨n0, ⟨n0, n1⟩, ?_⟩
      exact fin _ i t1 ls1 cs1 h1 h2 h3 put_same (by rw [put_ne h1.symm]; exact g2) (by rw [put_ne h2.symm]; exact g3) (((Kp.new hp).trans k1).trans Kp.set) _
    · rename_i hne
      cases ls with
      | nil => exact absurd rfl hne
      | cons i ls =>
        refine ⟨0, .int i, by decide, by decide, seqIndex_of (k := 0) (by decide) (by show (0 : Int) < ((iL (i :: ls)).length : Nat); rw [List.length_map, List.length_cons]; omega), rfl, ?_⟩
        have u1 : ∀ o, put (put S p (.lst [])) l o a = some (.dct (drw l r c t)) := fun o => by rw [put_ne h1]; exact f1
        push_cast [u1, drw_r, drw_sr, drw_len]
        refine ⟨n0, ⟨n0, n1⟩, ?_⟩
        exact fin _ i t ls cs h1 h2 h3 put_same (by rw [put_ne h1.symm]; exact put_same) (by rw [put_ne h2.symm, put_ne h3.symm]; exact f3) ⟨fun q o e na nl => by rw [put_ne na, put_ne nl]; exact (Kp.new hp).k q o e na nl⟩ _
  · refine ⟨n0, ⟨n0, n1⟩, ?_⟩
    exact fin S r t ls cs h1 h2 h3 e1 e2 e3 Kp.refl _
theorem atI_ok {xs : List D} {i : Int} (h0 : 0 ≤ i) (h1 : i < xs.length) : ∃ v, L2.atI xs i = some v ∧ v ∈ xs := by
  have hi : i.toNat < xs.length := by omega
  refine ⟨xs[i.toNat], ?_, List.getElem_mem hi⟩
  unfold L2.atI L2.ixN
  rw [if_pos h0, if_pos h1]
  exact List.getElem?_eq_getElem hi
theorem sp_pick {k a l c p : Nat} {xs : List D} {S : Sto} {Q : KE} {E : XE} (d : Draw S a l c) (hp : S p = some (.lst xs)) (pa : p ≠ a) (pl : p ≠ l) (x0 : 0 < xs.length) (x1 : xs.length < 1073741824) (hQ : ∀ v S', v ∈ xs → Draw S' a l c → Kp a l S S' → Q v S') :
    wC tab (k + 3) "_law_pick" [.ref a, .ref p] S Q E := by
  refine wc (fd := f__law_pick) rfl rfl ?_
  unfold f__law_pick
  push_cast [hp]
  refine sp_take d (by omega) (.inl (by omega)) fun i S1 i0 i1 d1 k1 => ?_
  have hp1 := k1.k p _ hp pa pl
  push_cast [hp1]
  obtain ⟨v, hv, hm⟩ := atI_ok i0 i1
  exact ⟨v, hv, hQ v S1 hm d1 k1⟩
theorem sp_begun {k : Nat} {ns : List Int} {S : Sto} {Q : KE} {E : XE} (hz : ns.length ≤ 1000) (hQ : ∀ a l c S', Draw S' a l c → (∀ p o, S p = some o → S' p = some o) → Q (.ref a) S') : wC tab (k + 1) "_law_begun" [.fls (iL ns)] S Q E := by
  refine wc (fd := f__law_begun) rfl rfl ?_
  unfold f__law_begun
  push_cast
  have sz : sizeLine = 16777216 := sizeLine_eq
  refine loop_ok (fun xs acc S' => S' = S ∧ (∃ ms : List Int, xs = iL ms) ∧ (∃ ls : List Int, acc = iL ls) ∧ acc.length + xs.length ≤ 1000) (fun _ _ _ _ => trivial) ?_ ?_ ⟨rfl, ⟨ns, rfl⟩, ⟨[], rfl⟩, by simpa using hz⟩
  · rintro acc S' ⟨rfl, _, ⟨ls, rfl⟩, _⟩ l hl
    refine loop_ok (fun xs acc S'' => S'' = put S' l (.lst (iL ls)) ∧ (∃ ms : List Int, xs = iL ms) ∧ (∃ ls : List Int, acc = iL ls) ∧ acc.length + xs.length ≤ 1000) (fun _ _ _ _ => trivial) ?_ ?_ ⟨rfl, ⟨ns, rfl⟩, ⟨[], rfl⟩, by simpa using hz⟩
    · rintro acc S'' ⟨rfl, _, ⟨cs, rfl⟩, _⟩ c hc a ha
      have lc : l ≠ c := fun z => by rw [← z, put_same] at hc; cases hc
      have al : a ≠ l := fun z => by rw [z, put_ne lc, put_same] at ha; cases ha
      have ac : a ≠ c := fun z => by rw [z, put_same] at ha; cases ha
      have hc' : S' c = none := by rw [put_ne lc.symm] at hc; exact hc
      have ha' : S' a = none := by rw [put_ne ac, put_ne al] at ha; exact ha
      refine hQ a l c _ ⟨al, ac, lc, 0, 0, ls, cs, put_same, by rw [put_ne al.symm, put_ne lc, put_same], by rw [put_ne ac.symm, put_same]⟩ fun p o e => ?_
      have p1 : p ≠ a := fun z => by rw [z, ha'] at e; cases e
      have p2 : p ≠ l := fun z => by rw [z, hl] at e; cases e
      have p3 : p ≠ c := fun z => by rw [z, hc'] at e; cases e
      rw [put_ne p1, put_ne p3, put_ne p2]
      exact e
    · rintro x xs acc S'' N ⟨rfl, ⟨ms, hm⟩, ⟨ls', rfl⟩, hlen⟩ hN
      cases ms with
      | nil => cases hm
      | cons m ms =>
        cases hm
        simp only [List.length_cons, List.length_map] at hlen
        push_cast
        refine ⟨by rw [List.length_map]; omega, hN _ _ ⟨rfl, ⟨ms, rfl⟩, ⟨ls' ++ [if m < 0 then -m else m], by show iL ls' ++ _ = List.map D.int _; rw [List.map_append]; rfl⟩, by simp only [List.length_append, List.length_map, List.length_cons, List.length_nil]; omega⟩⟩
  · rintro x xs acc S'' N ⟨rfl, ⟨ms, hm⟩, ⟨ls', rfl⟩, hlen⟩ hN
    cases ms with
    | nil => cases hm
    | cons m ms =>
      cases hm
      simp only [List.length_cons, List.length_map] at hlen
      push_cast
      refine ⟨⟨by decide, by decide, by decide⟩, ?_⟩
      generalize (if m < 0 then -m else m) = ab
      split
      · refine ⟨⟨by decide, by decide, by decide⟩, by rw [List.length_map]; omega, hN _ _ ⟨rfl, ⟨ms, rfl⟩, ⟨ls' ++ [ab - 10 ^ (18 : Int).toNat], by show iL ls' ++ _ = List.map D.int _; rw [List.map_append]; rfl⟩, by simp only [List.length_append, List.length_map, List.length_cons, List.length_nil]; omega⟩⟩
      · exact hN _ _ ⟨rfl, ⟨ms, rfl⟩, ⟨ls', rfl⟩, by simp only [List.length_map]; omega⟩
theorem wd {k : Nat} {f : Str} {fd : FD} {ds : List D} {S : Sto} {Q : KE} {E : XE} (h0 : 1 ≤ k) (h : tab.lookup f = some fd) (hl : ds.length = fd.ps.length) (hb : wSs (wC tab (k - 1)) fd.body { nx := fun _ S' => Q .non S', rt := Q } (fun c a _ S' => E c a S') (startF fd.n ds) S) : wC tab k f ds S Q E := by
  obtain ⟨j, rfl⟩ : ∃ j, k = j + 1 := ⟨k - 1, by omega⟩
  exact ⟨fd, h, hl, hb⟩
theorem d_take {k a l c : Nat} {n : Int} {S : Sto} {Q : KE} {E : XE} (hk : 2 ≤ k) (d : Draw S a l c) (n0 : 0 < n) (n1 : n < 1073741824) (hQ : ∀ i S', 0 ≤ i → i < n → Draw S' a l c → Kp a l S S' → Q (.int i) S') : wC tab k "_law_take" [.ref a, .int n] S Q E := by
  obtain ⟨j, rfl⟩ : ∃ j, k = j + 2 := ⟨k - 2, by omega⟩
  exact sp_take d n0 (.inl n1) hQ
theorem d_takeW {k a l c : Nat} {n : Int} {S : Sto} {Q : KE} {E : XE} (hk : 2 ≤ k) (d : Draw S a l c) (n0 : 0 < n) (n1 : n.natAbs.log2 < 9000) (hQ : ∀ i S', 0 ≤ i → i < n → Draw S' a l c → Kp a l S S' → Q (.int i) S') : wC tab k "_law_take" [.ref a, .int n] S Q E := by
  obtain ⟨j, rfl⟩ : ∃ j, k = j + 2 := ⟨k - 2, by omega⟩
  exact sp_take d n0 (.inr n1) hQ
theorem d_pick {k a l c p : Nat} {xs : List D} {S : Sto} {Q : KE} {E : XE} (hk : 3 ≤ k) (d : Draw S a l c) (hp : S p = some (.lst xs)) (pa : p ≠ a) (pl : p ≠ l) (x0 : 0 < xs.length) (x1 : xs.length < 1073741824) (hQ : ∀ v S', v ∈ xs → Draw S' a l c → Kp a l S S' → Q v S') :
    wC tab k "_law_pick" [.ref a, .ref p] S Q E := by
  obtain ⟨j, rfl⟩ : ∃ j, k = j + 3 := ⟨k - 3, by omega⟩
  exact sp_pick d hp pa pl x0 x1 hQ
theorem d_begun {k : Nat} {ns : List Int} {S : Sto} {Q : KE} {E : XE} (hk : 1 ≤ k) (hz : ns.length ≤ 1000) (hQ : ∀ a l c S', Draw S' a l c → (∀ p o, S p = some o → S' p = some o) → Q (.ref a) S') : wC tab k "_law_begun" [.fls (iL ns)] S Q E := by
  obtain ⟨j, rfl⟩ : ∃ j, k = j + 1 := ⟨k - 1, by omega⟩
  exact sp_begun hz hQ
/-- nothing that stood is changed -/
structure Ext (S S' : Sto) : Prop where
  k : ∀ p o, S p = some o → S' p = some o
theorem Ext.refl {S : Sto} : Ext S S := ⟨fun _ _ h => h⟩
theorem Ext.trans {S S1 S2 : Sto} (h : Ext S S1) (g : Ext S1 S2) : Ext S S2 := ⟨fun p o e => g.k p o (h.k p o e)⟩
theorem Ext.new {p : Nat} {S : Sto} {o : O} (h : S p = none) : Ext S (put S p o) := ⟨fun q u e => by
  have ne : q ≠ p := fun z => by rw [z, h] at e; cases e
  rw [put_ne ne]; exact e⟩
theorem Ext.kp {a l : Nat} {S S' : Sto} (h : Ext S S') : Kp a l S S' := ⟨fun p o e _ _ => h.k p o e⟩
theorem Ext.draw {a l c : Nat} {S S' : Sto} (h : Ext S S') (d : Draw S a l c) : Draw S' a l c := by
  obtain ⟨h1, h2, h3, r, t, ls, cs, e1, e2, e3⟩ := d
  exact ⟨h1, h2, h3, r, t, ls, cs, h.k _ _ e1, h.k _ _ e2, h.k _ _ e3⟩
theorem Ext.none {S S' : Sto} {p : Nat} (h : Ext S S') (e : S' p = none) : S p = none := by
  cases q : S p with
  | none => rfl
  | some o => rw [h.k p o q] at e; cases e
theorem loop_ext {α : Type} {ok : Sto → Prop} {step : D → List D → Sto → (List D → Sto → Prop) → Prop} {fin : List D → Sto → Prop} (g : α → D) (f : α → List D) {S : Sto} (hok : ∀ S', Ext S S' → ok S') : ∀ (xs : List α) (acc : List D) (S1 : Sto), Ext S S1 →
    acc.length + (xs.flatMap f).length < 16777216 → (∀ x ∈ xs, ∀ acc S' N, Ext S S' → acc.length + (f x).length < 16777216 → (∀ S'', Ext S' S'' → N (acc ++ f x) S'') → step (g x) acc S' N) → (∀ S', Ext S S' → fin (acc ++ xs.flatMap f) S') → loopW ok step fin (xs.map g) acc S1
  | [], acc, S1, e, _, _, hf => ⟨hok _ e, by simpa using hf S1 e⟩
  | x :: xs, acc, S1, e, hz, hs, hf => by
    simp only [List.flatMap_cons, List.length_append] at hz
    refine ⟨hok _ e, hs x List.mem_cons_self acc S1 _ e (by omega) fun S2 e2 => ?_⟩
    refine loop_ext g f hok xs (acc ++ f x) S2 (e.trans e2) (by simp only [List.length_append]; omega) (fun y hy => hs y (List.mem_cons_of_mem _ hy)) fun S' e' => ?_
    have := hf S' e'
    rw [List.flatMap_cons, ← List.append_assoc] at this
    exact this
theorem flatMap_one {α : Type} (f : α → D) : ∀ xs : List α, xs.flatMap (fun x => [f x]) = xs.map f
  | [] => rfl
  | x :: xs => by rw [List.flatMap_cons, flatMap_one f xs]; rfl
theorem loop_map {α : Type} {ok : Sto → Prop} {step : D → List D → Sto → (List D → Sto → Prop) → Prop} {fin : List D → Sto → Prop} (g f : α → D) {S : Sto} (hok : ∀ S', Ext S S' → ok S') (xs : List α) (hz : xs.length < 16777216)
    (hs : ∀ x ∈ xs, ∀ acc S' N, Ext S S' → acc.length < sizeLine → (∀ S'', Ext S' S'' → N (acc ++ [f x]) S'') → step (g x) acc S' N) (hf : ∀ S', Ext S S' → fin (xs.map f) S') : loopW ok step fin (xs.map g) [] S := by
  have e : xs.flatMap (fun x => [f x]) = xs.map f := flatMap_one f xs
  refine loop_ext g (fun x => [f x]) hok xs [] S .refl (by rw [e, List.length_map]; simpa using hz) (fun x hx acc S' N e2 hl hN => hs x hx acc S' N e2 (by rw [sizeLine_eq]; simp only [List.length_cons, List.length_nil] at hl; omega) hN) fun S' e' => ?_
  rw [List.nil_append, e]
  exact hf S' e'
theorem numbered_zip : ∀ (xs : List D) (n : Nat), Pi.numbered n xs = (xs.zipIdx n).map fun p => .tup [.int (p.2 : Nat), p.1]
  | [], n => rfl
  | x :: xs, n => by rw [Pi.numbered, numbered_zip xs (n + 1), List.zipIdx_cons, List.map_cons]
theorem numbered_map {α : Type} (g : α → D) : ∀ (xs : List α) (n : Nat), Pi.numbered n (xs.map g) = (xs.zipIdx n).map fun p => .tup [.int (p.2 : Nat), g p.1]
  | [], n => rfl
  | x :: xs, n => by rw [List.map_cons, Pi.numbered, numbered_map g xs (n + 1), List.zipIdx_cons, List.map_cons]
theorem intsB_map {α : Type} (f : α → Int) : ∀ xs : List α, intsB (xs.map fun x => D.int (f x)) = some (xs.map f)
  | [] => rfl
  | x :: xs => by
    show (intsB (xs.map fun x => D.int (f x))).map (f x :: ·) = _
    rw [intsB_map f xs]
    rfl
theorem Kp.put {a l p : Nat} {S S1 : Sto} {o : O} (h : Kp a l S S1) (n : S p = Option.none) : Kp a l S (put S1 p o) := ⟨fun q u e na nl => by
  have ne : q ≠ p := fun z => by rw [z, n] at e; cases e
  rw [put_ne ne]; exact h.k q u e na nl⟩
theorem Kp.none {a l p : Nat} {S S1 : Sto} (h : Kp a l S S1) (n : S1 p = none) (na : p ≠ a) (nl : p ≠ l) : S p = none := by
  cases q : S p with
  | none => rfl
  | some o => rw [h.k p o q na nl] at n; cases n
theorem Ext.put {p : Nat} {S S1 : Sto} {o : O} (h : Ext S S1) (n : S p = Option.none) : Ext S (put S1 p o) := ⟨fun q u e => by
  have ne : q ≠ p := fun z => by rw [z, n] at e; cases e
  rw [put_ne ne]; exact h.k q u e⟩


/-! kinds as trees -/
inductive T where | s (x : Str) | t (xs : List T)
namespace T
mutual
def d : T → D
  | .s x => .str x
  | .t xs => .tup (ds xs)
def ds : List T → List D
  | [] => []
  | x :: xs => d x :: ds xs
end
mutual
def py : T → PyData
  | .s x => .str x
  | .t xs => .tuple (pys xs)
def pys : List T → List PyData
  | [] => []
  | x :: xs => py x :: pys xs
end
mutual
/-- the names, from the left -/
def nm : T → List Str
  | .s x => [x]
  | .t xs => nms xs
def nms : List T → List Str
  | [] => []
  | x :: xs => nm x ++ nms xs
end
mutual
def dp : T → Nat
  | .s _ => 0
  | .t xs => 1 + dps xs
def dps : List T → Nat
  | [] => 0
  | x :: xs => max (dp x) (dps xs)
end
theorem ds_map : ∀ xs : List T, ds xs = xs.map d
  | [] => rfl
  | x :: xs => by rw [ds, ds_map xs]; rfl
theorem pys_map : ∀ xs : List T, pys xs = xs.map py
  | [] => rfl
  | x :: xs => by rw [pys, pys_map xs]; rfl
theorem nms_map : ∀ xs : List T, nms xs = xs.flatMap nm
  | [] => rfl
  | x :: xs => by rw [nms, nms_map xs]; rfl
theorem dps_le : ∀ {xs : List T} {x : T}, x ∈ xs → dp x ≤ dps xs
  | [], _, h => nomatch h
  | y :: ys, x, h => by
    rw [dps]
    rcases List.mem_cons.mp h with e | h
    · rw [e]; exact Nat.le_max_left _ _
    · exact Nat.le_trans (dps_le h) (Nat.le_max_right _ _)
theorem dps_of : ∀ {xs : List T} {n : Nat}, (∀ x ∈ xs, dp x ≤ n) → dps xs ≤ n
  | [], n, _ => Nat.zero_le _
  | y :: ys, n, h => by
    rw [dps]
    exact Nat.max_le.mpr ⟨h y List.mem_cons_self, dps_of fun x hx => h x (List.mem_cons_of_mem _ hx)⟩
mutual
theorem py_of {S : Sto} : ∀ t : T, PyOf S (d t) (py t)
  | .s x => .str x
  | .t xs => .tup (pys_of xs)
theorem pys_of {S : Sto} : ∀ xs : List T, PyOfs S (ds xs) (pys xs)
  | [] => .nil
  | x :: xs => .cons (py_of x) (pys_of xs)
end
end T
/-- the alphabet -/
abbrev abc : Str := "abcdefghijklmnopqrstuvwxyz"
def nameB (x : Str) : Bool := decide (1 ≤ x.length) && decide (x.length ≤ 3) && x.cps.toList.all fun c => decide (c ∈ abc.cps.toList)
theorem nameB_len {x : Str} (h : nameB x = true) : 1 ≤ x.length ∧ x.length ≤ 3 := by
  unfold nameB at h
  simp only [Bool.and_eq_true, decide_eq_true_eq] at h
  exact h.1
theorem abc_small : ∀ c ∈ abc.cps.toList, c < 128 := by decide
theorem nameB_ok {x : Str} (h : nameB x = true) : PyData.strOk x = true := by
  unfold nameB at h
  simp only [Bool.and_eq_true, decide_eq_true_eq, List.all_eq_true] at h
  show x.cps.all (· < 0x110000) = true
  rw [Array.all_eq_true_iff_forall_mem]
  intro c hc
  have := abc_small c (h.2 c (Array.mem_toList_iff.mpr hc))
  simp only [decide_eq_true_eq]
  omega
def wideB (n : Nat) : Bool := decide (2 ≤ n) && decide (n ≤ 8)
/-- the last item is a name -/
def endB (xs : List T) : Bool := match xs.getLast? with
  | some (.s x) => nameB x
  | _ => false
/-- has_form -/
def hf : Nat → T → Bool
  | _, .s x => nameB x
  | 0, .t _ => false
  | n + 1, .t xs => wideB xs.length && endB xs && xs.dropLast.all (hf n)
/-- is_kind -/
def kindB (t : T) : Bool := hf 4 t && decide (t.nm.length ≤ 14)
theorem hf_all {n : Nat} {xs : List T} (h : hf (n + 1) (.t xs) = true) : ∀ x ∈ xs, hf n x = true := by
  unfold hf at h
  simp only [Bool.and_eq_true, List.all_eq_true] at h
  intro x hx
  have hne : xs ≠ [] := fun e => by rw [e] at hx; cases hx
  rcases List.mem_append.mp (by rw [List.dropLast_concat_getLast hne]; exact hx : x ∈ xs.dropLast ++ [xs.getLast hne]) with h1 | h1
  · exact h.2 x h1
  · have e : x = xs.getLast hne := by simpa using h1
    have h2 := h.1.2
    unfold endB at h2
    rw [List.getLast?_eq_some_getLast hne, ← e] at h2
    cases x with
    | s y => cases n <;> exact h2
    | t ys => cases h2
theorem hf_len {n : Nat} {xs : List T} (h : hf (n + 1) (.t xs) = true) : 2 ≤ xs.length ∧ xs.length ≤ 8 := by
  unfold hf wideB at h
  simp only [Bool.and_eq_true, decide_eq_true_eq] at h
  exact h.1.1
theorem hf_dp : ∀ {n : Nat} {t : T}, hf n t = true → t.dp ≤ n
  | n, .s x, _ => by show 0 ≤ n; omega
  | 0, .t xs, h => by cases h
  | n + 1, .t xs, h => by
    have h1 : T.dps xs ≤ n := T.dps_of fun x hx => hf_dp (hf_all h x hx)
    show 1 + T.dps xs ≤ n + 1
    omega
/-- what a kind weighs -/
def wt : Nat → Nat
  | 0 => 3
  | n + 1 => 8 * (wt n + 1)
theorem weightAll_le : ∀ {xs : List PyData} {w : Nat}, (∀ x ∈ xs, PyData.weight x ≤ w) → PyData.weightAll xs ≤ xs.length * (w + 1)
  | [], w, _ => Nat.zero_le _
  | x :: xs, w, h => by
    have h1 := h x List.mem_cons_self
    have h2 := weightAll_le fun y hy => h y (List.mem_cons_of_mem _ hy)
    simp only [PyData.weightAll, List.length_cons]
    have e : (xs.length + 1) * (w + 1) = xs.length * (w + 1) + (w + 1) := by rw [Nat.add_mul, Nat.one_mul]
    omega
theorem wt_le : ∀ {n : Nat}, 3 ≤ wt n
  | 0 => Nat.le_refl _
  | n + 1 => by have := @wt_le n; show 3 ≤ 8 * (wt n + 1); omega
theorem hf_wt : ∀ {n : Nat} {t : T}, hf n t = true → PyData.weight t.py ≤ wt n ∧ PyData.canLay0 t.py = true ∧ PyData.depth t.py ≤ n ∧ PyData.intsShort 13 t.py = true
  | n, .s x, h => by
    have hb : nameB x = true := by cases n <;> exact h
    refine ⟨Nat.le_trans (show x.cps.size ≤ 3 from (nameB_len hb).2) wt_le, nameB_ok hb, Nat.zero_le _, rfl⟩
  | 0, .t xs, h => by cases h
  | n + 1, .t xs, h => by
    have ih := fun x hx => hf_wt (hf_all h x hx)
    have hl := (hf_len h).2
    have h1 : PyData.weightAll (T.pys xs) ≤ xs.length * (wt n + 1) := by
      have := weightAll_le (xs := T.pys xs) (w := wt n) (by
        rw [T.pys_map]
        intro y hy
        obtain ⟨x, hx, rfl⟩ := List.mem_map.mp hy
        exact (ih x hx).1)
      rw [T.pys_map, List.length_map] at this
      rw [T.pys_map]
      exact this
    have all : ∀ ys : List T, (∀ x ∈ ys, PyData.canLay0 x.py = true ∧ PyData.depth x.py ≤ n ∧ PyData.intsShort 13 x.py = true) → PyData.canLayAll0 (T.pys ys) = true ∧ PyData.depthAll (T.pys ys) ≤ n ∧ PyData.intsShortAll 13 (T.pys ys) = true := by
      intro ys
      induction ys with
      | nil => intro _; exact ⟨rfl, Nat.zero_le _, rfl⟩
      | cons y ys hi =>
        intro hy
        obtain ⟨a, b, c⟩ := hy y List.mem_cons_self
        obtain ⟨a', b', c'⟩ := hi fun z hz => hy z (List.mem_cons_of_mem _ hz)
        simp only [T.pys, PyData.canLayAll0, PyData.depthAll, PyData.intsShortAll, a, a', c, c', Bool.and_self, true_and, and_true]
        exact Nat.max_le.mpr ⟨b, b'⟩
    obtain ⟨a, b, c⟩ := all xs fun x hx => (ih x hx).2
    have m : xs.length * (wt n + 1) ≤ 8 * (wt n + 1) := Nat.mul_le_mul_right _ hl
    refine ⟨Nat.le_trans (show PyData.weightAll (T.pys xs) ≤ _ from h1) m, a, ?_, c⟩
    show PyData.depthAll (T.pys xs) + 1 ≤ n + 1
    omega
theorem sIx_neg1 (n : Nat) : HT.sIx n n (some (-1)) = n - 1 := by
  unfold HT.sIx
  dsimp only
  rw [if_pos (by decide)]
  omega
theorem cut_last (xs : List D) : cutD xs none (some (-1)) = xs.dropLast := by
  unfold cutD
  rw [sIx_neg1, List.dropLast_eq_take]
  rfl
theorem atI_last {xs : List D} (h : xs ≠ []) : L2.atI xs (-1) = some (xs.getLast h) := by
  have hl := List.length_pos_iff.mpr h
  unfold L2.atI L2.ixN
  rw [if_neg (by decide), if_pos (by omega)]
  show xs[_]? = _
  rw [show ((-1 : Int) + (xs.length : Nat)).toNat = xs.length - 1 by omega, List.getLast_eq_getElem]
  exact List.getElem?_eq_getElem (by omega)
mutual
/-- texts and tuples of a size that can be walked -/
def T.sh : T → Prop
  | .s x => x.length ≤ 1000
  | .t xs => xs.length ≤ 1000 ∧ T.shs xs
def T.shs : List T → Prop
  | [] => True
  | x :: xs => T.sh x ∧ T.shs xs
end
theorem T.shs_all : ∀ {xs : List T}, T.shs xs ↔ ∀ x ∈ xs, T.sh x
  | [] => ⟨fun _ _ h => (nomatch h), fun _ => trivial⟩
  | x :: xs => by
    rw [List.forall_mem_cons, ← T.shs_all]
    exact Iff.rfl
theorem hf_sh : ∀ {n : Nat} {t : T}, hf n t = true → t.sh
  | n, .s x, h => by
    have hb : nameB x = true := by cases n <;> exact h
    have := (nameB_len hb).2
    show x.length ≤ 1000
    omega
  | 0, .t xs, h => by cases h
  | n + 1, .t xs, h => ⟨by have := (hf_len h).2; omega, T.shs_all.mpr fun x hx => hf_sh (hf_all h x hx)⟩
namespace T
def pa : T → List T
  | .s _ => []
  | .t xs => xs.dropLast
def en : T → T
  | .s x => .s x
  | .t xs => (xs.getLast?).getD (.t [])
mutual
def sd : T → Bool → List Bool
  | .s _, b => [!b]
  | .t xs, b => sds xs (!b) ++ [!b]
def sds : List T → Bool → List Bool
  | [], _ => []
  | x :: r, b => if r.isEmpty then [] else sd x b ++ sds r b
end
mutual
def od : T → Nat
  | .s _ => 0
  | .t xs => 1 + ods xs
def ods : List T → Nat
  | [] => 0
  | x :: r => if r.isEmpty then 0 else max (od x) (ods r)
end
theorem sds_eq : ∀ (xs : List T) (b : Bool), sds xs b = xs.dropLast.flatMap fun x => sd x b
  | [], b => rfl
  | [x], b => rfl
  | x :: y :: r, b => by
    rw [sds]
    show sd x b ++ sds (y :: r) b = _
    rw [sds_eq (y :: r) b]
    rfl
theorem sd_eq (t : T) (b : Bool) : sd t b = (t.pa.flatMap fun x => sd x (!b)) ++ [!b] := by
  cases t with
  | s x => rfl
  | t xs => rw [sd, sds_eq]; rfl
theorem ods_le : ∀ {xs : List T} {x : T}, x ∈ xs.dropLast → od x ≤ ods xs
  | [], _, h => nomatch h
  | [y], _, h => nomatch h
  | y :: z :: r, x, h => by
    rw [ods]
    show od x ≤ max (od y) (ods (z :: r))
    rcases List.mem_cons.mp (show x ∈ y :: (z :: r).dropLast from h) with e | h
    · rw [e]; exact Nat.le_max_left _ _
    · exact Nat.le_trans (ods_le h) (Nat.le_max_right _ _)
theorem ods_mem : ∀ {xs : List T}, xs.dropLast ≠ [] → ∃ x ∈ xs.dropLast, od x = ods xs
  | [], h => absurd rfl h
  | [y], h => absurd rfl h
  | [y, z], h => ⟨y, List.mem_singleton.mpr rfl, by rw [ods]; show od y = max (od y) (ods [z]); rw [show ods [z] = 0 from rfl]; omega⟩
  | y :: z :: w :: r, h => by
    obtain ⟨x, hx, e⟩ := ods_mem (xs := z :: w :: r) (fun q => nomatch q)
    have e2 : ods (y :: z :: w :: r) = max (od y) (ods (z :: w :: r)) := by rw [ods]; rfl
    rcases Nat.le_total (od y) (ods (z :: w :: r)) with h1 | h1
    · exact ⟨x, List.mem_cons_of_mem _ hx, by rw [e2, e]; omega⟩
    · exact ⟨y, List.mem_cons_self, by rw [e2]; omega⟩
theorem dp_mem {xs : List T} {x : T} (h : x ∈ xs) : dp x < dp (.t xs) := by
  have := dps_le h
  show dp x < 1 + dps xs
  omega
theorem nm_mem {xs : List T} {x : T} (h : x ∈ xs) : (nm x).length ≤ (nms xs).length := by
  rw [nms_map]
  induction xs with
  | nil => cases h
  | cons y ys ih =>
    rw [List.flatMap_cons, List.length_append]
    rcases List.mem_cons.mp h with e | h
    · rw [e]; omega
    · have := ih h; omega
end T
theorem T.nms_append (xs ys : List T) : T.nms (xs ++ ys) = T.nms xs ++ T.nms ys := by rw [T.nms_map, T.nms_map, T.nms_map, List.flatMap_append]
theorem hf_last {n : Nat} {xs : List T} (h : hf (n + 1) (.t xs) = true) : ∃ y, xs = xs.dropLast ++ [.s y] ∧ nameB y = true := by
  have hl := (hf_len h).1
  have hne : xs ≠ [] := fun z => by rw [z] at hl; exact absurd hl (by decide)
  unfold hf at h
  simp only [Bool.and_eq_true] at h
  have h2 := h.1.2
  unfold endB at h2
  rw [List.getLast?_eq_some_getLast hne] at h2
  have e := List.dropLast_concat_getLast hne
  cases q : xs.getLast hne with
  | s y =>
    rw [q] at h2 e
    exact ⟨y, e.symm, h2⟩
  | t ys => rw [q] at h2; cases h2
theorem sd_len : ∀ {n : Nat} {t : T} {b : Bool}, hf n t = true → (t.sd b).length = t.nm.length
  | n, .s x, b, _ => rfl
  | 0, .t xs, b, h => by cases h
  | n + 1, .t xs, b, h => by
    obtain ⟨y, e, _⟩ := hf_last h
    have all := hf_all h
    rw [T.sd_eq]
    show ((T.pa (.t xs)).flatMap _ ++ _).length = (T.nms xs).length
    rw [e, T.nms_append, List.length_append, List.length_append]
    have hp : T.pa (.t (xs.dropLast ++ [.s y])) = xs.dropLast := by show (xs.dropLast ++ [T.s y]).dropLast = _; exact List.dropLast_concat
    rw [hp]
    have key : ∀ ys : List T, (∀ x ∈ ys, hf n x = true) → (ys.flatMap fun x => x.sd (!b)).length = (T.nms ys).length := by
      intro ys
      induction ys with
      | nil => intro _; rfl
      | cons z zs ih =>
        intro hz
        rw [List.flatMap_cons, List.length_append, T.nms, List.length_append, ih fun x hx => hz x (List.mem_cons_of_mem _ hx), sd_len (hz z List.mem_cons_self)]
    rw [key xs.dropLast fun x hx => all x (List.dropLast_subset _ hx)]
    rfl
theorem hf_t (n : Nat) (xs : List T) : hf (n + 1) (.t xs) = (wideB xs.length && endB xs && xs.dropLast.all (hf n)) := by unfold hf; rfl
theorem hf_s {n : Nat} {x : Str} (h : nameB x = true) : hf n (.s x) = true := by cases n <;> exact h
theorem hf_mono : ∀ {n m : Nat} {t : T}, n ≤ m → hf n t = true → hf m t = true
  | n, m, .s x, _, h => by
    have hb : nameB x = true := by cases n <;> exact h
    exact hf_s hb
  | 0, m, .t xs, _, h => by cases h
  | n + 1, 0, .t xs, h, _ => by omega
  | n + 1, m + 1, .t xs, hm, h => by
    rw [hf_t] at h ⊢
    simp only [Bool.and_eq_true, List.all_eq_true] at h ⊢
    exact ⟨h.1, fun x hx => hf_mono (by omega) (h.2 x hx)⟩


/-! the library's words on kinds -/
theorem allB_map {α : Type} {f : α → Bool} {xs : List α} : allB (xs.map fun c => D.bl (f c)) = some (xs.all f) := by
  induction xs with
  | nil => rfl
  | cons x xs ih =>
    show (allB (xs.map fun c => D.bl (f c))).map (f x && ·) = _
    rw [ih]
    rfl
theorem d_is_name_s {k : Nat} {x : Str} {S : Sto} {Q : KE} {E : XE} (hk : 1 ≤ k) (hx : x.length ≤ 1000) (hQ : ∀ S', Ext S S' → Q (.bl (nameB x)) S') : wC tab k "is_name" [.str x] S Q E := by
  refine wd (fd := f_is_name) hk rfl rfl ?_
  unfold f_is_name
  have sz := sizeLine_eq
  push_cast
  refine ⟨by omega, ?_⟩
  split
  · split
    · refine loop_map (fun c => .str ⟨#[c]⟩) (fun c => D.bl (decide (c ∈ abc.cps.toList))) (fun _ _ => trivial) x.cps.toList (by have h : x.cps.size ≤ 1000 := hx; rw [Array.length_toList]; omega) (fun c hc acc S' N e hl hN => ?_) fun S' e p hp => ?_
      · push_cast
        exact ⟨c, rfl, hl, hN S' .refl⟩
      · refine ⟨_, allB_map, ?_⟩
        have en : nameB x = x.cps.toList.all fun c => decide (c ∈ abc.cps.toList) := by
          unfold nameB
          rw [decide_eq_true (show 1 ≤ x.length by omega), decide_eq_true (show x.length ≤ 3 by omega)]
          rfl
        rw [← en]
        exact hQ _ (e.trans (Ext.new hp))
    · rename_i h1 h2
      have e : nameB x = decide (((x.length : Nat) : Int) ≤ 3) := by
        rw [decide_eq_false h2]
        unfold nameB
        rw [decide_eq_false (show ¬ x.length ≤ 3 by omega), Bool.and_false, Bool.false_and]
      rw [← e]
      exact hQ S .refl
  · rename_i h1
    have e : nameB x = false := by
      unfold nameB
      rw [decide_eq_false (show ¬ 1 ≤ x.length by omega), Bool.false_and, Bool.false_and]
    rw [← e]
    exact hQ S .refl
theorem d_is_name_t {k : Nat} {xs : List D} {S : Sto} {Q : KE} {E : XE} (hk : 1 ≤ k) (hQ : Q (.bl false) S) : wC tab k "is_name" [.tup xs] S Q E := by
  refine wd (fd := f_is_name) hk rfl rfl ?_
  unfold f_is_name
  push_cast
  exact hQ
def isN : T → Bool
  | .s x => nameB x
  | .t _ => false
theorem d_is_name {k : Nat} {t : T} {S : Sto} {Q : KE} {E : XE} (hk : 1 ≤ k) (ht : t.sh) (hQ : ∀ S', Ext S S' → Q (.bl (isN t)) S') : wC tab k "is_name" [t.d] S Q E := by
  cases t with
  | s x => exact d_is_name_s hk ht hQ
  | t xs => exact d_is_name_t hk (hQ S .refl)
theorem hf_isN {n : Nat} {t : T} (h : isN t = true) : hf n t = true := by
  cases t with
  | s x => cases n <;> exact h
  | t xs => cases h
theorem ds_len (xs : List T) : (T.ds xs).length = xs.length := by rw [T.ds_map, List.length_map]
theorem ds_dropLast (xs : List T) : (T.ds xs).dropLast = T.ds xs.dropLast := by rw [T.ds_map, T.ds_map, List.map_dropLast]
theorem d_has_form : ∀ {n k : Nat} {t : T} {S : Sto} {Q : KE} {E : XE}, n + 2 ≤ k → t.sh → (∀ S', Ext S S' → Q (.bl (hf n t)) S') → wC tab k "has_form" [t.d, .int n] S Q E
  | n, k, t, S, Q, E, hk, ht, hQ => by
    refine wd (fd := f_has_form) (by omega) rfl rfl ?_
    unfold f_has_form
    have sz := sizeLine_eq
    push_cast
    refine d_is_name (by omega) ht fun S1 e1 => ?_
    push_cast
    split
    · rename_i h
      have q := hQ S1 e1
      rw [hf_isN h] at q
      exact q
    · rename_i h
      cases t with
      | s x =>
        have q := hQ S1 e1
        have e : hf n (.s x) = false := by cases n <;> exact Bool.eq_false_iff.mpr h
        rw [e] at q
        simp only [T.d]
        push_cast
        exact q
      | t xs =>
        simp only [T.d]
        push_cast [ds_len]
        split
        · rename_i h0
          cases n with
          | zero => exact hQ S1 e1
          | succ n => omega
        · rename_i h0
          cases n with
          | zero => exact absurd rfl h0
          | succ n =>
            have bad : wideB xs.length = false → Q (.bl false) S1 := fun hw => by
              have q := hQ S1 e1
              rw [hf_t, hw, Bool.false_and, Bool.false_and] at q
              exact q
            split
            · rename_i h2
              split
              · rename_i h8
                have hw : wideB xs.length = true := by
                  unfold wideB
                  rw [decide_eq_true (show 2 ≤ xs.length by omega), decide_eq_true (show xs.length ≤ 8 by omega)]
                  rfl
                have hne : xs ≠ [] := fun z => by rw [z] at h2; exact absurd h2 (by decide)
                have hnd : T.ds xs ≠ [] := fun z => by
                  have := ds_len xs
                  rw [z] at this
                  exact hne (List.eq_nil_of_length_eq_zero this.symm)
                have el : (T.ds xs).getLast hnd = (xs.getLast hne).d := by
                  simp only [T.ds_map, List.getLast_map]
                have eb : endB xs = isN (xs.getLast hne) := by
                  unfold endB
                  rw [List.getLast?_eq_some_getLast hne]
                  cases xs.getLast hne <;> rfl
                have sh := T.shs_all.mp ht.2
                refine ⟨_, atI_last hnd, ?_⟩
                rw [el]
                refine d_is_name (by omega) (sh _ (List.getLast_mem hne)) fun S2 e2 => ?_
                push_cast
                rw [← eb]
                split
                · rename_i hb
                  rw [cut_last, ds_dropLast, T.ds_map]
                  refine loop_map T.d (fun t => D.bl (hf n t)) (fun _ _ => trivial) xs.dropLast (by have := ht.1; rw [List.length_dropLast]; omega) (fun c hc acc S' N e hl hN => ?_) fun S' e p hp => ?_
                  · rw [show ((n + 1 : Nat) : Int) - 1 = ((n : Nat) : Int) by omega]
                    exact d_has_form (by omega) (sh c (List.dropLast_subset _ hc)) fun S'' e'' => ⟨hl, hN S'' e''⟩
                  · refine ⟨_, allB_map, ?_⟩
                    have q := hQ (put S' p (.lst (xs.dropLast.map fun t => D.bl (hf n t)))) ((e1.trans e2).trans (e.trans (Ext.new hp)))
                    rw [hf_t, hw, hb] at q
                    exact q
                · rename_i hb
                  have q := hQ S2 (e1.trans e2)
                  rw [hf_t, Bool.eq_false_iff.mpr hb, Bool.and_false, Bool.false_and] at q
                  rw [Bool.eq_false_iff.mpr hb]
                  exact q
              · exact bad (by unfold wideB; rw [decide_eq_false (show ¬ xs.length ≤ 8 by omega), Bool.and_false])
            · exact bad (by unfold wideB; rw [decide_eq_false (show ¬ 2 ≤ xs.length by omega), Bool.false_and])
  termination_by n => n
theorem inner_p {k : Nat} {t : T} {S : Sto} {Q : KE} {E : XE} (hk : 1 ≤ k) (hQ : Q (.tup (T.ds t.pa)) S) : wC tab k "inner_params" [t.d] S Q E := by
  refine wd (fd := f_inner_params) hk rfl rfl ?_
  unfold f_inner_params
  have sz := sizeLine_eq
  cases t with
  | s x =>
    simp only [T.d]
    push_cast
    exact ⟨Nat.zero_le _, hQ⟩
  | t xs =>
    simp only [T.d]
    push_cast
    rw [show (-1 : Int) = -1 from rfl, cut_last, ds_dropLast]
    exact hQ
theorem inner_e {k : Nat} {t : T} {S : Sto} {Q : KE} {E : XE} (hk : 1 ≤ k) (hne : ∀ xs, t = .t xs → xs ≠ []) (hQ : Q t.en.d S) : wC tab k "inner_end" [t.d] S Q E := by
  refine wd (fd := f_inner_end) hk rfl rfl ?_
  unfold f_inner_end
  cases t with
  | s x =>
    simp only [T.d]
    push_cast
    exact hQ
  | t xs =>
    have h0 := hne xs rfl
    have hnd : T.ds xs ≠ [] := fun z => by
      have := ds_len xs
      rw [z] at this
      exact h0 (List.eq_nil_of_length_eq_zero this.symm)
    simp only [T.d]
    push_cast
    refine ⟨_, atI_last hnd, ?_⟩
    have e : (T.ds xs).getLast hnd = (T.en (.t xs)).d := by
      simp only [T.ds_map, List.getLast_map, T.en, List.getLast?_eq_some_getLast h0, Option.getD_some]
    rw [e]
    exact hQ
theorem flatMap_map {α β : Type} {g : α → List Str} {xs : List α} : (xs.flatMap fun x => (g x).map D.str) = (xs.flatMap g).map D.str := by
  induction xs with
  | nil => rfl
  | cons x xs ih => rw [List.flatMap_cons, List.flatMap_cons, List.map_append, ih]
theorem d_inner_names : ∀ {n k : Nat} {t : T} {S : Sto} {Q : KE} {E : XE}, t.dp ≤ n → n + 1 ≤ k → t.nm.length < 1000000 → (∀ S', Ext S S' → Q (.tup (t.nm.map D.str)) S') → wC tab k "inner_names" [t.d] S Q E
  | n, k, t, S, Q, E, hn, hk, hz, hQ => by
    refine wd (fd := f_inner_names) (by omega) rfl rfl ?_
    unfold f_inner_names
    have sz := sizeLine_eq
    cases t with
    | s x =>
      simp only [T.d]
      push_cast
      exact ⟨by omega, hQ S .refl⟩
    | t xs =>
      cases n with
      | zero => exact absurd hn (by show ¬ 1 + T.dps xs ≤ 0; omega)
      | succ n =>
        simp only [T.d]
        push_cast
        rw [T.ds_map]
        have hz : (T.nms xs).length < 1000000 := hz
        have ef : (xs.flatMap fun x => (T.nm x).map D.str) = (T.nms xs).map D.str := by rw [T.nms_map]; exact flatMap_map (β := Nat)
        refine loop_ext T.d (fun x => (T.nm x).map D.str) (fun _ _ => trivial) xs [] S .refl (by rw [ef, List.length_map]; simpa using (by omega)) (fun x hx acc S' N e hl hN => ?_) fun S' e p hp => ?_
        · have h1 : T.dp x ≤ n := by
            have := T.dps_le hx
            have : 1 + T.dps xs ≤ n + 1 := hn
            omega
          refine d_inner_names h1 (by omega) (Nat.lt_of_le_of_lt (T.nm_mem hx) hz) fun S2 e2 => ?_
          push_cast
          have e1 : ((T.nm x).flatMap fun y => [D.str y]) = (T.nm x).map D.str := flatMap_one _ _
          refine loop_ext D.str (fun y => [D.str y]) (fun _ _ => trivial) (T.nm x) acc S2 .refl (by rw [e1]; exact hl) (fun y hy acc' S3 N' e3 hl' hN' => ?_) fun S3 e3 => ?_
          · push_cast
            exact ⟨by rw [sizeLine_eq]; simp only [List.length_cons, List.length_nil] at hl'; omega, hN' S3 .refl⟩
          · rw [e1]
            exact hN S3 (e2.trans e3)
        · rw [List.nil_append, ef]
          push_cast
          exact hQ _ (e.trans (Ext.new hp))
  termination_by n => n
theorem d_is_kind {k : Nat} {t : T} {S : Sto} {Q : KE} {E : XE} (hk : 8 ≤ k) (hs : t.sh) (ht : kindB t = true) (hQ : ∀ S', Ext S S' → Q (.bl true) S') : wC tab k "is_kind" [t.d] S Q E := by
  refine wd (fd := f_is_kind) (by omega) rfl rfl ?_
  unfold f_is_kind
  have sz := sizeLine_eq
  unfold kindB at ht
  simp only [Bool.and_eq_true, decide_eq_true_eq] at ht
  push_cast
  refine d_has_form (n := 4) (by omega) hs fun S1 e1 => ?_
  rw [ht.1]
  push_cast
  refine d_inner_names (hf_dp ht.1) (by omega) (by omega) fun S2 e2 => ?_
  push_cast
  rw [List.length_map, decide_eq_true (show ((t.nm.length : Nat) : Int) ≤ 14 by omega)]
  exact hQ _ (e1.trans e2)
theorem d_need_kind {k : Nat} {t : T} {S : Sto} {Q : KE} {E : XE} (hk : 9 ≤ k) (ht : kindB t = true) (hQ : ∀ S', Ext S S' → Q .non S') : wC tab k "need_kind" [t.d] S Q E := by
  refine wd (fd := f_need_kind) (by omega) rfl rfl ?_
  unfold f_need_kind
  have h4 : hf 4 t = true := by
    unfold kindB at ht
    exact (Bool.and_eq_true_iff.mp ht).1
  push_cast
  refine d_is_kind (by omega) (hf_sh h4) ht fun S1 e1 => ?_
  push_cast
  exact hQ _ e1


/-! parts of kinds -/
theorem kindB_hf {t : T} (h : kindB t = true) : hf 4 t = true := by
  unfold kindB at h
  exact (Bool.and_eq_true_iff.mp h).1
theorem kindB_nm {t : T} (h : kindB t = true) : t.nm.length ≤ 14 := by
  unfold kindB at h
  exact of_decide_eq_true (Bool.and_eq_true_iff.mp h).2
theorem hf_ne {n : Nat} {t : T} (h : hf n t = true) : ∀ xs, t = .t xs → xs ≠ [] := by
  rintro xs rfl e
  cases n with
  | zero => cases h
  | succ n =>
    have := (hf_len h).1
    rw [e] at this
    exact absurd this (by decide)
theorem flatMap_bl {α : Type} {g : α → List Bool} {xs : List α} : (xs.flatMap fun x => (g x).map D.bl) = (xs.flatMap g).map D.bl := by
  induction xs with
  | nil => rfl
  | cons x xs ih => rw [List.flatMap_cons, List.flatMap_cons, List.map_append, ih]
theorem pa_hf {n : Nat} {t x : T} (h : hf n t = true) (hx : x ∈ t.pa) : hf (n - 1) x = true ∧ 1 ≤ n := by
  cases t with
  | s y => cases hx
  | t xs =>
    cases n with
    | zero => cases h
    | succ n => exact ⟨hf_all h x (List.dropLast_subset _ hx), by omega⟩
theorem pa_sd {n : Nat} {t x : T} {b : Bool} (h : hf n t = true) (hx : x ∈ t.pa) : (x.sd (!b)).length ≤ (t.sd b).length := by
  rw [T.sd_eq t b, List.length_append]
  have : ∀ ys : List T, x ∈ ys → (x.sd (!b)).length ≤ (ys.flatMap fun x => x.sd (!b)).length := by
    intro ys
    induction ys with
    | nil => intro h; cases h
    | cons y ys ih =>
      intro h
      rw [List.flatMap_cons, List.length_append]
      rcases List.mem_cons.mp h with e | h
      · rw [e]; omega
      · have := ih h; omega
  have := this _ hx
  omega
/-- where it is true -/
def tkD (bs : List Bool) : List D := bs.zipIdx.flatMap fun p => if p.1 = true then [D.int (p.2 : Nat)] else []
theorem tkD_len (bs : List Bool) : (tkD bs).length ≤ bs.length := by
  unfold tkD
  have : ∀ (l : List (Bool × Nat)), (l.flatMap fun p => if p.1 = true then [D.int (p.2 : Nat)] else []).length ≤ l.length := by
    intro l
    induction l with
    | nil => exact Nat.le_refl _
    | cons p l ih =>
      rw [List.flatMap_cons, List.length_append, List.length_cons]
      split
      · simp only [List.length_cons, List.length_nil]; omega
      · simp only [List.length_nil]; omega
  have h := this bs.zipIdx
  rw [List.length_zipIdx] at h
  exact h

/-! the law's own words on kinds -/
theorem l_params {k : Nat} {t : T} {S : Sto} {Q : KE} {E : XE} (hk : 1 ≤ k) (hQ : Q (.tup (T.ds t.pa)) S) : wC tab k "_law_params" [t.d] S Q E := by
  refine wd (fd := f__law_params) hk rfl rfl ?_
  unfold f__law_params
  cases t with
  | s x =>
    simp only [T.d]
    push_cast
    exact ⟨Nat.zero_le _, hQ⟩
  | t xs =>
    simp only [T.d]
    push_cast
    rw [cut_last, ds_dropLast]
    exact hQ
theorem l_end {k : Nat} {t : T} {S : Sto} {Q : KE} {E : XE} (hk : 1 ≤ k) (hne : ∀ xs, t = .t xs → xs ≠ []) (hQ : Q t.en.d S) : wC tab k "_law_end" [t.d] S Q E := by
  refine wd (fd := f__law_end) hk rfl rfl ?_
  unfold f__law_end
  cases t with
  | s x =>
    simp only [T.d]
    push_cast
    exact hQ
  | t xs =>
    have h0 := hne xs rfl
    have hnd : T.ds xs ≠ [] := fun z => by
      have := ds_len xs
      rw [z] at this
      exact h0 (List.eq_nil_of_length_eq_zero this.symm)
    simp only [T.d]
    push_cast
    refine ⟨_, atI_last hnd, ?_⟩
    have e : (T.ds xs).getLast hnd = (T.en (.t xs)).d := by
      simp only [T.ds_map, List.getLast_map, T.en, List.getLast?_eq_some_getLast h0, Option.getD_some]
    rw [e]
    exact hQ
theorem l_places : ∀ {n k : Nat} {t : T} {S : Sto} {Q : KE} {E : XE}, t.dp ≤ n → n + 1 ≤ k → t.nm.length < 1000000 → (∀ p S', Ext S S' → S p = none → S' p = some (.lst (t.nm.map D.str)) → Q (.ref p) S') → wC tab k "_law_places" [t.d] S Q E
  | n, k, t, S, Q, E, hn, hk, hz, hQ => by
    refine wd (fd := f__law_places) (by omega) rfl rfl ?_
    unfold f__law_places
    have sz := sizeLine_eq
    cases t with
    | s x =>
      simp only [T.d]
      push_cast
      exact ⟨by omega, fun p hp => hQ p _ (Ext.new hp) hp put_same⟩
    | t xs =>
      cases n with
      | zero => exact absurd hn (by show ¬ 1 + T.dps xs ≤ 0; omega)
      | succ n =>
        have hz : (T.nms xs).length < 1000000 := hz
        have hd : ∀ x ∈ xs, T.dp x ≤ n := fun x hx => by
          have := T.dps_le hx
          have : 1 + T.dps xs ≤ n + 1 := hn
          omega
        simp only [T.d]
        push_cast
        refine ⟨Nat.zero_le _, fun p hp => ?_⟩
        refine loop_ok (fun zs φ S' => ∃ (ys : List T) (acc : List Str) (q : Nat) (o2 : Option D), zs = T.ds ys ∧ (∀ y ∈ ys, T.dp y ≤ n) ∧ φ = [some (.tup (T.ds xs)), some (.ref q), o2] ∧ S' q = some (.lst (acc.map D.str)) ∧ Ext S S' ∧ S q = none ∧ acc ++ T.nms ys = T.nms xs) (fun _ _ _ _ => trivial) ?_ ?_
          ⟨xs, [], p, none, rfl, hd, rfl, put_same, Ext.new hp, hp, rfl⟩
        · rintro φ S' ⟨ys, acc, q, o2, hy, _, rfl, gq, e, nq, ha⟩
          cases ys with
          | cons _ _ => cases hy
          | nil =>
            push_cast
            refine hQ q S' e nq ?_
            rw [gq, show T.nm (.t xs) = acc from ?_]
            rw [show T.nm (.t xs) = T.nms xs from rfl, ← ha, T.nms, List.append_nil]
        · rintro z zs φ S' N ⟨ys, acc, q, o2, hy, hdy, rfl, gq, e, nq, ha⟩ hN
          cases ys with
          | nil => cases hy
          | cons y ys =>
            cases hy
            have hl : acc.length + y.nm.length ≤ (T.nms xs).length := by
              rw [← ha, T.nms, List.length_append, List.length_append]
              omega
            push_cast
            refine l_places (hdy y List.mem_cons_self) (by omega) (by omega) fun r S2 e2 nr gr => ?_
            have gq2 := e2.k _ _ gq
            push_cast [gq2, gr]
            refine ⟨by rw [List.length_map, List.length_map]; omega, fun u hu => ?_⟩
            have e3 := e.trans (e2.trans (Ext.new (o := .lst (acc.map D.str ++ y.nm.map D.str)) hu))
            refine hN _ _ ⟨ys, acc ++ y.nm, u, some y.d, rfl, fun x hx => hdy x (List.mem_cons_of_mem _ hx), rfl, by rw [put_same, List.map_append], e3, (e.trans e2).none hu, ?_⟩
            rw [← ha, T.nms, List.append_assoc]
  termination_by n => n

/-! the drawn kinds -/
def Wd (v : D) : Prop := ∃ x, v = .str x ∧ nameB x = true
theorem nameB_of {x : Str} (h1 : 1 ≤ x.length) (h2 : x.length ≤ 3) (h3 : ∀ c ∈ x.cps.toList, c ∈ abc.cps.toList) : nameB x = true := by
  unfold nameB
  rw [decide_eq_true h1, decide_eq_true h2]
  simp only [Bool.and_self, Bool.true_and, List.all_eq_true, decide_eq_true_eq]
  exact h3
theorem atI_nat {α : Type} {xs : List α} {i : Int} (h0 : 0 ≤ i) (h1 : i < xs.length) : ∃ v, L2.atI xs i = some v ∧ v ∈ xs := by
  have hi : i.toNat < xs.length := by omega
  refine ⟨xs[i.toNat], ?_, List.getElem_mem hi⟩
  unfold L2.atI L2.ixN
  rw [if_pos h0, if_pos h1]
  exact List.getElem?_eq_getElem hi
theorem l_word {k a l c : Nat} {S : Sto} {Q : KE} {E : XE} (hk : 3 ≤ k) (d : Draw S a l c) (hQ : ∀ x S', nameB x = true → Draw S' a l c → Kp a l S S' → Q (.str x) S') : wC tab k "_law_word" [.ref a] S Q E := by
  refine wd (fd := f__law_word) (by omega) rfl rfl ?_
  unfold f__law_word
  have sz := sizeLine_eq
  push_cast
  refine ⟨by omega, d_take (by omega) d (by decide) (by decide) fun i S1 i0 i1 d1 k1 => ?_⟩
  push_cast
  refine ⟨⟨by omega, by omega⟩, ?_⟩
  refine loop_ok (fun xs φ S' => ∃ (x : Str) (o1 : Option D), φ = [some (.ref a), o1, some (.str abc), some (.str x)] ∧ Draw S' a l c ∧ Kp a l S S' ∧ x.length + xs.length = (1 + i).toNat ∧ ∀ c ∈ x.cps.toList, c ∈ abc.cps.toList) (fun _ _ _ _ => trivial) ?_ ?_ ⟨"", none, rfl, d1, k1, ?_, fun c hc => nomatch hc⟩
  · rintro φ S' ⟨x, o1, rfl, d2, k2, hl, hc⟩
    push_cast
    have hl : x.length = (1 + i).toNat := hl
    exact hQ x S' (nameB_of (by omega) (by omega) hc) d2 k2
  · rintro z zs φ S' N ⟨x, o1, rfl, d2, k2, hl, hc⟩ hN
    push_cast
    refine d_take (by omega) d2 (by decide) (by decide) fun j S2 j0 j1 d3 k3 => ?_
    push_cast
    obtain ⟨c', h1, h2⟩ := atI_nat (xs := abc.cps.toList) j0 (by show j < 26; exact j1)
    refine ⟨by show 26 ≤ sizeLine; omega, c', h1, ?_⟩
    simp only [List.length_cons] at hl
    refine ⟨by show x.length + 1 ≤ sizeLine; omega, hN _ _ ⟨x ++ ⟨#[c']⟩, some z, rfl, d3, k2.trans k3, ?_, ?_⟩⟩
    · show (x.cps ++ #[c']).size + zs.length = _
      rw [Array.size_append]
      have : x.cps.size + (zs.length + 1) = (1 + i).toNat := hl
      show x.cps.size + 1 + zs.length = _
      omega
    · intro c2 hc2
      have hc2 : c2 ∈ (x.cps ++ #[c']).toList := hc2
      rw [Array.toList_append, List.mem_append] at hc2
      rcases hc2 with h | h
      · exact hc c2 h
      · have e : c2 = c' := by simpa using h
        rw [e]; exact h2
  · show (0 : Nat) + (intsF 0 (1 + i).toNat).length = _
    rw [intsF_len, Nat.zero_add]
/-- a list of words of the draws' -/
structure WL (S : Sto) (a l c w : Nat) (ws : List D) : Prop where
  na : w ≠ a
  nl : w ≠ l
  nc : w ≠ c
  at_ : S w = some (.lst ws)
  ok : ∀ v ∈ ws, Wd v
  pos : 0 < ws.length
  few : ws.length ≤ 14
theorem WL.kp {S S' : Sto} {a l c w : Nat} {ws : List D} (h : WL S a l c w ws) (k : Kp a l S S') : WL S' a l c w ws := { h with at_ := k.k _ _ h.at_ h.na h.nl }
theorem WL.mk_ {S : Sto} {a l c w : Nat} {ws : List D} (d : Draw S a l c) (h : S w = none) (ok : ∀ v ∈ ws, Wd v) (p : 0 < ws.length) (f : ws.length ≤ 14) : WL (put S w (.lst ws)) a l c w ws := by
  obtain ⟨h1, h2, h3⟩ := d.ne h
  exact ⟨h1, h2, h3, put_same, ok, p, f⟩
theorem wd_pick {k a l c w : Nat} {ws : List D} {S : Sto} {Q : KE} {E : XE} (hk : 3 ≤ k) (d : Draw S a l c) (h : WL S a l c w ws) (hQ : ∀ x S', nameB x = true → Draw S' a l c → Kp a l S S' → Q (.str x) S') : wC tab k "_law_pick" [.ref a, .ref w] S Q E := by
  refine d_pick hk d h.at_ h.na h.nl h.pos (by have := h.few; omega) fun v S' hv d' k' => ?_
  obtain ⟨x, rfl, hx⟩ := h.ok v hv
  exact hQ x S' hx d' k'
abbrev abn : Str := "abcdefghijklmn"
theorem abn_ok : ∀ v ∈ abn.cps.toList.map (fun c => D.str ⟨#[c]⟩), Wd v := by
  intro v hv
  obtain ⟨c, hc, rfl⟩ := List.mem_map.mp hv
  refine ⟨⟨#[c]⟩, rfl, nameB_of (by show 1 ≤ 1; decide) (by show 1 ≤ 3; decide) fun c2 hc2 => ?_⟩
  have e : c2 = c := by simpa using hc2
  rw [e]
  exact (by decide : ∀ c ∈ abn.cps.toList, c ∈ abc.cps.toList) c hc
theorem abn_len : (abn.cps.toList.map fun c => D.str ⟨#[c]⟩).length = 14 := by decide
theorem cut_to {xs : List D} {i : Int} (h0 : 0 ≤ i) : cutD xs none (some i) = xs.take i.toNat := by
  unfold cutD
  have e : HT.sIx xs.length xs.length (some i) = min i.toNat xs.length := by
    unfold HT.sIx
    dsimp only
    rw [if_neg (by omega)]
  rw [e, HT.sIx_none, Nat.sub_zero, List.drop_zero]
  rcases Nat.le_total i.toNat xs.length with h | h
  · rw [Nat.min_eq_left h]
  · rw [Nat.min_eq_right h, List.take_length, List.take_of_length_le h]
theorem l_words {k a l c : Nat} {S : Sto} {Q : KE} {E : XE} (hk : 4 ≤ k) (d : Draw S a l c) (hQ : ∀ w ws S', WL S' a l c w ws → Draw S' a l c → Kp a l S S' → Q (.ref w) S') : wC tab k "_law_words" [.ref a] S Q E := by
  refine wd (fd := f__law_words) (by omega) rfl rfl ?_
  unfold f__law_words
  have sz := sizeLine_eq
  push_cast
  refine ⟨by omega, fun p hp => ?_⟩
  have np := d.ne hp
  refine d_pick (by omega) (d.new hp) put_same np.1 np.2.1 (by decide) (by decide) fun v S1 hv d1 k1 => ?_
  obtain ⟨m, rfl, m1, m4⟩ : ∃ m : Int, v = .int m ∧ 1 ≤ m ∧ m ≤ 4 := by
    simp only [List.mem_cons, List.not_mem_nil, or_false] at hv
    rcases hv with rfl | rfl | rfl | rfl | rfl | rfl <;> exact ⟨_, rfl, by decide, by decide⟩
  push_cast
  refine ⟨by decide, fun q hq => ?_⟩
  have nq := d1.ne hq
  refine d_take (by omega) (d1.new hq) (by decide) (by decide) fun i S2 i0 i1 d2 k2 => ?_
  have g2 : S2 q = some (.lst (abn.cps.toList.map fun c => D.str ⟨#[c]⟩)) := k2.k _ _ put_same nq.1 nq.2.1
  have kk2 : Kp a l S S2 := (((Kp.new hp).trans k1).trans (Kp.new hq)).trans k2
  have cut : ∀ (S3 : Sto) (n : Int), Draw S3 a l c → Kp a l S S3 → S3 q = some (.lst (abn.cps.toList.map fun c => D.str ⟨#[c]⟩)) → 1 ≤ n → ∀ r, S3 r = none → Q (.ref r) (put S3 r (.lst (cutD (abn.cps.toList.map fun c => D.str ⟨#[c]⟩) none (some n)))) := by
    intro S3 n d3 k3 g3 h1 r hr
    rw [cut_to (by omega)]
    refine hQ r _ _ (WL.mk_ d3 hr (fun v hv => abn_ok v (List.mem_of_mem_take hv)) ?_ ?_) (d3.new hr) (k3.trans (Kp.new hr))
    · rw [List.length_take, abn_len]; omega
    · rw [List.length_take, abn_len]; omega
  push_cast
  split
  · refine ⟨by omega, fun r hr => ?_⟩
    have nr := d2.ne hr
    refine d_pick (by omega) (d2.new hr) put_same nr.1 nr.2.1 (by decide) (by decide) fun v S3 hv d3 k3 => ?_
    obtain ⟨n, rfl, n1⟩ : ∃ n : Int, v = .int n ∧ 1 ≤ n := by
      simp only [List.mem_cons, List.not_mem_nil, or_false] at hv
      rcases hv with rfl | rfl | rfl <;> exact ⟨_, rfl, by decide⟩
    have g3 : S3 q = some (.lst (abn.cps.toList.map fun c => D.str ⟨#[c]⟩)) := k3.k _ _ ((Kp.new hr).k _ _ g2 nq.1 nq.2.1) nq.1 nq.2.1
    push_cast [g3]
    exact cut S3 n d3 ((kk2.trans (Kp.new hr)).trans k3) g3 n1
  · refine d_take (by omega) d2 (by decide) (by decide) fun j S3 j0 j1 d3 k3 => ?_
    have g3 : S3 q = some (.lst (abn.cps.toList.map fun c => D.str ⟨#[c]⟩)) := k3.k _ _ g2 nq.1 nq.2.1
    push_cast [g3]
    split
    · exact cut S3 m d3 (kk2.trans k3) g3 m1
    · refine ⟨⟨by omega, by omega⟩, ?_⟩
      refine loop_ok (fun xs acc S' => Draw S' a l c ∧ Kp a l S S' ∧ (∀ v ∈ acc, Wd v) ∧ acc.length + xs.length = m.toNat) (fun _ _ _ _ => trivial) ?_ ?_ ⟨d3, kk2.trans k3, (fun v hv => nomatch hv), by rw [intsF_len]; exact Nat.zero_add _⟩
      · rintro acc S' ⟨d4, k4, hw, hl⟩ r hr
        have hl : acc.length = m.toNat := hl
        exact hQ r _ _ (WL.mk_ d4 hr hw (by omega) (by omega)) (d4.new hr) (k4.trans (Kp.new hr))
      · rintro z zs acc S' N ⟨d4, k4, hw, hl⟩ hN
        simp only [List.length_cons] at hl
        push_cast
        refine l_word (by omega) d4 fun x S5 hx d5 k5 => ⟨by omega, hN _ _ ⟨d5, k4.trans k5, fun v hv => ?_, by rw [List.length_append]; simp only [List.length_cons, List.length_nil]; omega⟩⟩
        rcases List.mem_append.mp hv with h | h
        · exact hw v h
        · exact ⟨x, by simpa using h, hx⟩
theorem hf_mk {n : Nat} {ts : List T} {x : Str} (h : ∀ t ∈ ts, hf n t = true) (hx : nameB x = true) (h1 : 1 ≤ ts.length) (h2 : ts.length ≤ 7) : hf (n + 1) (.t (ts ++ [.s x])) = true := by
  rw [hf_t]
  simp only [Bool.and_eq_true, List.all_eq_true]
  refine ⟨⟨?_, ?_⟩, ?_⟩
  · unfold wideB
    rw [List.length_append]
    simp only [List.length_cons, List.length_nil, Bool.and_eq_true, decide_eq_true_eq]
    omega
  · unfold endB
    rw [List.getLast?_concat]
    exact hx
  · rw [List.dropLast_concat]
    exact h
theorem l_loose : ∀ {n k a l c w : Nat} {ws : List D} {room : Int} {S : Sto} {Q : KE} {E : XE}, n + 5 ≤ k → 1 ≤ room → room ≤ 1000 → Draw S a l c → WL S a l c w ws → (∀ t S', hf n t = true → (t.nm.length : Int) ≤ room → Draw S' a l c → Kp a l S S' → Q t.d S') →
    wC tab k "_law_loose" [.ref a, .ref w, .int room, .int (n : Nat)] S Q E
  | n, k, a, l, c, w, ws, room, S, Q, E, hk, r1, r2, d, hw, hQ => by
    refine wd (fd := f__law_loose) (by omega) rfl rfl ?_
    unfold f__law_loose
    have sz := sizeLine_eq
    have base : ∀ S' {E' : XE}, Draw S' a l c → Kp a l S S' → wC tab (k - 1) "_law_pick" [.ref a, .ref w] S' Q E' := fun S' E' d' k' => by
      refine wd_pick (by omega) d' (hw.kp k') fun x S2 hx d2 k2 => ?_
      exact hQ (.s x) S2 (hf_s hx) (by show ((1 : Nat) : Int) ≤ room; omega) d2 (k'.trans k2)
    push_cast
    split
    · exact base S d .refl
    rename_i h2
    split
    · exact base S d .refl
    rename_i hn
    refine d_take (by omega) d (by decide) (by decide) fun i S1 i0 i1 d1 k1 => ?_
    push_cast
    split
    · exact base S1 d1 k1
    refine ⟨by omega, fun p hp => ?_⟩
    have np := d1.ne hp
    have np0 := k1.none hp np.1 np.2.1
    have lim : 0 < (if (4 : Int) < room - 1 then 4 else room - 1) ∧ (if (4 : Int) < room - 1 then 4 else room - 1) ≤ 4 := by split <;> omega
    generalize hm : (if (4 : Int) < room - 1 then 4 else room - 1) = m at lim
    refine d_take (by omega) (d1.new hp) lim.1 (by omega) fun j S2 j0 j1 d2 k2 => ?_
    have g2 : S2 p = some (.lst []) := k2.k _ _ put_same np.1 np.2.1
    push_cast
    refine ⟨⟨by omega, by omega⟩, ?_⟩
    obtain ⟨n', rfl⟩ : ∃ n', n = n' + 1 := ⟨n - 1, by omega⟩
    refine loop_ok (fun xs φ S' => ∃ (ts : List T) (left : Int) (o4 : Option D), φ = [some (.ref a), some (.ref w), some (.int room), some (.int ((n' + 1 : Nat) : Int)), o4, some (.ref p), some (.int left)] ∧ Draw S' a l c ∧ Kp a l S S' ∧ S' p = some (.lst (ts.map T.d)) ∧
        (∀ t ∈ ts, hf n' t = true) ∧ ts.length + xs.length ≤ 4 ∧ (1 ≤ ts.length ∨ (1 ≤ xs.length ∧ 1 ≤ left)) ∧ 0 ≤ left ∧ ((T.nms ts).length : Int) + left = room - 1) (fun _ _ _ _ => trivial) ?_ ?_ ⟨[], room - 1, none, rfl, d2, ((k1.trans (Kp.new hp)).trans k2), g2, (fun t ht => nomatch ht), ?_, ?_, by omega, ?_⟩
    · rintro φ S' ⟨ts, left, o4, rfl, d3, k3, g3, hts, hlen, hpos, hl0, hsum⟩
      have hp1 : 1 ≤ ts.length := by
        rcases hpos with h | h
        · exact h
        · exact absurd h.1 (by decide)
      push_cast
      refine wd_pick (by omega) d3 (hw.kp k3) fun x S4 hx d4 k4 => ?_
      have g4 := k4.k _ _ g3 np.1 np.2.1
      push_cast
      refine ⟨by omega, fun q hq => ?_⟩
      have nq := d4.ne hq
      have g5 : put S4 q (.lst [.str x]) p = some (.lst (ts.map T.d)) := (Kp.new hq).k _ _ g4 np.1 np.2.1
      push_cast [g5]
      simp only [List.length_nil] at hlen
      refine ⟨by rw [List.length_map]; omega, fun u hu => ?_⟩
      have d5 := (d4.new (o := .lst [.str x]) hq).new (o := .lst (ts.map T.d ++ [.str x])) hu
      have e : (T.t (ts ++ [.s x])).d = .tup (ts.map T.d ++ [.str x]) := by
        show D.tup (T.ds _) = _
        rw [T.ds_map, List.map_append]
        rfl
      have q' := hQ (.t (ts ++ [.s x])) _ (hf_mk hts hx hp1 (by omega)) (by
        show ((T.nms (ts ++ [.s x])).length : Int) ≤ room
        rw [T.nms_append, List.length_append]
        show (((T.nms ts).length + 1 : Nat) : Int) ≤ room
        omega) d5 (((k3.trans k4).trans (Kp.new hq)).trans (Kp.new hu))
      rw [e] at q'
      exact q'
    · rintro z zs φ S' N ⟨ts, left, o4, rfl, d3, k3, g3, hts, hlen, hpos, hl0, hsum⟩ hN
      simp only [List.length_cons] at hlen hpos
      push_cast
      split
      · rename_i hleft
        push_cast [g3]
        -- behind the inner call
        have after : ∀ (t : T) (S5 : Sto), hf n' t = true → (t.nm.length : Int) ≤ left → Draw S5 a l c → Kp a l S' S5 → S5 p = some (.lst (ts.map T.d)) ∧ (ts.map T.d).length < sizeLine ∧ L2.atI (ts.map T.d ++ [t.d]) (-1) = some t.d ∧
            wC tab (k - 1) "_law_places" [t.d] (put S5 p (.lst (ts.map T.d ++ [t.d]))) (fun x S1 => biW .len [x] S1 fun y S2 => bopW .sub (.int left) y S2 fun d S1 => N [some (.ref a), some (.ref w), some (.int room), some (.int ((n' + 1 : Nat) : Int)), some z, some (.ref p), some d] S1) (fun c a S' => E c a S') := by
          intro t S5 ht hn5 d5 k5
          have g5 := k5.k _ _ g3 np.1 np.2.1
          refine ⟨g5, by rw [List.length_map]; omega, by rw [atI_last (by simp), List.getLast_concat], ?_⟩
          refine l_places (n := n') (hf_dp ht) (by omega) (by omega) fun q S6 e6 nq gq => ?_
          push_cast [gq]
          have d6 : Draw S6 a l c := e6.draw (d5.other (u := .lst []) np.1 np.2.1 np.2.2)
          have g6 : S6 p = some (.lst ((ts ++ [t]).map T.d)) := by rw [List.map_append]; exact e6.k _ _ put_same
          refine hN _ _ ⟨ts ++ [t], left - t.nm.length, some z, by rw [List.length_map], d6, ((k3.trans k5).put np0).trans e6.kp, g6, ?_, ?_, ?_, by omega, ?_⟩
          · intro y hy
            rcases List.mem_append.mp hy with h | h
            · exact hts y h
            · have e : y = t := by simpa using h
              rw [e]; exact ht
          · rw [List.length_append]; simp only [List.length_cons, List.length_nil]; omega
          · left; rw [List.length_append]; simp only [List.length_cons, List.length_nil]; omega
          · rw [T.nms_append, List.length_append]
            show (((T.nms ts).length + ((t.nm ++ []).length) : Nat) : Int) + (left - (t.nm.length : Int)) = room - 1
            rw [List.append_nil]
            omega
        have deep : ((n' + 1 : Nat) : Int) - 1 = ((n' : Nat) : Int) := by omega
        split
        · refine ⟨by omega, fun q hq => ?_⟩
          have nq := d3.ne hq
          refine d_pick (by omega) (d3.new hq) put_same nq.1 nq.2.1 (Nat.succ_pos _) (show 4 < 1073741824 by decide) fun v S4 hv d4 k4 => ?_
          obtain ⟨r, rfl, hr1, hr2⟩ : ∃ r : Int, v = .int r ∧ 1 ≤ r ∧ r ≤ left := by
            simp only [List.mem_cons, List.not_mem_nil, or_false] at hv
            rcases hv with rfl | rfl | rfl | rfl <;> exact ⟨_, rfl, by omega, by omega⟩
          have k34 : Kp a l S' S4 := (Kp.new hq).trans k4
          push_cast
          rw [deep]
          refine l_loose (by omega) hr1 (by omega) d4 (hw.kp (k3.trans k34)) fun t S5 ht hn5 d5 k5 => ?_
          obtain ⟨a1, a2, a3, a4⟩ := after t S5 ht (by omega) d5 (k34.trans k5)
          push_cast [a1, a3]
          exact ⟨a2, a4⟩
        · rw [deep]
          refine l_loose (by omega) (by decide) (by decide) d3 (hw.kp k3) fun t S5 ht hn5 d5 k5 => ?_
          obtain ⟨a1, a2, a3, a4⟩ := after t S5 ht (by omega) d5 k5
          push_cast [a1, a3]
          exact ⟨a2, a4⟩
      · rename_i hleft
        refine hN _ _ ⟨ts, left, some z, rfl, d3, k3, g3, hts, by omega, ?_, hl0, hsum⟩
        rcases hpos with h | h
        · exact .inl h
        · omega
    · rw [intsF_len]; simp only [List.length_nil]; omega
    · right; rw [intsF_len]; omega
    · show ((0 : Nat) : Int) + (room - 1) = room - 1
      omega
  termination_by n => n
  decreasing_by all_goals omega


/-! small data, shown -/
structure Sm (n w : Nat) (d : PyData) : Prop where
  lay : d.canLay0 = true
  dep : d.depth ≤ n
  wgt : d.weight ≤ w
  int : d.intsShort 13 = true
  shw : d.showable = true
theorem Sm.mono {n m w v : Nat} {d : PyData} (h : Sm n w d) (a : n ≤ m) (b : w ≤ v) : Sm m v d := { h with dep := Nat.le_trans h.dep a, wgt := Nat.le_trans h.wgt b }
theorem Sm.i {i : Int} (h : i.natAbs < 10 ^ 12) : Sm 0 41 (.int i) := by
  have hl : i.natAbs.log2 ≤ 39 := by
    by_cases h0 : i.natAbs = 0
    · rw [h0]; decide
    · have h1 : (10 : Nat) ^ 12 ≤ 2 ^ 40 := by decide
      have h2 := (Nat.log2_lt h0 (k := 40)).mpr (Nat.lt_of_lt_of_le h h1)
      omega
  refine ⟨rfl, Nat.zero_le _, ?_, ?_, ?_⟩
  · show (if i == 0 then 0 else i.natAbs.log2 + 1) ≤ 41
    split <;> omega
  · show decide ((PyData.shown (.int i)).length ≤ 13) = true
    exact decide_eq_true (PyData.shown_int_le h)
  · show decide (i.natAbs.log2 < 1920) = true
    exact decide_eq_true (by omega)
theorem Sm.s {x : Str} {m : Nat} (h : PyData.strOk x = true) (l : x.length ≤ m) : Sm 0 m (.str x) := ⟨h, Nat.zero_le _, l, rfl, rfl⟩
theorem Sm.b {b : Bool} : Sm 0 0 (.bool b) := ⟨rfl, Nat.zero_le _, Nat.zero_le _, rfl, rfl⟩
theorem Sm.n : Sm 0 0 .none := ⟨rfl, Nat.zero_le _, Nat.zero_le _, rfl, rfl⟩
theorem Sm.all {n w : Nat} : ∀ {xs : List PyData}, (∀ x ∈ xs, Sm n w x) → PyData.canLayAll0 xs = true ∧ PyData.depthAll xs ≤ n ∧ PyData.weightAll xs ≤ xs.length * (w + 1) ∧ PyData.intsShortAll 13 xs = true ∧ PyData.showableAll xs = true
  | [], _ => ⟨rfl, Nat.zero_le _, Nat.zero_le _, rfl, rfl⟩
  | x :: xs, h => by
    have h1 := h x List.mem_cons_self
    obtain ⟨a, b, _, d, e⟩ := Sm.all fun y hy => h y (List.mem_cons_of_mem _ hy)
    refine ⟨?_, ?_, weightAll_le fun y hy => (h y hy).wgt, ?_, ?_⟩
    · show (x.canLay0 && PyData.canLayAll0 xs) = true
      rw [h1.lay, a]; rfl
    · show max x.depth (PyData.depthAll xs) ≤ n
      exact Nat.max_le.mpr ⟨h1.dep, b⟩
    · show (x.intsShort 13 && PyData.intsShortAll 13 xs) = true
      rw [h1.int, d]; rfl
    · show (x.showable && PyData.showableAll xs) = true
      rw [h1.shw, e]; rfl
theorem Sm.l {n w m : Nat} {xs : List PyData} (h : ∀ x ∈ xs, Sm n w x) (l : xs.length ≤ m) : Sm (n + 1) (m * (w + 1)) (.list xs) := by
  obtain ⟨a, b, c, d, e⟩ := Sm.all h
  exact ⟨a, by show PyData.depthAll xs + 1 ≤ n + 1; omega, Nat.le_trans (show PyData.weightAll xs ≤ _ from c) (Nat.mul_le_mul_right _ l), d, e⟩
theorem Sm.t {n w m : Nat} {xs : List PyData} (h : ∀ x ∈ xs, Sm n w x) (l : xs.length ≤ m) : Sm (n + 1) (m * (w + 1)) (.tuple xs) := by
  obtain ⟨a, b, c, d, e⟩ := Sm.all h
  exact ⟨a, by show PyData.depthAll xs + 1 ≤ n + 1; omega, Nat.le_trans (show PyData.weightAll xs ≤ _ from c) (Nat.mul_le_mul_right _ l), d, e⟩
/-- such data may be shown -/
theorem Sm.repr {n w : Nat} {d : PyData} (h : Sm n w d) (hn : n ≤ 64) (hw : w ≤ 2 ^ 20) : d.showable = true ∧ d.hasDict = false ∧ d.depth ≤ 64 ∧ d.shown.length ≤ sizeLine := by
  have hd : d.depth ≤ 64 := Nat.le_trans h.dep hn
  refine ⟨h.shw, PyData.hasDict_of_canLay d h.lay, hd, PyData.shown_fits_of_layable0 (B := 13) (by decide) (by decide) ?_ h.int⟩
  show (d.canLay0 && decide (d.depth ≤ 64) && decide (d.weight ≤ 2 ^ 20)) = true
  rw [h.lay, decide_eq_true hd, decide_eq_true (Nat.le_trans h.wgt hw)]
  rfl
theorem Sm.shaped {n w : Nat} {d : PyData} (h : Sm n w d) (hn : n ≤ 64) : SeqAt.shaped d = true := by
  show (d.canLay0 && decide (d.depth ≤ 64)) = true
  rw [h.lay, decide_eq_true (Nat.le_trans h.dep hn)]
  rfl
theorem Sm.kind {n : Nat} {t : T} (h : hf n t = true) : Sm n (wt n) t.py := by
  have key : ∀ {n : Nat} {t : T}, hf n t = true → t.py.showable = true := by
    intro n
    induction n with
    | zero =>
      intro t h
      cases t with
      | s x => rfl
      | t xs => cases h
    | succ n ih =>
      intro t h
      cases t with
      | s x => rfl
      | t xs =>
        have al := hf_all h
        have : ∀ ys : List T, (∀ y ∈ ys, hf n y = true) → PyData.showableAll (T.pys ys) = true := by
          intro ys
          induction ys with
          | nil => intro _; rfl
          | cons y ys hi =>
            intro hy
            show ((T.py y).showable && PyData.showableAll (T.pys ys)) = true
            rw [ih (hy y List.mem_cons_self), hi fun z hz => hy z (List.mem_cons_of_mem _ hz)]
            rfl
        exact this xs al
  obtain ⟨a, b, c, d⟩ := hf_wt h
  exact ⟨b, c, a, d, key h⟩
theorem nm_ok : ∀ {n : Nat} {t : T}, hf n t = true → ∀ x ∈ t.nm, nameB x = true
  | n, .s x, h, y, hy => by
    have hb : nameB x = true := by cases n <;> exact h
    have e : y = x := by simpa [T.nm] using hy
    rw [e]; exact hb
  | 0, .t xs, h, _, _ => by cases h
  | n + 1, .t xs, h, y, hy => by
    have hy : y ∈ T.nms xs := hy
    rw [T.nms_map] at hy
    obtain ⟨x, hx, hy⟩ := List.mem_flatMap.mp hy
    exact nm_ok (hf_all h x hx) y hy
theorem od_le : ∀ {n : Nat} {t : T}, hf n t = true → t.od ≤ n
  | n, .s x, _ => Nat.zero_le _
  | 0, .t xs, h => by cases h
  | n + 1, .t xs, h => by
    have hw := (hf_len h).1
    obtain ⟨x, hx, e⟩ := T.ods_mem (xs := xs) (fun z => by
      have := congrArg List.length z
      rw [List.length_dropLast] at this
      simp only [List.length_nil] at this
      omega)
    have := od_le (hf_all h x (List.dropLast_subset _ hx))
    show 1 + T.ods xs ≤ n + 1
    omega


/-! programs as trees -/
inductive P where | p (i : Int) (xs : List P)
namespace P
mutual
def d : P → D
  | .p i xs => .tup (.int i :: ds xs)
def ds : List P → List D
  | [] => []
  | x :: xs => d x :: ds xs
end
mutual
def py : P → PyData
  | .p i xs => .tuple (.int i :: pys xs)
def pys : List P → List PyData
  | [] => []
  | x :: xs => py x :: pys xs
end
mutual
def dp : P → Nat
  | .p _ xs => 1 + dps xs
def dps : List P → Nat
  | [] => 0
  | x :: xs => max (dp x) (dps xs)
end
theorem ds_map : ∀ xs : List P, ds xs = xs.map d
  | [] => rfl
  | x :: xs => by rw [ds, ds_map xs]; rfl
theorem pys_map : ∀ xs : List P, pys xs = xs.map py
  | [] => rfl
  | x :: xs => by rw [pys, pys_map xs]; rfl
theorem ds_len (xs : List P) : (ds xs).length = xs.length := by rw [ds_map, List.length_map]
mutual
theorem py_of {S : Sto} : ∀ t : P, PyOf S (d t) (py t)
  | .p i xs => .tup (.cons (.int i) (pys_of xs))
theorem pys_of {S : Sto} : ∀ xs : List P, PyOfs S (ds xs) (pys xs)
  | [] => .nil
  | x :: xs => .cons (py_of x) (pys_of xs)
end
end P
/-- the end's name -/
def eN : T → Str
  | .s x => x
  | .t xs => match xs.getLast? with
    | some (.s y) => y
    | _ => ""
theorem en_name {n : Nat} {t : T} (h : hf n t = true) : t.en = .s (eN t) := by
  cases t with
  | s x => rfl
  | t xs =>
    cases n with
    | zero => cases h
    | succ n =>
      obtain ⟨y, e, _⟩ := hf_last h
      have q : xs.getLast? = some (.s y) := by rw [e, List.getLast?_concat]
      show (xs.getLast?).getD (.t []) = .s (match xs.getLast? with | some (.s y) => y | _ => "")
      rw [q]
      rfl
/-- all are kinds -/
def HK (hs : List T) : Prop := ∀ h ∈ hs, hf 4 h = true
theorem HK.pa {t : T} (h : hf 4 t = true) : HK t.pa := fun x hx => hf_mono (by decide) (pa_hf h hx).1
theorem HK.app {hs gs : List T} (h : HK hs) (g : HK gs) : HK (hs ++ gs) := fun x hx => by
  rcases List.mem_append.mp hx with q | q
  · exact h x q
  · exact g x q
theorem pa_few {t : T} (h : hf 4 t = true) : t.pa.length ≤ 7 := by
  cases t with
  | s x => exact Nat.zero_le _
  | t xs =>
    have := (hf_len h).2
    show xs.dropLast.length ≤ 7
    rw [List.length_dropLast]
    omega
/-- the helper at an index -/
def at? (hs : List T) (i : Int) : Option T := if 0 ≤ i then hs[i.toNat]? else none
mutual
/-- is_term -/
def tmB (hs : List T) (w : Str) : P → Bool
  | .p i xs => match at? hs i with
    | none => false
    | some h => decide (eN h = w) && decide (xs.length = h.pa.length) && tmBs hs h.pa xs
def tmBs (hs : List T) : List T → List P → Bool
  | _, [] => true
  | ts, x :: xs => match ts with
    | [] => true
    | t :: r => tmB (hs ++ t.pa) (eN t) x && tmBs hs r xs
end
def hdB (hs : List T) (w : Str) : P → Bool
  | .p i xs => match at? hs i with
    | none => false
    | some h => decide (eN h = w) && decide (xs.length = h.pa.length)
theorem tmBs_nil (hs ts : List T) : tmBs hs ts [] = true := by unfold tmBs; rfl
theorem tmBs_cons (hs : List T) (t : T) (ts : List T) (y : P) (ys : List P) : tmBs hs (t :: ts) (y :: ys) = (tmB (hs ++ t.pa) (eN t) y && tmBs hs ts ys) := by rw [tmBs]
theorem tmB_inv {hs : List T} {w : Str} {i : Int} {xs : List P} (h : tmB hs w (.p i xs) = true) : ∃ g, at? hs i = some g ∧ eN g = w ∧ xs.length = g.pa.length ∧ tmBs hs g.pa xs = true := by
  unfold tmB at h
  cases e : at? hs i with
  | none => rw [e] at h; cases h
  | some g =>
    rw [e] at h
    simp only [Bool.and_eq_true, decide_eq_true_eq] at h
    exact ⟨g, rfl, h.1.1, h.1.2, h.2⟩
theorem d_is_number_i {k : Nat} {i : Int} {S : Sto} {Q : KE} {E : XE} (hk : 1 ≤ k) (hQ : Q (.bl true) S) : wC tab k "is_number" [.int i] S Q E := by
  refine wd (fd := f_is_number) hk rfl rfl ?_
  unfold f_is_number
  push_cast
  exact hQ
theorem at_get {hs : List T} {i : Int} {h : T} (e : at? hs i = some h) : 0 ≤ i ∧ i < hs.length ∧ L2.atI (T.ds hs) i = some h.d ∧ h ∈ hs := by
  unfold at? at e
  by_cases h0 : 0 ≤ i
  · rw [if_pos h0] at e
    obtain ⟨hl, he⟩ := List.getElem?_eq_some_iff.mp e
    refine ⟨h0, by omega, ?_, by rw [← he]; exact List.getElem_mem hl⟩
    unfold L2.atI L2.ixN
    rw [if_pos h0, ds_len, if_pos (by omega)]
    show (T.ds hs)[i.toNat]? = _
    rw [T.ds_map, List.getElem?_map, e]
    rfl
  · rw [if_neg h0] at e
    cases e
theorem at_none {hs : List T} {i : Int} (e : at? hs i = none) : ¬ (0 ≤ i ∧ i < hs.length) := by
  rintro ⟨h0, h1⟩
  unfold at? at e
  rw [if_pos h0, List.getElem?_eq_none_iff] at e
  omega
theorem atI_0 {x : D} {xs : List D} : L2.atI (x :: xs) 0 = some x := by
  unfold L2.atI L2.ixN
  rw [if_pos (by decide), if_pos (by simp only [List.length_cons]; omega)]
  rfl
theorem cut_from1 (x : D) (xs : List D) : cutD (x :: xs) (some 1) none = xs := by
  unfold cutD
  have e : HT.sIx (x :: xs).length 0 (some 1) = 1 := by
    unfold HT.sIx
    dsimp only
    rw [if_neg (by decide)]
    simp only [List.length_cons]
    show min 1 (xs.length + 1) = 1
    omega
  rw [e, HT.sIx_none]
  show xs.take ((x :: xs).length - 1) = xs
  rw [List.length_cons, Nat.add_sub_cancel]
  exact List.take_length
theorem zip_cons {x y : D} {xs ys : List D} : zipped (x :: xs) (y :: ys) = .tup [x, y] :: zipped xs ys := rfl
theorem dps_mem {xs : List P} {x : P} (h : x ∈ xs) : x.dp ≤ P.dps xs := by
  induction xs with
  | nil => cases h
  | cons y ys ih =>
    rw [P.dps]
    rcases List.mem_cons.mp h with e | h
    · rw [e]; exact Nat.le_max_left _ _
    · exact Nat.le_trans (ih h) (Nat.le_max_right _ _)

/-! programs: the library -/
def prB (t : T) (p : P) : Bool := tmB t.pa (eN t) p
namespace P
mutual
def sz : P → Nat
  | .p _ xs => 1 + szs xs
def szs : List P → Nat
  | [] => 0
  | x :: xs => sz x + szs xs
end
mutual
def pth : P → List (List Int)
  | .p _ xs => [] :: pths 0 xs
def pths : Nat → List P → List (List Int)
  | _, [] => []
  | n, x :: xs => (pth x).map (fun r => ((n : Nat) : Int) :: r) ++ pths (n + 1) xs
end
mutual
theorem pth_len : ∀ t : P, (pth t).length = sz t
  | .p _ xs => by rw [pth, List.length_cons, pths_len 0 xs, sz, Nat.add_comm]
theorem pths_len : ∀ (n : Nat) (xs : List P), (pths n xs).length = szs xs
  | _, [] => rfl
  | n, x :: xs => by rw [pths, List.length_append, List.length_map, pth_len x, pths_len (n + 1) xs, szs]
end
theorem szs_mem {xs : List P} {x : P} (h : x ∈ xs) : sz x ≤ szs xs := by
  induction xs with
  | nil => cases h
  | cons y ys ih =>
    rw [szs]
    rcases List.mem_cons.mp h with e | h
    · rw [e]; omega
    · have := ih h; omega
theorem len_szs (xs : List P) : xs.length ≤ szs xs := by
  induction xs with
  | nil => exact Nat.le_refl _
  | cons y ys ih =>
    rw [szs, List.length_cons]
    have : 1 ≤ sz y := by cases y; unfold sz; omega
    omega
theorem dp_le_sz : ∀ t : P, dp t ≤ sz t
  | .p _ xs => by
    unfold dp sz
    have : ∀ ys : List P, (∀ y ∈ ys, dp y ≤ sz y) → dps ys ≤ szs ys := by
      intro ys
      induction ys with
      | nil => intro _; exact Nat.le_refl _
      | cons y ys ih =>
        intro h
        unfold dps szs
        have h1 := h y List.mem_cons_self
        have h2 := ih fun z hz => h z (List.mem_cons_of_mem _ hz)
        omega
    have := this xs fun y hy => dp_le_sz y
    omega
end P
theorem sum_sz : ∀ xs : List P, (xs.map fun x => ((x.sz : Nat) : Int)).sum = ((P.szs xs : Nat) : Int)
  | [] => rfl
  | x :: xs => by rw [List.map_cons, List.sum_cons, sum_sz xs, P.szs]; omega
theorem P.dps_in : ∀ {xs : List P}, xs ≠ [] → ∃ x ∈ xs, x.dp = P.dps xs
  | [], h => absurd rfl h
  | x :: xs, _ => by
    by_cases hx : xs = []
    · subst hx
      exact ⟨x, List.mem_cons_self, by show x.dp = max x.dp 0; omega⟩
    · obtain ⟨y, hy, e⟩ := P.dps_in hx
      by_cases h : x.dp ≤ P.dps xs
      · exact ⟨y, List.mem_cons_of_mem _ hy, by rw [P.dps, e]; omega⟩
      · exact ⟨x, List.mem_cons_self, by rw [P.dps]; omega⟩
namespace P
mutual
theorem pth_row : ∀ (t : P) (r : List Int), r ∈ pth t → r.length < sz t
  | .p _ xs, r, h => by
    rw [pth] at h
    rw [sz]
    rcases List.mem_cons.mp h with e | h
    · rw [e, List.length_nil]; omega
    · have := pths_row 0 xs r h; omega
theorem pths_row : ∀ (n : Nat) (xs : List P) (r : List Int), r ∈ pths n xs → r.length ≤ szs xs
  | _, [], r, h => by cases h
  | n, x :: xs, r, h => by
    rw [pths] at h
    rw [szs]
    rcases List.mem_append.mp h with h | h
    · obtain ⟨s, hs, rfl⟩ := List.mem_map.mp h
      have := pth_row x s hs
      rw [List.length_cons]
      omega
    · have := pths_row (n + 1) xs r h; omega
end
end P
/-- a row of whole numbers -/
def rwD (r : List Int) : D := .tup (r.map D.int)
theorem allB_true {α : Type} : ∀ xs : List α, allB (xs.map fun _ => D.bl true) = some true
  | [] => rfl
  | x :: xs => by
    show (allB (xs.map fun _ => D.bl true)).map _ = _
    rw [allB_true xs]
    rfl
/-- the term at a path -/
def fnd : List T → Str → P → List Int → Option (List T × Str × P)
  | hs, w, t, [] => some (hs, w, t)
  | hs, _, .p i xs, j :: js => match at? hs i with
    | none => none
    | some h => match at? h.pa j with
      | none => none
      | some g => if 0 ≤ j then match xs[j.toNat]? with
        | none => none
        | some x => fnd (hs ++ g.pa) (eN g) x js
        else none

/-! lists of texts, of rows; a while; shuffled -/
theorem whl_ok {c : Fr → Sto → KE → Prop} {b : Pi.End → Fr → Sto → Prop} {D : Pi.End} (I : Nat → Fr → Sto → Prop)
    (h : ∀ m φ S W, I m φ S → (∀ m' φ' S', m = m' + 1 → I m' φ' S' → W φ' S') → c φ S fun d S1 => ∃ k, d = .bl k ∧ (if k = true then b { D with nx := W, ct := W, bk := D.nx } φ S1 else D.nx φ S1)) :
    ∀ (m : Nat) {φ : Fr} {S : Sto}, I m φ S → whlW c b D (m + 1) φ S
  | 0, φ, S, hI => h 0 φ S (whlW c b D 0) hI fun m' _ _ e _ => by cases e
  | m + 1, φ, S, hI => h (m + 1) φ S (whlW c b D (m + 1)) hI fun m' _ _ e hI' => by cases e; exact whl_ok I h m hI'
theorem eqv_nilS : ∀ ls : List Str, PyData.eqv (.list (ls.map PyData.str)) (.list []) = decide (ls = [])
  | [] => rfl
  | _ :: _ => rfl
theorem sS_py {S : Sto} : ∀ l : List Str, PyOfs S (l.map D.str) (l.map PyData.str)
  | [] => .nil
  | x :: l => .cons (.str x) (sS_py l)
theorem erase_map {α β : Type} (f : α → β) : ∀ (xs : List α) (i : Nat), (xs.map f).eraseIdx i = (xs.eraseIdx i).map f
  | [], _ => rfl
  | _ :: _, 0 => rfl
  | x :: xs, i + 1 => by
    show f x :: (xs.map f).eraseIdx i = f x :: (xs.eraseIdx i).map f
    rw [erase_map f xs i]
theorem shaped_strs (ls : List Str) (h : ∀ z ∈ ls, PyData.strOk z = true) : SeqAt.shaped (.list (ls.map PyData.str)) = true := by
  have e : ∀ l : List Str, (∀ z ∈ l, PyData.strOk z = true) → PyData.canLayAll0 (l.map PyData.str) = true ∧ PyData.depthAll (l.map PyData.str) = 0 := by
    intro l
    induction l with
    | nil => intro _; exact ⟨rfl, rfl⟩
    | cons x l ih =>
      intro h
      obtain ⟨a, b⟩ := ih fun z hz => h z (List.mem_cons_of_mem _ hz)
      have c := h x List.mem_cons_self
      simp [PyData.canLayAll0, PyData.canLay0, PyData.depthAll, PyData.depth, a, b, c]
  obtain ⟨a, b⟩ := e ls h
  simp [SeqAt.shaped, PyData.canLay0, PyData.depth, a, b]
theorem d_shuffled {k a l c p : Nat} {ns : List Str} {S : Sto} {Q : KE} {E : XE} (hk : 4 ≤ k) (d : Draw S a l c) (hp : S p = some (.lst (ns.map D.str))) (hn : ns.length ≤ 1000) (hok : ∀ z ∈ ns, PyData.strOk z = true)
    (hQ : ∀ q (zs : List Str) S', Draw S' a l c → Kp a l S S' → S q = none → S' q = some (.lst (zs.map D.str)) → zs.length = ns.length → (∀ z ∈ zs, z ∈ ns) → Q (.ref q) S') : wC tab k "_law_shuffled" [.ref a, .ref p] S Q E := by
  refine wd (fd := f__law_shuffled) (by omega) rfl rfl ?_
  unfold f__law_shuffled
  have sz := sizeLine_eq
  push_cast [hp]
  intro x hx
  refine ⟨by omega, fun y hy => ⟨ns.length + 1, ?_⟩⟩
  have nx := d.ne hx
  have d1 := d.new (o := .lst (ns.map D.str)) hx
  have ny := d1.ne hy
  have xy : ¬ x = y := fun e => by rw [← e, put_same] at hy; cases hy
  have yx : ¬ y = x := fun e => xy e.symm
  have Sy : S y = none := by rw [put_ne yx] at hy; exact hy
  refine whl_ok (fun m φ S1 => ∃ pool found : List Str, φ = [some (.ref a), some (.ref p), some (.ref x), some (.ref y)] ∧ pool.length = m ∧ pool.length + found.length = ns.length ∧ Draw S1 a l c ∧ Kp a l S S1 ∧ S1 x = some (.lst (pool.map D.str)) ∧ S1 y = some (.lst (found.map D.str)) ∧ (∀ z ∈ pool, z ∈ ns) ∧ (∀ z ∈ found, z ∈ ns)) ?_ ns.length ⟨ns, [], rfl, rfl, rfl, d1.new hy, (Kp.new hx).trans (Kp.new hy), by rw [put_ne xy]; exact put_same, put_same, fun _ h => h, fun _ h => by cases h⟩
  rintro m φ S1 W ⟨pool, found, rfl, hm, hlen, d2, k2, gx, gy, p1, p2⟩ hW
  push_cast
  refine ⟨by omega, fun z hz => ?_⟩
  have nz := d2.ne hz
  have zx : ¬ x = z := fun e => by rw [← e, gx] at hz; cases hz
  have zy : ¬ y = z := fun e => by rw [← e, gy] at hz; cases hz
  have gx' : put S1 z (.lst []) x = some (.lst (pool.map D.str)) := by rw [put_ne zx]; exact gx
  have gy' : put S1 z (.lst []) y = some (.lst (found.map D.str)) := by rw [put_ne zy]; exact gy
  have d3 := d2.new (o := .lst []) hz
  refine ⟨.list (pool.map PyData.str), .list [], .lst gx' (sS_py pool), .lst put_same .nil, shaped_strs _ fun z hz => hok z (p1 z hz), rfl, ?_⟩
  rw [eqv_nilS]
  cases pool with
  | nil =>
    push_cast
    rw [List.length_nil, Nat.zero_add] at hlen
    exact hQ y found _ d3 (k2.trans (Kp.new hz)) Sy gy' hlen p2
  | cons v pool =>
    have vn : ¬ v :: pool = [] := fun e => by cases e
    rw [decide_eq_false vn]
    push_cast [gx', gy']
    have hlen' : pool.length + 1 + found.length = ns.length := hlen
    have hm' : pool.length + 1 = m := hm
    have ml : (List.map D.str pool).length = pool.length := List.length_map _
    have ml2 : (List.map D.str (v :: pool)).length = pool.length + 1 := List.length_map _
    refine d_take (by omega) d3 (by omega) (by omega) fun i S3 i0 i1 d4 k4 => ?_
    have gx3 := k4.k _ _ gx' nx.1 nx.2.1
    have gy3 := k4.k _ _ gy' ny.1 ny.2.1
    have ik : (i.toNat : Int) = i := by omega
    have il : i.toNat < (v :: pool).length := by rw [List.length_cons]; omega
    obtain ⟨u, hu⟩ : ∃ u, (v :: pool)[i.toNat]? = some u := ⟨_, List.getElem?_eq_getElem il⟩
    have um : u ∈ v :: pool := List.mem_of_getElem? hu
    rw [x_popa]
    refine ⟨_, gx3, i.toNat, .str u, by omega, by omega, ?_, by rw [List.getElem?_map, hu]; rfl, ?_⟩
    · rw [List.length_map]
      exact seqIndex_of i0 (by rw [List.length_cons]; omega)
    · refine ⟨_, by rw [put_ne yx]; exact gy3, by rw [List.length_map]; omega, ?_⟩
      have em : ((v :: pool).map D.str).eraseIdx i.toNat = ((v :: pool).eraseIdx i.toNat).map D.str := erase_map _ _ _
      have ef : found.map D.str ++ [D.str u] = (found ++ [u]).map D.str := by rw [List.map_append]; rfl
      have le : ((v :: pool).eraseIdx i.toNat).length = pool.length := by rw [List.length_eraseIdx, if_pos il]; rfl
      rw [ef]
      refine hW pool.length _ _ (by rw [← hm]; rfl) ⟨(v :: pool).eraseIdx i.toNat, found ++ [u], rfl, le, by rw [le, List.length_append, List.length_singleton]; omega, ?_, ?_, ?_, put_same, fun w hw => p1 w (List.mem_of_mem_eraseIdx hw), ?_⟩
      · exact (d4.other (u := .lst []) nx.1 nx.2.1 nx.2.2).other (u := .lst []) ny.1 ny.2.1 ny.2.2
      · have xS : S x = none := hx
        exact (((k2.trans (Kp.new hz)).trans k4).put xS).put Sy
      · rw [put_ne xy, put_same, em]
      · intro w hw
        rcases List.mem_append.mp hw with q | q
        · exact p2 w q
        · rw [List.mem_singleton.mp q]; exact p1 u um
def rwP (r : List Int) : PyData := .tuple (r.map PyData.int)
theorem rows_py {S : Sto} : ∀ rs : List (List Int), PyOfs S (rs.map rwD) (rs.map rwP)
  | [] => .nil
  | r :: rs => .cons (.tup (iL_py r)) (rows_py rs)
theorem shaped_rows (rs : List (List Int)) : SeqAt.shaped (.list (rs.map rwP)) = true := by
  have e : ∀ l : List (List Int), PyData.canLayAll0 (l.map rwP) = true ∧ PyData.depthAll (l.map rwP) ≤ 1 := by
    intro l
    induction l with
    | nil => exact ⟨rfl, Nat.zero_le _⟩
    | cons x l ih =>
      obtain ⟨a, b⟩ := ih
      have c1 := PySem.W.ke_canLayAll0 x
      have c2 := PySem.W.ke_depthAll x
      refine ⟨?_, ?_⟩
      · simp [PyData.canLayAll0, PyData.canLay0, rwP, a, c1]
      · simp [PyData.depthAll, PyData.depth, rwP, c2]; omega
  obtain ⟨a, b⟩ := e rs
  simp [SeqAt.shaped, PyData.canLay0, PyData.depth, a]
  omega
theorem eqD_same {a b : D} {d : PyData} {S : Sto} {q : Bool → Prop} (h1 : PyOf S a d) (h2 : PyOf S b d) (hs : SeqAt.shaped d = true) (hq : q true) : eqD a b S q :=
  ⟨d, d, h1, h2, hs, hs, by rw [SeqAt.eqv_refl d (SeqAt.canLay_of_shaped hs)]; exact hq⟩
theorem shaped_hs {hs : List T} (h : HK hs) : SeqAt.shaped (.tuple (T.pys hs)) = true := by
  have e : ∀ l : List T, HK l → PyData.canLayAll0 (T.pys l) = true ∧ PyData.depthAll (T.pys l) ≤ 4 := by
    intro l
    induction l with
    | nil => intro _; exact ⟨rfl, Nat.zero_le _⟩
    | cons x l ih =>
      intro h
      obtain ⟨a, b⟩ := ih fun z hz => h z (List.mem_cons_of_mem _ hz)
      obtain ⟨_, c1, c2, _⟩ := hf_wt (h x List.mem_cons_self)
      refine ⟨?_, ?_⟩
      · simp [T.pys, PyData.canLayAll0, a, c1]
      · simp [T.pys, PyData.depthAll]; omega
  obtain ⟨a, b⟩ := e hs h
  simp [SeqAt.shaped, PyData.canLay0, PyData.depth, a]
  omega

/-! values in a drawn order -/
theorem map_py {α : Type} {f : α → D} {py : α → PyData} (hf : ∀ S x, PyOf S (f x) (py x)) {S : Sto} : ∀ l : List α, PyOfs S (l.map f) (l.map py)
  | [] => .nil
  | x :: l => .cons (hf S x) (map_py hf l)
theorem eqv_nilG {α : Type} {py : α → PyData} : ∀ ls : List α, PyData.eqv (.list (ls.map py)) (.list []) = ls.isEmpty
  | [] => rfl
  | _ :: _ => rfl
theorem erase_perm {α : Type} : ∀ {l : List α} {i : Nat} (h : i < l.length), (l[i] :: l.eraseIdx i).Perm l
  | x :: l, 0, _ => .refl _
  | x :: l, i + 1, h => by
    have h' : i < l.length := by simpa using h
    exact (List.Perm.swap _ _ _).trans ((erase_perm h').cons x)
theorem shufG {α : Type} (f : α → D) (py : α → PyData) (hf : ∀ S x, PyOf S (f x) (py x)) {k a l c p : Nat} {ns : List α} {S : Sto} {Q : KE} {E : XE} (hk : 4 ≤ k) (d : Draw S a l c) (hp : S p = some (.lst (ns.map f))) (hn : ns.length ≤ 100000)
    (hsh : ∀ zs : List α, (∀ z ∈ zs, z ∈ ns) → zs.length ≤ ns.length → SeqAt.shaped (.list (zs.map py)) = true)
    (hQ : ∀ q (zs : List α) S', Draw S' a l c → Kp a l S S' → S q = none → S' q = some (.lst (zs.map f)) → zs.Perm ns → Q (.ref q) S') : wC tab k "_law_shuffled" [.ref a, .ref p] S Q E := by
  refine wd (fd := f__law_shuffled) (by omega) rfl rfl ?_
  unfold f__law_shuffled
  have sz := sizeLine_eq
  push_cast [hp]
  intro x hx
  refine ⟨by omega, fun y hy => ⟨ns.length + 1, ?_⟩⟩
  have nx := d.ne hx
  have d1 := d.new (o := .lst (ns.map f)) hx
  have ny := d1.ne hy
  have xy : ¬ x = y := fun e => by rw [← e, put_same] at hy; cases hy
  have yx : ¬ y = x := fun e => xy e.symm
  have Sy : S y = none := by rw [put_ne yx] at hy; exact hy
  refine whl_ok (fun m φ S1 => ∃ pool found : List α, φ = [some (.ref a), some (.ref p), some (.ref x), some (.ref y)] ∧ pool.length = m ∧ (found ++ pool).Perm ns ∧ Draw S1 a l c ∧ Kp a l S S1 ∧ S1 x = some (.lst (pool.map f)) ∧ S1 y = some (.lst (found.map f))) ?_ ns.length ⟨ns, [], rfl, rfl, .refl _, d1.new hy, (Kp.new hx).trans (Kp.new hy), by rw [put_ne xy]; exact put_same, put_same⟩
  rintro m φ S1 W ⟨pool, found, rfl, hm, hpm, d2, k2, gx, gy⟩ hW
  have hlen : found.length + pool.length = ns.length := by rw [← List.length_append]; exact hpm.length_eq
  push_cast
  refine ⟨by omega, fun z hz => ?_⟩
  have nz := d2.ne hz
  have zx : ¬ x = z := fun e => by rw [← e, gx] at hz; cases hz
  have zy : ¬ y = z := fun e => by rw [← e, gy] at hz; cases hz
  have gx' : put S1 z (.lst []) x = some (.lst (pool.map f)) := by rw [put_ne zx]; exact gx
  have gy' : put S1 z (.lst []) y = some (.lst (found.map f)) := by rw [put_ne zy]; exact gy
  have d3 := d2.new (o := .lst []) hz
  refine ⟨.list (pool.map py), .list [], .lst gx' (map_py hf pool), .lst put_same .nil, hsh _ (fun z hz => hpm.subset (List.mem_append_right _ hz)) (by omega), rfl, ?_⟩
  rw [eqv_nilG]
  cases pool with
  | nil =>
    rw [List.isEmpty_nil]
    push_cast
    rw [List.append_nil] at hpm
    exact hQ y found _ d3 (k2.trans (Kp.new hz)) Sy gy' hpm
  | cons v pool =>
    rw [List.isEmpty_cons]
    push_cast [gx', gy']
    have hlen' : found.length + (pool.length + 1) = ns.length := hlen
    have hm' : pool.length + 1 = m := hm
    have ml : (List.map f pool).length = pool.length := List.length_map _
    have ml2 : (List.map f (v :: pool)).length = pool.length + 1 := List.length_map _
    refine d_take (by omega) d3 (by omega) (by omega) fun i S3 i0 i1 d4 k4 => ?_
    have gx3 := k4.k _ _ gx' nx.1 nx.2.1
    have gy3 := k4.k _ _ gy' ny.1 ny.2.1
    have ik : (i.toNat : Int) = i := by omega
    have il : i.toNat < (v :: pool).length := by rw [List.length_cons]; omega
    have hu : (v :: pool)[i.toNat]? = some (v :: pool)[i.toNat] := List.getElem?_eq_getElem il
    have hpu := erase_perm il
    generalize (v :: pool)[i.toNat] = u at hu hpu
    rw [x_popa]
    refine ⟨_, gx3, i.toNat, f u, by omega, by omega, ?_, by rw [List.getElem?_map, hu]; rfl, ?_⟩
    · rw [List.length_map]
      exact seqIndex_of i0 (by rw [List.length_cons]; omega)
    · refine ⟨_, by rw [put_ne yx]; exact gy3, by rw [List.length_map]; omega, ?_⟩
      have em : ((v :: pool).map f).eraseIdx i.toNat = ((v :: pool).eraseIdx i.toNat).map f := erase_map _ _ _
      have ef : found.map f ++ [f u] = (found ++ [u]).map f := by rw [List.map_append]; rfl
      have le : ((v :: pool).eraseIdx i.toNat).length = pool.length := by rw [List.length_eraseIdx, if_pos il]; rfl
      rw [ef]
      refine hW pool.length _ _ (by rw [← hm]; rfl) ⟨(v :: pool).eraseIdx i.toNat, found ++ [u], rfl, le, ?_, ?_, ?_, ?_, put_same⟩
      · rw [List.append_assoc]
        exact (List.Perm.append_left _ hpu).trans hpm
      · exact (d4.other (u := .lst []) nx.1 nx.2.1 nx.2.2).other (u := .lst []) ny.1 ny.2.1 ny.2.2
      · have xS : S x = none := hx
        exact (((k2.trans (Kp.new hz)).trans k4).put xS).put Sy
      · rw [put_ne xy, put_same, em]


/-! models of worlds: the library (k22) */ -/
abbrev Wld := List Nat × List Str
def iN (u : List Nat) : List D := u.map fun i => D.int (i : Nat)
def iP (u : List Nat) : List PyData := u.map fun i => PyData.int (i : Nat)
def wdD (x : Wld) : D := .tup [.tup (iN x.1), .tup (x.2.map D.str)]
def wdP (x : Wld) : PyData := .tuple [.tuple (iP x.1), .tuple (x.2.map PyData.str)]
def sLt (a b : Str) : Prop := PySem.W.dataLt (.str a) (.str b) = true
structure MOk (m : List Wld) : Prop where
  n1 : 1 ≤ m.length
  n9 : m.length ≤ 100
  u : ∀ x ∈ m, x.1.Pairwise (· < ·) ∧ (∀ i ∈ x.1, i < m.length) ∧ x.1.length ≤ 100
  self : ∀ (k : Nat) (x : Wld), m[k]? = some x → k ∉ x.1
  h : ∀ x ∈ m, x.2.Pairwise sLt ∧ (∀ w ∈ x.2, nameB w = true) ∧ x.2.length ≤ 100
  up : ∀ x ∈ m, ∀ j ∈ x.1, ∀ y, m[j]? = some y → (∀ i ∈ y.1, i ∈ x.1) ∧ ∀ w ∈ x.2, w ∈ y.2
/-- a model, as a list or a tuple -/
def MD (S : Sto) (v : D) (m : List Wld) : Prop := (∃ a, v = .ref a ∧ S a = some (.lst (m.map wdD))) ∨ v = .tup (m.map wdD)
theorem MD.ext {S S' : Sto} {v : D} {m : List Wld} (h : MD S v m) (e : Ext S S') : MD S' v m := h.imp (fun ⟨a, b, c⟩ => ⟨a, b, e.k _ _ c⟩) id
theorem atI_g {xs : List D} {j : Nat} {v : D} (h : xs[j]? = some v) : L2.atI xs (j : Nat) = some v := by
  have hj : j < xs.length := (List.getElem?_eq_some_iff.mp h).1
  unfold L2.atI L2.ixN
  simp [hj]
  exact (List.getElem?_eq_some_iff.mp h).2
theorem atI_00 {x : D} {xs : List D} : L2.atI (x :: xs) 0 = some x := atI_g (j := 0) rfl
theorem atI_01 {x y : D} {xs : List D} : L2.atI (x :: y :: xs) 1 = some y := atI_g (j := 1) rfl
theorem cut_1 (x : D) (xs : List D) : cutD (x :: xs) (some 1) none = xs := by
  unfold cutD HT.sIx
  simp
theorem md_len {S : Sto} {v : D} {m : List Wld} {Q : KE} (h : MD S v m) (hQ : Q (.int (m.length : Nat)) S) : biW .len [v] S Q := by
  rcases h with ⟨a, rfl, g⟩ | rfl
  · refine ⟨_, g, ?_⟩
    rw [List.length_map]
    exact hQ
  · show Q (.int ((m.map wdD).length : Nat)) S
    rw [List.length_map]
    exact hQ
theorem md_src {S : Sto} {v : D} {m : List Wld} {q : Src → Prop} (h : MD S v m) (hq : ∀ ok : Sto → Prop, (∀ S', Ext S S' → ok S') → q ⟨m.map wdD, ok⟩) : srcW v S q := by
  rcases h with ⟨a, rfl, g⟩ | rfl
  · exact ⟨_, g, hq _ fun S' e => e.k _ _ g⟩
  · exact hq _ fun _ _ => trivial
theorem md_enu {S : Sto} {v : D} {m : List Wld} {q : Src → Prop} (h : MD S v m) (hq : ∀ ok : Sto → Prop, (∀ S', Ext S S' → ok S') → q ⟨(m.zipIdx 0).map fun p => .tup [.int (p.2 : Nat), wdD p.1], ok⟩) : enuW v S q := by
  rcases h with ⟨a, rfl, g⟩ | rfl
  · refine ⟨_, g, ?_⟩
    rw [numbered_map]
    exact hq _ fun S' e => e.k _ _ g
  · show q ⟨Pi.numbered 0 (m.map wdD), _⟩
    rw [numbered_map]
    exact hq _ fun _ _ => trivial
theorem md_idx {S : Sto} {v : D} {m : List Wld} {k : Nat} {x : Wld} {Q : KE} (h : MD S v m) (hk : m[k]? = some x) (hQ : Q (wdD x) S) : idxW v (.int (k : Nat)) S Q := by
  have e : L2.atI (m.map wdD) (k : Nat) = some (wdD x) := atI_g (by rw [List.getElem?_map, hk]; rfl)
  rcases h with ⟨a, rfl, g⟩ | rfl
  · exact ⟨_, _, g, e, hQ⟩
  · exact ⟨_, e, hQ⟩
theorem md_isl {S : Sto} {v : D} {m : List Wld} {q : Bool → Prop} (h : MD S v m) (hq : q true) : isiW v [.list, .tuple] S q := by
  rcases h with ⟨a, rfl, g⟩ | rfl
  · rw [x_isir g]
    exact hq
  · exact ⟨.tuple, rfl, hq⟩
theorem zipIdx_g {α : Type} {l : List α} {q : α × Nat} (h : q ∈ l.zipIdx 0) : l[q.2]? = some q.1 := by
  obtain ⟨x, i⟩ := q
  have := List.mem_zipIdx_iff_getElem?.mp h
  exact this
theorem ints_n (n : Nat) : intsF 0 ((n : Nat) : Int).toNat = (List.range n).map fun i : Nat => D.int (i : Nat) := by
  unfold intsF
  rw [show (((n : Nat) : Int)).toNat = n by omega]
  refine List.map_congr_left fun i _ => ?_
  rw [Int.zero_add]
theorem zip_adj {α : Type} {R : α → α → Prop} : ∀ {xs : List α}, xs.Pairwise R → ∀ p ∈ xs.zip (xs.drop 1), R p.1 p.2
  | [], _, p, h => by cases h
  | [x], _, p, h => by cases h
  | x :: y :: r, hp, p, h => by
    rw [List.drop_succ_cons, List.drop_zero, List.zip_cons_cons] at h
    rcases List.mem_cons.mp h with rfl | h
    · exact (List.pairwise_cons.mp hp).1 y List.mem_cons_self
    · exact zip_adj (List.pairwise_cons.mp hp).2 p h
theorem allT {α : Type} : ∀ xs : List α, allB (xs.map fun _ => D.bl true) = some true
  | [] => rfl
  | x :: xs => by
    show (allB (xs.map fun _ => D.bl true)).map (true && ·) = _
    rw [allT xs]
    rfl
theorem d_is_rising {α : Type} {f : α → D} {R : α → α → Prop} {k : Nat} {xs : List α} {S : Sto} {Q : KE} {E : XE} (hk : 1 ≤ k) (hl : xs.length ≤ 1000) (hR : ∀ a b S (q : Bool → Prop), R a b → q true → copW .lt (f a) (f b) S q) (hp : xs.Pairwise R) (hQ : ∀ S', Ext S S' → Q (.bl true) S') : wC tab k "is_rising" [.tup (xs.map f)] S Q E := by
  refine wd (fd := f_is_rising) (by omega) rfl rfl ?_
  unfold f_is_rising
  have sz := sizeLine_eq
  push_cast
  have ez : zipped (xs.map f) (cutD (xs.map f) (some 1) none) = (xs.zip (xs.drop 1)).map fun p => .tup [f p.1, f p.2] := by
    have : cutD (xs.map f) (some 1) none = (xs.drop 1).map f := by
      cases xs with
      | nil => rfl
      | cons x xs =>
        rw [List.map_cons, cut_1]
        rfl
    rw [this]
    unfold zipped
    rw [List.zip_map, List.map_map]
    rfl
  rw [ez]
  have ll : (xs.zip (xs.drop 1)).length ≤ 1000 := by rw [List.length_zip]; omega
  refine loop_map (fun p : α × α => .tup [f p.1, f p.2]) (fun _ => D.bl true) (fun _ _ => trivial) (xs.zip (xs.drop 1)) (by omega) (fun p hp' acc S1 N e1 hl hN => ?_) fun S1 e1 q hq => ?_
  · unfold tgW
    rw [if_pos rfl]
    exact ⟨_, .inl rfl, rfl, _, rfl, _, rfl, hR _ _ _ _ (zip_adj hp p hp') ⟨hl, hN S1 .refl⟩⟩
  · refine ⟨_, allT _, hQ _ (e1.trans (Ext.new hq))⟩
theorem d_num {k : Nat} {i : Int} {S : Sto} {Q : KE} {E : XE} (hk : 1 ≤ k) (hQ : Q (.bl true) S) : wC tab k "is_number" [.int i] S Q E := by
  refine wd (fd := f_is_number) hk rfl rfl ?_
  unfold f_is_number
  push_cast
  exact hQ
theorem iP_of {S : Sto} : ∀ u : List Nat, PyOfs S (iN u) (iP u)
  | [] => .nil
  | i :: u => .cons (.int _) (iP_of u)
theorem iP_sh (u : List Nat) : SeqAt.shaped (.tuple (iP u)) = true := by
  have e : ∀ l : List Nat, PyData.canLayAll0 (iP l) = true ∧ PyData.depthAll (iP l) ≤ 0 := by
    intro l
    induction l with
    | nil => exact ⟨rfl, Nat.le_refl _⟩
    | cons i l ih =>
      obtain ⟨a, b⟩ := ih
      refine ⟨?_, ?_⟩
      · show (true && PyData.canLayAll0 (iP l)) = true
        rw [a]; rfl
      · show max 0 (PyData.depthAll (iP l)) ≤ 0
        omega
  obtain ⟨a, b⟩ := e u
  show (PyData.canLayAll0 (iP u) && decide (PyData.depthAll (iP u) + 1 ≤ 64)) = true
  rw [a, decide_eq_true (by omega)]
  rfl
theorem eqv_i (i j : Int) : PyData.eqv (.int i) (.int j) = decide (i = j) := by
  show (i == j) = _
  by_cases h : i = j
  · rw [decide_eq_true h, h]; simp
  · rw [decide_eq_false h]; simp [h]
theorem any_i (u : List Nat) (k : Nat) : ((iP u).any fun z => PyData.eqv z (.int (k : Nat))) = decide (k ∈ u) := by
  induction u with
  | nil => rfl
  | cons i u ih =>
    show (PyData.eqv (.int (i : Nat)) (.int (k : Nat)) || (iP u).any fun z => PyData.eqv z (.int (k : Nat))) = _
    rw [ih, eqv_i]
    by_cases h : k = i
    · rw [decide_eq_true (show ((i : Nat) : Int) = (k : Nat) by omega), decide_eq_true (List.mem_cons.mpr (.inl h))]; rfl
    · rw [decide_eq_false (show ¬ ((i : Nat) : Int) = (k : Nat) by omega), Bool.false_or]
      simp [h]
theorem in_iN {u : List Nat} {k : Nat} {S : Sto} {q : Bool → Prop} (h : q (decide (k ∈ u))) : copW .isin (.int (k : Nat)) (.tup (iN u)) S q := by
  refine ⟨.int (k : Nat), iP u, .int _, iP_of u, rfl, iP_sh u, ?_⟩
  rw [any_i]
  exact h
theorem nin_iN {u : List Nat} {k : Nat} {S : Sto} {q : Bool → Prop} (h : q (!decide (k ∈ u))) : copW .notin (.int (k : Nat)) (.tup (iN u)) S q := by
  refine ⟨.int (k : Nat), iP u, .int _, iP_of u, rfl, iP_sh u, ?_⟩
  rw [any_i]
  exact h
theorem sP_of {S : Sto} : ∀ u : List Str, PyOfs S (u.map D.str) (u.map PyData.str)
  | [] => .nil
  | i :: u => .cons (.str _) (sP_of u)
theorem sP_sh {u : List Str} (h : ∀ w ∈ u, nameB w = true) : SeqAt.shaped (.tuple (u.map PyData.str)) = true := by
  have e : ∀ l : List Str, (∀ w ∈ l, nameB w = true) → PyData.canLayAll0 (l.map PyData.str) = true ∧ PyData.depthAll (l.map PyData.str) ≤ 0 := by
    intro l
    induction l with
    | nil => intro _; exact ⟨rfl, Nat.le_refl _⟩
    | cons i l ih =>
      intro h
      obtain ⟨a, b⟩ := ih fun w hw => h w (List.mem_cons_of_mem _ hw)
      refine ⟨?_, ?_⟩
      · show (PyData.strOk i && PyData.canLayAll0 (l.map PyData.str)) = true
        rw [a, nameB_ok (h i List.mem_cons_self)]; rfl
      · show max 0 (PyData.depthAll (l.map PyData.str)) ≤ 0
        omega
  obtain ⟨a, b⟩ := e u h
  show (PyData.canLayAll0 (u.map PyData.str) && decide (PyData.depthAll (u.map PyData.str) + 1 ≤ 64)) = true
  rw [a, decide_eq_true (by omega)]
  rfl
theorem eqv_s (x y : Str) : PyData.eqv (.str x) (.str y) = decide (x = y) := by
  show (x == y) = _
  by_cases h : x = y
  · rw [decide_eq_true h, h]; simp
  · rw [decide_eq_false h]; simp [h]
theorem any_s (u : List Str) (k : Str) : ((u.map PyData.str).any fun z => PyData.eqv z (.str k)) = decide (k ∈ u) := by
  induction u with
  | nil => rfl
  | cons i u ih =>
    rw [List.map_cons, List.any_cons, ih, eqv_s]
    by_cases h : k = i
    · rw [decide_eq_true h.symm, decide_eq_true (List.mem_cons.mpr (.inl h))]; rfl
    · rw [decide_eq_false (show ¬ i = k from fun e => h e.symm), Bool.false_or]
      simp [h]
theorem in_sN {u : List Str} {k : Str} {S : Sto} {q : Bool → Prop} (hk : nameB k = true) (hu : ∀ w ∈ u, nameB w = true) (h : q (decide (k ∈ u))) : copW .isin (.str k) (.tup (u.map D.str)) S q := by
  refine ⟨.str k, u.map PyData.str, .str _, sP_of u, ?_, sP_sh hu, ?_⟩
  · show (PyData.strOk k && decide (0 ≤ 64)) = true
    rw [nameB_ok hk]; rfl
  · rw [any_s]
    exact h
theorem nin_sN {u : List Str} {k : Str} {S : Sto} {q : Bool → Prop} (hk : nameB k = true) (hu : ∀ w ∈ u, nameB w = true) (h : q (!decide (k ∈ u))) : copW .notin (.str k) (.tup (u.map D.str)) S q := by
  refine ⟨.str k, u.map PyData.str, .str _, sP_of u, ?_, sP_sh hu, ?_⟩
  · show (PyData.strOk k && decide (0 ≤ 64)) = true
    rw [nameB_ok hk]; rfl
  · rw [any_s]
    exact h
theorem lt_i (a b : Nat) (S : Sto) (q : Bool → Prop) (h : a < b) (hq : q true) : copW .lt (.int (a : Nat)) (.int (b : Nat)) S q := by
  show q (decide (((a : Nat) : Int) < (b : Nat)))
  rw [decide_eq_true (by omega)]
  exact hq
theorem lt_s (a b : Str) (S : Sto) (q : Bool → Prop) (h : sLt a b) (hq : q true) : copW .lt (.str a) (.str b) S q := by
  refine ⟨.str a, .str b, .str _, .str _, rfl, nofun, Nat.zero_le _, ?_⟩
  rw [show PySem.W.dataLt (.str a) (.str b) = true from h]
  exact hq
theorem d_is_above {k many world : Nat} {u : List Nat} {S : Sto} {Q : KE} {E : XE} (hk : 2 ≤ k) (hl : u.length ≤ 100) (h1 : u.Pairwise (· < ·)) (h2 : ∀ i ∈ u, i < many) (h3 : world ∉ u) (hQ : ∀ S', Ext S S' → Q (.bl true) S') : wC tab k "is_above" [.int (many : Nat), .int (world : Nat), .tup (iN u)] S Q E := by
  refine wd (fd := f_is_above) (by omega) rfl rfl ?_
  unfold f_is_above
  have sz := sizeLine_eq
  push_cast
  refine loop_map (fun i : Nat => D.int (i : Nat)) (fun _ => D.bl true) (fun _ _ => trivial) u (by omega) (fun i hi acc S1 N e1 hl hN => ?_) fun S1 e1 q hq => ?_
  · refine d_num (by omega) ?_
    have := h2 i hi
    push_cast
    rw [if_pos (by omega), decide_eq_true (by omega)]
    exact ⟨hl, hN S1 .refl⟩
  · refine ⟨_, allT _, ?_⟩
    push_cast
    refine d_is_rising (f := fun i : Nat => D.int (i : Nat)) (xs := u) (by omega) (by omega) lt_i h1 fun S2 e2 => ?_
    push_cast
    refine ⟨_, _, .int _, iP_of u, rfl, iP_sh u, ?_⟩
    rw [any_i, decide_eq_false h3]
    exact hQ _ ((e1.trans (Ext.new hq)).trans e2)
theorem isN_s {x : Str} (h : nameB x = true) : isN (.s x) = true := h
theorem d_is_held {k : Nat} {u : List Str} {S : Sto} {Q : KE} {E : XE} (hk : 2 ≤ k) (hl : u.length ≤ 100) (h1 : u.Pairwise sLt) (h2 : ∀ w ∈ u, nameB w = true) (hQ : ∀ S', Ext S S' → Q (.bl true) S') : wC tab k "is_held" [.tup (u.map D.str)] S Q E := by
  refine wd (fd := f_is_held) (by omega) rfl rfl ?_
  unfold f_is_held
  have sz := sizeLine_eq
  push_cast
  refine loop_map D.str (fun _ => D.bl true) (fun _ _ => trivial) u (by omega) (fun w hw acc S1 N e1 hl hN => ?_) fun S1 e1 q hq => ?_
  · have := (nameB_len (h2 w hw)).2
    refine d_is_name (t := .s w) (by omega) (show w.length ≤ 1000 by omega) fun S2 e2 => ?_
    rw [isN_s (h2 w hw)]
    exact ⟨hl, hN S2 e2⟩
  · refine ⟨_, allT _, ?_⟩
    push_cast
    exact d_is_rising (f := D.str) (xs := u) (by omega) (by omega) lt_s h1 fun S2 e2 => hQ _ ((e1.trans (Ext.new hq)).trans e2)
theorem d_goes_up {k w : Nat} {v : D} {m : List Wld} {x : Wld} {S : Sto} {Q : KE} {E : XE} (hk : 1 ≤ k) (ok : MOk m) (hv : MD S v m) (hx : m[w]? = some x) (hQ : ∀ S', Ext S S' → Q (.bl true) S') : wC tab k "goes_up" [v, .int (w : Nat)] S Q E := by
  refine wd (fd := f_goes_up) (by omega) rfl rfl ?_
  unfold f_goes_up
  have sz := sizeLine_eq
  have xm := List.mem_of_getElem? hx
  obtain ⟨u1, u2, u3⟩ := ok.u x xm
  obtain ⟨h1, h2, h3⟩ := ok.h x xm
  push_cast
  refine md_idx hv hx ?_
  unfold wdD
  push_cast
  refine loop_ok (fun zs φ S' => ∃ (us : List Nat) (o2 o5 o6 : Option D), zs = iN us ∧ φ = [some v, some (.int (w : Nat)), o2, some (.tup (iN x.1)), some (.tup (x.2.map D.str)), o5, o6] ∧ (∀ j ∈ us, j ∈ x.1) ∧ Ext S S') (fun _ _ _ _ => trivial) ?_ ?_ ⟨x.1, _, _, _, rfl, rfl, fun _ h => h, .refl⟩
  · rintro φ S' ⟨us, o2, o5, o6, hz, rfl, hu, e⟩
    push_cast
    exact hQ S' e
  · rintro z zs φ S' N ⟨us, o2, o5, o6, hz, rfl, hu, e⟩ hN
    cases us with
    | nil => cases hz
    | cons j us =>
      cases hz
      have hj := hu j List.mem_cons_self
      obtain ⟨y, hy⟩ : ∃ y, m[j]? = some y := ⟨m[j]'(u2 j hj), List.getElem?_eq_getElem _⟩
      obtain ⟨c1, c2⟩ := ok.up x xm j hj y hy
      obtain ⟨v1, v2, v3⟩ := ok.u y (List.mem_of_getElem? hy)
      obtain ⟨k1, k2, k3⟩ := ok.h y (List.mem_of_getElem? hy)
      push_cast
      refine md_idx (hv.ext e) hy ?_
      unfold wdD
      push_cast [atI_00]
      refine loop_map (fun i : Nat => D.int (i : Nat)) (fun _ => D.bl true) (fun _ _ => trivial) y.1 (by omega) (fun i hi acc S1 N e1 hl hN => ?_) fun S1 e1 q hq => ?_
      · push_cast
        refine ⟨_, _, .int _, iP_of _, rfl, iP_sh _, hl, ?_⟩
        rw [any_i, decide_eq_true (c1 i hi)]
        exact hN S1 .refl
      · refine ⟨_, allT _, ?_⟩
        have e2 := (e.trans e1).trans (Ext.new (o := .lst (y.1.map fun _ => D.bl true)) hq)
        generalize put S1 q (.lst (y.1.map fun _ => D.bl true)) = S2 at e2 ⊢
        push_cast
        refine loop_map D.str (fun _ => D.bl true) (S := S2) (fun _ _ => trivial) x.2 (by omega) (fun w2 hw2 acc S3 N e3 hl hN => ?_) fun S3 e3 q3 hq3 => ?_
        · refine md_idx (hv.ext (e2.trans e3)) hy ?_
          unfold wdD
          push_cast [atI_01]
          refine ⟨_, _, .str _, sP_of _, ?_, sP_sh k2, hl, ?_⟩
          · show (PyData.strOk w2 && decide (0 ≤ 64)) = true
            rw [nameB_ok (h2 w2 hw2)]; rfl
          · rw [any_s, decide_eq_true (c2 w2 hw2)]
            exact hN S3 .refl
        · refine ⟨_, allT _, ?_⟩
          push_cast
          exact hN _ _ ⟨us, _, _, _, rfl, rfl, fun a ha => hu a (List.mem_cons_of_mem _ ha), (e2.trans e3).trans (Ext.new hq3)⟩
theorem d_is_model {k : Nat} {v : D} {m : List Wld} {S : Sto} {Q : KE} {E : XE} (hk : 3 ≤ k) (ok : MOk m) (hv : MD S v m) (hQ : ∀ S', Ext S S' → Q (.bl true) S') : wC tab k "is_model" [v] S Q E := by
  refine wd (fd := f_is_model) (by omega) rfl rfl ?_
  unfold f_is_model
  have sz := sizeLine_eq
  have n1 := ok.n1
  have n9 := ok.n9
  push_cast
  refine wd (fd := f_is_list) (by omega) rfl rfl ?_
  unfold f_is_list
  push_cast
  refine md_isl hv ?_
  push_cast
  refine md_len hv ?_
  push_cast
  rw [if_pos (by omega), if_pos (by omega)]
  refine md_src hv fun okS hok => ?_
  refine loop_map wdD (fun _ => D.bl true) (S := S) hok m (by omega) (fun x hx acc S1 N e1 hl hN => ?_) fun S1 e1 q hq => ?_
  · unfold wdD
    push_cast
    exact ⟨hl, hN S1 .refl⟩
  refine ⟨_, allT _, ?_⟩
  have e2 := e1.trans (Ext.new (o := .lst (m.map fun _ => D.bl true)) hq)
  generalize put S1 q (.lst (m.map fun _ => D.bl true)) = S2 at e2 ⊢
  push_cast
  refine md_len (hv.ext e2) ?_
  push_cast
  refine md_enu (hv.ext e2) fun okS hok => ?_
  refine loop_map (fun p : Wld × Nat => .tup [.int (p.2 : Nat), wdD p.1]) (fun _ => D.bl true) (S := S2) hok (m.zipIdx 0) (by rw [List.length_zipIdx]; omega) (fun x hx acc S3 N e3 hl hN => ?_) fun S3 e3 q3 hq3 => ?_
  · have hg := zipIdx_g hx
    have xm := List.mem_of_getElem? hg
    obtain ⟨u1, u2, u3⟩ := ok.u x.1 xm
    obtain ⟨h1, h2, h3⟩ := ok.h x.1 xm
    unfold wdD
    push_cast
    refine ⟨_, atI_00, ?_⟩
    refine d_is_above (by omega) (by omega) u1 u2 (ok.self _ _ hg) fun S4 e4 => ?_
    push_cast
    refine ⟨_, atI_01, ?_⟩
    refine d_is_held (by omega) (by omega) h1 h2 fun S5 e5 => ?_
    push_cast
    exact ⟨hl, hN S5 (e4.trans e5)⟩
  refine ⟨_, allT _, ?_⟩
  have e4 := (e2.trans e3).trans (Ext.new (o := .lst ((m.zipIdx 0).map fun _ => D.bl true)) hq3)
  generalize put S3 q3 (.lst ((m.zipIdx 0).map fun _ => D.bl true)) = S4 at e4 ⊢
  push_cast
  rw [ints_n]
  refine ⟨⟨by omega, by omega⟩, ?_⟩
  refine loop_map (fun i : Nat => D.int (i : Nat)) (fun _ => D.bl true) (S := S4) (fun _ _ => trivial) (List.range m.length) (by rw [List.length_range]; omega) (fun i hi acc S5 N e5 hl hN => ?_) fun S5 e5 q5 hq5 => ?_
  · have il := List.mem_range.mp hi
    refine d_goes_up (by omega) ok (hv.ext (e4.trans e5)) (List.getElem?_eq_getElem il) fun S6 e6 => ⟨hl, hN S6 e6⟩
  · exact ⟨_, allT _, hQ _ ((e4.trans e5).trans (Ext.new hq5))⟩
theorem d_need_model {k : Nat} {v : D} {m : List Wld} {S : Sto} {Q : KE} {E : XE} (hk : 4 ≤ k) (ok : MOk m) (hv : MD S v m) (hQ : ∀ S', Ext S S' → Q .non S') : wC tab k "need_model" [v] S Q E := by
  refine wd (fd := f_need_model) (by omega) rfl rfl ?_
  unfold f_need_model
  push_cast
  refine d_is_model (by omega) ok hv fun S1 e1 => ?_
  push_cast
  exact hQ S1 e1


/-! models of worlds: what a world bears (k22) */ -/
def upM (m : List Wld) (k : Nat) : List Nat := ((m[k]?).getD ([], [])).1
def hoM (m : List Wld) (k : Nat) : List Str := ((m[k]?).getD ([], [])).2
mutual
/-- whether a world bears a kind -/
def brB (m : List Wld) : T → Nat → Bool
  | .s x, k => (k :: upM m k).all fun j => decide (x ∈ hoM m j)
  | .t xs, k => (k :: upM m k).all fun j => !((brL m xs j).dropLast.all id) || decide (eN (.t xs) ∈ hoM m j)
def brL (m : List Wld) : List T → Nat → List Bool
  | [], _ => []
  | x :: xs, j => brB m x j :: brL m xs j
end
theorem brL_map (m : List Wld) (j : Nat) : ∀ xs : List T, brL m xs j = xs.map fun q => brB m q j
  | [] => rfl
  | x :: xs => by rw [brL, brL_map m j xs]; rfl
/-- what a world must do where all params are borne -/
def wdB (m : List Wld) (t : T) (j : Nat) : Bool := !(t.pa.all fun q => brB m q j) || decide (eN t ∈ hoM m j)
theorem brB_eq (m : List Wld) (t : T) (k : Nat) : brB m t k = (k :: upM m k).all (wdB m t) := by
  cases t with
  | s x => rw [brB]; rfl
  | t xs =>
    rw [brB]
    refine List.all_congr rfl fun j => ?_
    rw [brL_map, ← List.map_dropLast, List.all_map]
    rfl
theorem upM_eq {m : List Wld} {k : Nat} {x : Wld} (h : m[k]? = some x) : upM m k = x.1 := by unfold upM; rw [h]; rfl
theorem hoM_eq {m : List Wld} {k : Nat} {x : Wld} (h : m[k]? = some x) : hoM m k = x.2 := by unfold hoM; rw [h]; rfl
theorem fl_none {α : Type} {p : α → Bool} : ∀ xs : List α, (xs.flatMap fun x => if p x = true then ([] : List D) else [.int 1]) = (xs.filter fun x => !p x).map fun _ => D.int 1
  | [] => rfl
  | x :: xs => by
    rw [List.flatMap_cons, fl_none xs, List.filter_cons]
    cases p x <;> rfl
theorem one_py {S : Sto} {α : Type} : ∀ l : List α, PyOfs S (l.map fun _ => D.int 1) (l.map fun _ => PyData.int 1)
  | [] => .nil
  | _ :: l => .cons (.int 1) (one_py l)
theorem one_sh {α : Type} (l : List α) : SeqAt.shaped (.list (l.map fun _ => PyData.int 1)) = true := by
  have e : ∀ l : List α, PyData.canLayAll0 (l.map fun _ => PyData.int 1) = true ∧ PyData.depthAll (l.map fun _ => PyData.int 1) ≤ 0 := by
    intro l
    induction l with
    | nil => exact ⟨rfl, Nat.le_refl _⟩
    | cons x l ih =>
      obtain ⟨a, b⟩ := ih
      refine ⟨?_, ?_⟩
      · show (true && PyData.canLayAll0 (l.map fun _ => PyData.int 1)) = true
        rw [a]; rfl
      · show max 0 (PyData.depthAll (l.map fun _ => PyData.int 1)) ≤ 0
        omega
  obtain ⟨a, b⟩ := e l
  show (PyData.canLayAll0 _ && decide (PyData.depthAll _ + 1 ≤ 64)) = true
  rw [a, decide_eq_true (by omega)]
  rfl
theorem one_nil {α : Type} (p : α → Bool) : ∀ l : List α, PyData.eqv (.list ((l.filter fun x => !p x).map fun _ => PyData.int 1)) (.list []) = l.all p
  | [] => rfl
  | x :: l => by
    rw [List.filter_cons, List.all_cons]
    cases e : p x with
    | true => rw [← one_nil p l]; rfl
    | false => rfl
theorem enN {n : Nat} {t : T} (h : hf n t = true) : nameB (eN t) = true := by
  cases t with
  | s x => cases n <;> exact h
  | t xs =>
    cases n with
    | zero => cases h
    | succ n =>
      obtain ⟨y, e, hy⟩ := hf_last h
      unfold eN
      dsimp only
      rw [e, List.getLast?_concat]
      exact hy
theorem l_bears : ∀ {n k w a : Nat} {m : List Wld} {t : T} {S : Sto} {Q : KE} {E : XE}, n + 2 ≤ k → n ≤ 4 → hf n t = true → MOk m → S a = some (.lst (m.map wdD)) → w < m.length → (∀ S', Ext S S' → Q (.bl (brB m t w)) S') → wC tab k "_law_bears" [.ref a, .int (w : Nat), t.d] S Q E
  | n, k, w, a, m, t, S, Q, E, hk, n4, ht, ok, ga, hw, hQ => by
    have h7 := pa_few (hf_mono n4 ht)
    have ht4 := hf_mono n4 ht
    refine wd (fd := f__law_bears) (by omega) rfl rfl ?_
    unfold f__law_bears
    have sz := sizeLine_eq
    obtain ⟨x, hx⟩ : ∃ x, m[w]? = some x := ⟨m[w], List.getElem?_eq_getElem _⟩
    have xm := List.mem_of_getElem? hx
    obtain ⟨u1, u2, u3⟩ := ok.u x xm
    push_cast
    refine ⟨by omega, fun p1 hp1 => ?_⟩
    have x1 := Ext.new (o := .lst ([.int (w : Nat)] : List D)) hp1
    have g1 : put S p1 (.lst [.int (w : Nat)]) p1 = some (.lst [.int (w : Nat)]) := put_same
    generalize put S p1 (.lst [.int (w : Nat)]) = S1 at x1 g1 ⊢
    push_cast [x1.k _ _ ga]
    refine ⟨_, atI_g (by rw [List.getElem?_map, hx]; rfl), ?_⟩
    unfold wdD
    push_cast
    refine ⟨_, atI_00, ?_⟩
    push_cast
    intro p2 hp2
    have x2 := Ext.new (o := .lst (iN x.1)) hp2
    have g2 : put S1 p2 (.lst (iN x.1)) p2 = some (.lst (iN x.1)) := put_same
    have g12 := x2.k _ _ g1
    generalize put S1 p2 (.lst (iN x.1)) = S2 at x2 g2 g12 ⊢
    have lu : (iN x.1).length ≤ 100 := by unfold iN; rw [List.length_map]; exact u3
    push_cast [g12, g2]
    refine ⟨by omega, fun p3 hp3 => ?_⟩
    have x3 := Ext.new (o := .lst (D.int (w : Nat) :: iN x.1)) hp3
    have g3 : put S2 p3 (.lst (D.int (w : Nat) :: iN x.1)) p3 = some (.lst (D.int (w : Nat) :: iN x.1)) := put_same
    generalize put S2 p3 (.lst (D.int (w : Nat) :: iN x.1)) = S3 at x3 g3 ⊢
    push_cast [g3]
    have x13 := (x1.trans x2).trans x3
    have ga3 := x13.k _ _ ga
    refine loop_ok (fun zs φ S' => ∃ (js : List Nat) (o3 o4 o5 : Option D), zs = iN js ∧ φ = [some (.ref a), some (.int (w : Nat)), some t.d, o3, o4, o5] ∧ (∀ j ∈ js, j < m.length) ∧ Ext S3 S' ∧ brB m t w = js.all (wdB m t)) (fun zs φ S' ⟨_, _, _, _, _, _, _, e, _⟩ => e.k _ _ g3) ?_ ?_ ⟨w :: x.1, _, _, _, rfl, rfl, fun j hj => ?_, .refl, by rw [brB_eq, upM_eq hx]⟩
    · rintro φ S' ⟨js, o3, o4, o5, hz, rfl, hj, e, eb⟩
      cases js with
      | nil =>
        push_cast
        have q := hQ S' (x13.trans e)
        rw [eb] at q
        exact q
      | cons j js => cases hz
    · rintro z zs φ S' N ⟨js, o3, o4, o5, hz, rfl, hj, e, eb⟩ hN
      cases js with
      | nil => cases hz
      | cons j js =>
        cases hz
        have hjl := hj j List.mem_cons_self
        obtain ⟨y, hy⟩ : ∃ y, m[j]? = some y := ⟨m[j], List.getElem?_eq_getElem _⟩
        obtain ⟨h1, h2, h3⟩ := ok.h y (List.mem_of_getElem? hy)
        push_cast
        refine l_params (by omega) ?_
        push_cast
        rw [T.ds_map]
        have elen : (t.pa.flatMap fun q => if brB m q j = true then ([] : List D) else [.int 1]).length ≤ 7 := by
          rw [fl_none, List.length_map]
          exact Nat.le_trans (List.length_filter_le _ _) h7
        refine loop_ext T.d (fun q => if brB m q j = true then ([] : List D) else [.int 1]) (S := S') (fun _ _ => trivial) t.pa [] S' .refl (by rw [List.length_nil]; omega) (fun q hq acc S5 N5 e5 hl hN5 => ?_) fun S5 e5 p5 hp5 => ?_
        · obtain ⟨hq1, hn1⟩ := pa_hf ht hq
          refine l_bears (n := n - 1) (by omega) (by omega) hq1 ok ((e.trans e5).k _ _ ga3) hjl fun S6 e6 => ?_
          push_cast
          have hN5 := hN5 S6 e6
          cases hb : brB m q j with
          | true =>
            rw [hb] at hN5
            rw [if_neg (by decide)]
            simpa using hN5
          | false =>
            rw [hb] at hN5
            rw [if_pos (by decide)]
            exact ⟨by omega, by simpa using hN5⟩
        · rw [List.nil_append, fl_none]
          have x5 := Ext.new (o := .lst ((t.pa.filter fun q => !brB m q j).map fun _ => D.int 1)) hp5
          have g5 : put S5 p5 (.lst ((t.pa.filter fun q => !brB m q j).map fun _ => D.int 1)) p5 = some (.lst ((t.pa.filter fun q => !brB m q j).map fun _ => D.int 1)) := put_same
          generalize put S5 p5 (.lst ((t.pa.filter fun q => !brB m q j).map fun _ => D.int 1)) = S6 at x5 g5 ⊢
          refine ⟨by omega, fun p6 hp6 => ?_⟩
          have x6 := Ext.new (o := .lst ([] : List D)) hp6
          refine ⟨.list ((t.pa.filter fun q => !brB m q j).map fun _ => PyData.int 1), .list [], .lst (x6.k _ _ g5) (one_py _), .lst put_same .nil, one_sh _, rfl, ?_⟩
          rw [one_nil]
          have e6 := ((e.trans e5).trans x5).trans x6
          generalize put S6 p6 (.lst []) = S7 at x6 e6 ⊢
          rw [List.all_cons] at eb
          have ew : wdB m t j = (!(t.pa.all fun q => brB m q j) || decide (eN t ∈ hoM m j)) := rfl
          rw [hoM_eq hy] at ew
          cases hal : t.pa.all fun q => brB m q j with
          | false =>
            rw [hal] at ew
            push_cast
            rw [ew, Bool.not_false, Bool.true_or, Bool.true_and] at eb
            exact hN _ _ ⟨js, _, _, _, rfl, rfl, fun i hi => hj i (List.mem_cons_of_mem _ hi), e6, eb⟩
          | true =>
            rw [hal, Bool.not_true, Bool.false_or] at ew
            rw [ew] at eb
            push_cast
            refine l_end (by omega) (hf_ne ht) ?_
            rw [en_name ht]
            simp only [T.d]
            push_cast [e6.k _ _ ga3]
            refine ⟨_, atI_g (by rw [List.getElem?_map, hy]; rfl), ?_⟩
            unfold wdD
            push_cast
            refine ⟨_, atI_01, ?_⟩
            refine nin_sN (enN ht) h2 ?_
            by_cases hm : eN t ∈ y.2
            · rw [decide_eq_true hm] at eb ⊢
              push_cast
              rw [Bool.true_and] at eb
              exact hN _ _ ⟨js, _, _, _, rfl, rfl, fun i hi => hj i (List.mem_cons_of_mem _ hi), e6, eb⟩
            · rw [decide_eq_false hm] at eb ⊢
              push_cast
              rw [Bool.false_and] at eb
              have q := hQ S7 (x13.trans e6)
              rw [eb] at q
              exact q
    · rcases List.mem_cons.mp hj with rfl | hj
      · exact hw
      · exact u2 j hj
  termination_by n => n
  decreasing_by omega
/-- the row of a kind -/
def rwB (m : List Wld) (t : T) : List D := (List.range m.length).map fun w => D.bl (brB m t w)
theorem brB_plain {m : List Wld} (ok : MOk m) {t : T} (h : t.pa = []) {w : Nat} (hw : w < m.length) : brB m t w = decide (eN t ∈ hoM m w) := by
  obtain ⟨x, hx⟩ : ∃ x, m[w]? = some x := ⟨m[w], List.getElem?_eq_getElem _⟩
  obtain ⟨u1, u2, u3⟩ := ok.u x (List.mem_of_getElem? hx)
  have e : ∀ j, wdB m t j = decide (eN t ∈ hoM m j) := fun j => by unfold wdB; rw [h]; rfl
  rw [brB_eq, List.all_cons, e, upM_eq hx]
  by_cases hm : eN t ∈ hoM m w
  · rw [decide_eq_true hm, Bool.true_and, List.all_eq_true]
    intro j hj
    obtain ⟨y, hy⟩ : ∃ y, m[j]? = some y := ⟨m[j]'(u2 j hj), List.getElem?_eq_getElem _⟩
    rw [e, hoM_eq hy]
    rw [hoM_eq hx] at hm
    exact decide_eq_true ((ok.up x (List.mem_of_getElem? hx) j hj y hy).2 _ hm)
  · rw [decide_eq_false hm, Bool.false_and]
theorem rowsB_py {S : Sto} {m : List Wld} : ∀ {ps : List (D × T)}, (∀ p ∈ ps, ∃ r, p.1 = .ref r ∧ S r = some (.lst (rwB m p.2))) → PyOfs S (ps.map (·.1)) (ps.map fun p => .list ((List.range m.length).map fun w => .bool (brB m p.2 w)))
  | [], _ => .nil
  | p :: ps, h => by
    obtain ⟨r, a, b⟩ := h p List.mem_cons_self
    refine .cons ?_ (rowsB_py fun q hq => h q (List.mem_cons_of_mem _ hq))
    dsimp only
    rw [a]
    refine .lst b ?_
    unfold rwB
    have : ∀ l : List Nat, PyOfs S (l.map fun w => D.bl (brB m p.2 w)) (l.map fun w => .bool (brB m p.2 w)) := by
      intro l
      induction l with
      | nil => exact .nil
      | cons i l ih => exact .cons (.bl _) ih
    exact this _
theorem rowsB_sh (m : List Wld) (ps : List (D × T)) : SeqAt.shaped (.list (ps.map fun p => .list ((List.range m.length).map fun w => .bool (brB m p.2 w)))) = true := by
  have e0 : ∀ (q : T) (l : List Nat), PyData.canLayAll0 (l.map fun w => .bool (brB m q w)) = true ∧ PyData.depthAll (l.map fun w => .bool (brB m q w)) ≤ 0 := by
    intro q l
    induction l with
    | nil => exact ⟨rfl, Nat.le_refl _⟩
    | cons i l ih =>
      obtain ⟨a, b⟩ := ih
      refine ⟨?_, ?_⟩
      · show (true && PyData.canLayAll0 (l.map fun w => .bool (brB m q w))) = true
        rw [a]; rfl
      · show max 0 (PyData.depthAll (l.map fun w => .bool (brB m q w))) ≤ 0
        omega
  have e : ∀ l : List (D × T), PyData.canLayAll0 (l.map fun p => .list ((List.range m.length).map fun w => .bool (brB m p.2 w))) = true ∧ PyData.depthAll (l.map fun p => .list ((List.range m.length).map fun w => .bool (brB m p.2 w))) ≤ 1 := by
    intro l
    induction l with
    | nil => exact ⟨rfl, Nat.zero_le _⟩
    | cons p l ih =>
      obtain ⟨a, b⟩ := ih
      obtain ⟨c, d⟩ := e0 p.2 (List.range m.length)
      refine ⟨?_, ?_⟩
      · show (PyData.canLayAll0 _ && PyData.canLayAll0 _) = true
        rw [a, c]; rfl
      · show max (PyData.depthAll _ + 1) (PyData.depthAll _) ≤ 1
        omega
  obtain ⟨a, b⟩ := e ps
  show (PyData.canLayAll0 _ && decide (PyData.depthAll _ + 1 ≤ 64)) = true
  rw [a, decide_eq_true (by omega)]
  rfl
theorem d_bearing : ∀ {n k : Nat} {v : D} {m : List Wld} {t : T} {S : Sto} {Q : KE} {E : XE}, n + 2 ≤ k → n ≤ 4 → hf n t = true → MOk m → MD S v m → (∀ p S', Ext S S' → S p = none → S' p = some (.lst (rwB m t)) → Q (.ref p) S') → wC tab k "bearing" [v, t.d] S Q E
  | n, k, v, m, t, S, Q, E, hk, n4, ht, ok, hv, hQ => by
    have h7 := pa_few (hf_mono n4 ht)
    refine wd (fd := f_bearing) (by omega) rfl rfl ?_
    unfold f_bearing
    have sz := sizeLine_eq
    have n9 := ok.n9
    push_cast
    refine md_src hv fun okS hok => ?_
    refine loop_map wdD (fun x => D.bl (decide (eN t ∈ x.2))) (S := S) hok m (by omega) (fun x hx acc S1 N e1 hl hN => ?_) fun S1 e1 p1 hp1 => ?_
    · obtain ⟨h1, h2, h3⟩ := ok.h x hx
      unfold wdD
      push_cast
      refine inner_e (by omega) (hf_ne ht) ?_
      rw [en_name ht]
      simp only [T.d]
      refine ⟨_, _, .str _, sP_of _, ?_, sP_sh h2, hl, ?_⟩
      · show (PyData.strOk (eN t) && decide (0 ≤ 64)) = true
        rw [nameB_ok (enN ht)]; rfl
      · rw [any_s]
        exact hN S1 .refl
    have np1 := e1.none hp1
    have x1 := e1.trans (Ext.new (o := .lst (m.map fun x => D.bl (decide (eN t ∈ x.2)))) hp1)
    have g1 : put S1 p1 (.lst (m.map fun x => D.bl (decide (eN t ∈ x.2)))) p1 = some (.lst (m.map fun x => D.bl (decide (eN t ∈ x.2)))) := put_same
    generalize put S1 p1 (.lst (m.map fun x => D.bl (decide (eN t ∈ x.2)))) = S2 at x1 g1 ⊢
    refine inner_p (by omega) ?_
    push_cast
    rw [T.ds_map]
    refine loop_ok (fun zs acc S' => ∃ (ps : List (D × T)) (ts : List T), zs = ts.map T.d ∧ acc = ps.map (·.1) ∧ t.pa = ps.map (·.2) ++ ts ∧ (∀ p ∈ ps, ∃ r, p.1 = .ref r ∧ S' r = some (.lst (rwB m p.2))) ∧ Ext S2 S') (fun _ _ _ _ => trivial) ?_ ?_ ⟨[], t.pa, rfl, rfl, rfl, fun _ h => (nomatch h), .refl⟩
    · rintro acc S3 ⟨ps, ts, hz, rfl, hp, hr, e3⟩ p3 hp3
      cases ts with
      | cons q ts => cases hz
      | nil =>
        rw [List.append_nil] at hp
        have lp : ps.length ≤ 7 := by have := congrArg List.length hp; rw [List.length_map] at this; omega
        have x3 := e3.trans (Ext.new (o := .lst (ps.map (·.1))) hp3)
        have g3 : put S3 p3 (.lst (ps.map (·.1))) p3 = some (.lst (ps.map (·.1))) := put_same
        have hr : ∀ p ∈ ps, ∃ r, p.1 = .ref r ∧ put S3 p3 (.lst (ps.map (·.1))) r = some (.lst (rwB m p.2)) := fun p hp => by
          obtain ⟨r, a, b⟩ := hr p hp
          exact ⟨r, a, (Ext.new hp3).k _ _ b⟩
        generalize put S3 p3 (.lst (ps.map (·.1))) = S4 at x3 g3 hr ⊢
        push_cast
        refine md_len (hv.ext (x1.trans x3)) ?_
        push_cast
        rw [ints_n]
        refine ⟨⟨by omega, by omega⟩, ?_⟩
        refine loop_map (fun i : Nat => D.int (i : Nat)) (fun w => D.bl (wdB m t w)) (S := S4) (fun _ _ => trivial) (List.range m.length) (by rw [List.length_range]; omega) (fun w hw acc S5 N e5 hl hN => ?_) fun S5 e5 p5 hp5 => ?_
        · have wl := List.mem_range.mp hw
          obtain ⟨x, hx⟩ : ∃ x, m[w]? = some x := ⟨m[w], List.getElem?_eq_getElem _⟩
          push_cast [(x3.trans e5).k _ _ g1]
          refine ⟨_, atI_g (by rw [List.getElem?_map, hx]; rfl), ?_⟩
          push_cast
          have ew : wdB m t w = (!(t.pa.all fun q => brB m q w) || decide (eN t ∈ x.2)) := by unfold wdB; rw [hoM_eq hx]
          by_cases hm : eN t ∈ x.2
          · rw [if_pos hm, decide_eq_true hm]
            rw [decide_eq_true hm, Bool.or_true] at ew
            refine ⟨hl, ?_⟩
            have := hN S5 .refl
            rw [ew] at this
            exact this
          · rw [if_neg hm]
            rw [decide_eq_false hm, Bool.or_false] at ew
            have g35 := e5.k _ _ g3
            refine ⟨_, g35, ?_⟩
            refine loop_map (fun p : D × T => p.1) (fun p => D.bl (brB m p.2 w)) (S := S5) (fun S' e => e.k _ _ g35) ps (by omega) (fun p hpm acc2 S6 N2 e6 hl2 hN2 => ?_) fun S6 e6 p6 hp6 => ?_
            · obtain ⟨r, er, gr⟩ := hr p hpm
              rw [er]
              refine ⟨_, _, (e5.trans e6).k _ _ gr, atI_g (v := .bl (brB m p.2 w)) (by unfold rwB; rw [List.getElem?_map, List.getElem?_range wl]; rfl), hl2, hN2 S6 .refl⟩
            · refine ⟨_, allB_map, ?_⟩
              have ea : (ps.all fun p => brB m p.2 w) = t.pa.all fun q => brB m q w := by rw [hp, List.all_map]; rfl
              rw [ea]
              have := hN _ (e6.trans (Ext.new (o := .lst (ps.map fun p => D.bl (brB m p.2 w))) hp6))
              rw [ew] at this
              exact ⟨hl, this⟩
        · have x5 := (x3.trans e5).trans (Ext.new (o := .lst ((List.range m.length).map fun w => D.bl (wdB m t w))) hp5)
          have y5 := (Ext.new (o := .lst ((List.range m.length).map fun w => D.bl (wdB m t w))) hp5)
          have g5 : put S5 p5 (.lst ((List.range m.length).map fun w => D.bl (wdB m t w))) p5 = some (.lst ((List.range m.length).map fun w => D.bl (wdB m t w))) := put_same
          have g35 := y5.k _ _ (e5.k _ _ g3)
          have hr5 : ∀ p ∈ ps, ∃ r, p.1 = .ref r ∧ put S5 p5 (.lst ((List.range m.length).map fun w => D.bl (wdB m t w))) r = some (.lst (rwB m p.2)) := fun p hp => by
            obtain ⟨r, a, b⟩ := hr p hp
            exact ⟨r, a, y5.k _ _ (e5.k _ _ b)⟩
          generalize put S5 p5 (.lst ((List.range m.length).map fun w => D.bl (wdB m t w))) = S6 at x5 g5 g35 hr5 ⊢
          refine ⟨by omega, fun p6 hp6 => ?_⟩
          have x6 := Ext.new (o := .lst ([] : List D)) hp6
          refine ⟨.list (ps.map fun p => .list ((List.range m.length).map fun w => .bool (brB m p.2 w))), .list [], .lst (x6.k _ _ g35) (rowsB_py fun p hp => ?_), .lst put_same .nil, rowsB_sh _ _, rfl, ?_⟩
          · obtain ⟨r, a, b⟩ := hr5 p hp
            exact ⟨r, a, x6.k _ _ b⟩
          rw [show PyData.eqv (.list (ps.map fun p => PyData.list ((List.range m.length).map fun w => PyData.bool (brB m p.2 w)))) (.list []) = ps.isEmpty by cases ps <;> rfl]
          generalize put S6 p6 (.lst []) = S7 at x6 ⊢
          have ext7 := (x1.trans x5).trans x6
          cases ps with
          | nil =>
            push_cast
            refine hQ p1 S7 ext7 np1 ?_
            rw [(x5.trans x6).k _ _ g1]
            have : m.map (fun x => D.bl (decide (eN t ∈ x.2))) = rwB m t := by
              unfold rwB
              refine List.ext_getElem (by simp) fun w h1 h2 => ?_
              rw [List.length_map] at h1
              rw [List.getElem_map, List.getElem_map, List.getElem_range, brB_plain ok hp h1, hoM_eq (List.getElem?_eq_getElem h1)]
            rw [this]
          | cons p0 ps =>
            push_cast
            refine md_len (hv.ext ext7) ?_
            push_cast
            rw [ints_n]
            refine ⟨⟨by omega, by omega⟩, ?_⟩
            have g7 := x6.k _ _ g5
            refine loop_map (fun i : Nat => D.int (i : Nat)) (fun w => D.bl (brB m t w)) (S := S7) (fun _ _ => trivial) (List.range m.length) (by rw [List.length_range]; omega) (fun w hw acc S8 N e8 hl hN => ?_) fun S8 e8 p8 hp8 => ?_
            · have wl := List.mem_range.mp hw
              obtain ⟨x, hx⟩ : ∃ x, m[w]? = some x := ⟨m[w], List.getElem?_eq_getElem _⟩
              obtain ⟨u1, u2, u3⟩ := ok.u x (List.mem_of_getElem? hx)
              push_cast [e8.k _ _ g7]
              refine ⟨_, atI_g (v := .bl (wdB m t w)) (by rw [List.getElem?_map, List.getElem?_range wl]; rfl), ?_⟩
              have eb := brB_eq m t w
              rw [List.all_cons, upM_eq hx] at eb
              refine ⟨_, rfl, ?_⟩
              cases hb : wdB m t w with
              | false =>
                rw [hb, Bool.false_and] at eb
                push_cast
                have := hN S8 .refl
                rw [eb] at this
                exact ⟨hl, this⟩
              | true =>
                rw [hb, Bool.true_and] at eb
                push_cast
                refine md_idx (hv.ext (ext7.trans e8)) hx ?_
                unfold wdD
                push_cast
                refine ⟨_, atI_00, ?_⟩
                push_cast
                refine loop_map (fun i : Nat => D.int (i : Nat)) (fun j => D.bl (wdB m t j)) (S := S8) (fun _ _ => trivial) x.1 (by omega) (fun j hj acc2 S9 N2 e9 hl2 hN2 => ?_) fun S9 e9 p9 hp9 => ?_
                · refine ⟨_, _, (e8.trans e9).k _ _ g7, atI_g (v := .bl (wdB m t j)) (by rw [List.getElem?_map, List.getElem?_range (u2 j hj)]; rfl), hl2, hN2 S9 .refl⟩
                · refine ⟨_, allB_map, hl, ?_⟩
                  have := hN _ (e9.trans (Ext.new (o := .lst (x.1.map fun j => D.bl (wdB m t j))) hp9))
                  rw [eb] at this
                  exact this
            · exact hQ p8 _ ((ext7.trans e8).trans (Ext.new hp8)) ((ext7.trans e8).none hp8) put_same
    · rintro z zs acc S3 N ⟨ps, ts, hz, rfl, hp, hr, e3⟩ hN
      cases ts with
      | nil => cases hz
      | cons q ts =>
        cases hz
        obtain ⟨hq1, hn1⟩ := pa_hf ht (show q ∈ t.pa by rw [hp]; simp)
        have ll := congrArg List.length hp
        rw [List.length_append, List.length_map, List.length_cons] at ll
        push_cast
        refine d_bearing (n := n - 1) (by omega) (by omega) hq1 ok (hv.ext (x1.trans e3)) fun r S6 e6 nr gr => ?_
        refine ⟨by rw [List.length_map]; omega, hN _ _ ⟨ps ++ [(.ref r, q)], ts, rfl, by rw [List.map_append]; rfl, by rw [hp, List.map_append, List.append_assoc]; rfl, fun p hp => ?_, e3.trans e6⟩⟩
        rcases List.mem_append.mp hp with hp | hp
        · obtain ⟨r', a, b⟩ := hr p hp
          exact ⟨r', a, e6.k _ _ b⟩
        · rw [List.mem_singleton.mp hp]
          exact ⟨r, rfl, gr⟩
  termination_by n => n
  decreasing_by omega


/-! models of worlds: bears, refutes; the law's drawn orders (k22) */ -/
theorem d_bears {k w : Nat} {v : D} {m : List Wld} {t : T} {S : Sto} {Q : KE} {E : XE} (hk : 12 ≤ k) (ok : MOk m) (hv : MD S v m) (h : kindB t = true) (hw : w < m.length) (hQ : ∀ S', Ext S S' → Q (.bl (brB m t w)) S') : wC tab k "bears" [v, .int (w : Nat), t.d] S Q E := by
  refine wd (fd := f_bears) (by omega) rfl rfl ?_
  unfold f_bears
  push_cast
  refine d_need_model (by omega) ok hv fun S1 e1 => ?_
  push_cast
  refine d_num (by omega) ?_
  push_cast
  refine md_len (hv.ext e1) ?_
  push_cast
  rw [if_pos (by omega)]
  try rw [if_pos (by omega)]
  push_cast
  refine d_need_kind (by omega) h fun S2 e2 => ?_
  push_cast
  refine d_bearing (n := 4) (by omega) (by omega) (kindB_hf h) ok (hv.ext (e1.trans e2)) fun p S3 e3 np gp => ?_
  push_cast [gp]
  refine ⟨_, atI_g (v := .bl (brB m t w)) (by unfold rwB; rw [List.getElem?_map, List.getElem?_range hw]; rfl), ?_⟩
  exact hQ S3 ((e1.trans e2).trans e3)
theorem d_refutes {k : Nat} {v : D} {m : List Wld} {t : T} {S : Sto} {Q : KE} {E : XE} (hk : 12 ≤ k) (ok : MOk m) (hv : MD S v m) (h : kindB t = true) (hQ : ∀ S', Ext S S' → Q (.bl (!brB m t 0)) S') : wC tab k "refutes" [v, t.d] S Q E := by
  refine wd (fd := f_refutes) (by omega) rfl rfl ?_
  unfold f_refutes
  have n1 := ok.n1
  push_cast
  refine d_need_model (by omega) ok hv fun S1 e1 => ?_
  push_cast
  refine d_need_kind (by omega) h fun S2 e2 => ?_
  push_cast
  refine d_bearing (n := 4) (by omega) (by omega) (kindB_hf h) ok (hv.ext (e1.trans e2)) fun p S3 e3 np gp => ?_
  push_cast [gp]
  refine ⟨_, atI_g (j := 0) (v := .bl (brB m t 0)) (by unfold rwB; rw [List.getElem?_map, List.getElem?_range (show 0 < m.length by omega)]; rfl), ?_⟩
  push_cast
  exact hQ S3 ((e1.trans e2).trans e3)
theorem kyI {i j : Nat} : kyD (.int (i : Nat)) = kyD (.int (j : Nat)) ↔ i = j := by
  constructor
  · intro h
    have h : some (NestedKey.num ((i : Nat) : Int)) = some (NestedKey.num ((j : Nat) : Int)) := h
    injection h with h
    injection h with h
    omega
  · rintro rfl
    rfl
def cuD (cur : List (Nat × List Nat)) : List (D × D) := cur.map fun p => (.int (p.1 : Nat), .tup (iN p.2))
theorem cu_get : ∀ {cur : List (Nat × List Nat)} {p : Nat × List Nat}, (cur.map (·.1)).Nodup → p ∈ cur → getN (cuD cur) (.int (p.1 : Nat)) = some (.tup (iN p.2))
  | q :: cur, p, nd, h => by
    rw [List.map_cons, List.nodup_cons] at nd
    unfold cuD getN
    rw [List.map_cons, List.find?_cons]
    by_cases e : q.1 = p.1
    · rw [decide_eq_true (kyI.mpr e)]
      rcases List.mem_cons.mp h with rfl | h
      · rfl
      · exact absurd (List.mem_map.mpr ⟨p, h, e.symm⟩) nd.1
    · rw [decide_eq_false (fun z => e (kyI.mp z))]
      rcases List.mem_cons.mp h with rfl | h
      · exact absurd rfl e
      · exact cu_get nd.2 h
theorem cu_set {cur : List (Nat × List Nat)} {r : Nat} {A : List Nat} (h : r ∉ cur.map (·.1)) : setN (cuD cur) (.int (r : Nat)) (.tup (iN A)) = cuD (cur ++ [(r, A)]) := by
  unfold setN
  rw [if_neg]
  · unfold cuD; rw [List.map_append]; rfl
  · intro e
    obtain ⟨p, hp, hk⟩ := List.any_eq_true.mp e
    obtain ⟨q, hq, rfl⟩ := List.mem_map.mp hp
    exact h (List.mem_map.mpr ⟨q, hq, kyI.mp (of_decide_eq_true hk)⟩)
structure CuOk (cur : List (Nat × List Nat)) : Prop where
  nd : (cur.map (·.1)).Nodup
  p : ∀ p ∈ cur, p.2.Pairwise (· < ·) ∧ ∀ e ∈ p.2, ∃ q ∈ cur, q.1 = e ∧ ∀ i ∈ q.2, i ∈ p.2
  self : ∀ p ∈ cur, p.1 ∉ p.2
theorem CuOk.add {cur : List (Nat × List Nat)} (h : CuOk cur) {r : Nat} {A : List Nat} (hr : r ∉ cur.map (·.1)) (hA : A.Pairwise (· < ·)) (hc : ∀ e ∈ A, ∃ q ∈ cur, q.1 = e ∧ ∀ i ∈ q.2, i ∈ A) : CuOk (cur ++ [(r, A)]) where
  nd := by
    rw [List.map_append, List.nodup_append]
    refine ⟨h.nd, by simp, fun a ha b hb e => ?_⟩
    rw [List.map_cons, List.map_nil, List.mem_singleton] at hb
    exact hr (by rw [show r = a from by rw [e]; exact hb.symm]; exact ha)
  p := fun p hp => by
    rcases List.mem_append.mp hp with hp | hp
    · obtain ⟨a, b⟩ := h.p p hp
      exact ⟨a, fun e he => by
        obtain ⟨q, hq, c⟩ := b e he
        exact ⟨q, List.mem_append_left _ hq, c⟩⟩
    · rw [List.mem_singleton.mp hp]
      exact ⟨hA, fun e he => by
        obtain ⟨q, hq, c⟩ := hc e he
        exact ⟨q, List.mem_append_left _ hq, c⟩⟩
  self := fun p hp => by
    rcases List.mem_append.mp hp with hp | hp
    · exact h.self p hp
    · rw [List.mem_singleton.mp hp]
      intro he
      obtain ⟨q, hq, c, _⟩ := hc r he
      exact hr (List.mem_map.mpr ⟨q, hq, c⟩)
/-- sorted numbers of a set -/
theorem sorted_nat {us : List Int} {L : List Nat} (nd : us.Nodup) (hm : ∀ x, x ∈ us ↔ x ∈ L.map fun i => ((i : Nat) : Int)) (hp : us.Pairwise fun a b => PySem.W.dataLe false PyData.int a b = true) : ∃ A : List Nat, us = A.map (fun i => ((i : Nat) : Int)) ∧ A.Pairwise (· < ·) ∧ ∀ i, i ∈ A ↔ i ∈ L := by
  have pos : ∀ x ∈ us, 0 ≤ x := fun x hx => by
    obtain ⟨i, _, rfl⟩ := List.mem_map.mp ((hm x).mp hx)
    omega
  have e : us = (us.map Int.toNat).map fun i => ((i : Nat) : Int) := by
    rw [List.map_map]
    conv => lhs; rw [← List.map_id us]
    exact List.map_congr_left fun x hx => by have := pos x hx; show x = ((x.toNat : Nat) : Int); omega
  refine ⟨us.map Int.toNat, e, ?_, fun i => ?_⟩
  · refine List.pairwise_map.mpr (((hp.and nd).imp_of_mem fun {a b} ha hb h => ?_))
    obtain ⟨h1, h2⟩ := h
    have h1 : (!PySem.W.dataLt (.int b) (.int a)) = true := h1
    rw [PySem.W.dataLt_int] at h1
    have := pos a ha
    have := pos b hb
    have h3 : ¬ b < a := by simpa using h1
    omega
  · constructor
    · intro h
      obtain ⟨x, hx, rfl⟩ := List.mem_map.mp h
      obtain ⟨j, hj, rfl⟩ := List.mem_map.mp ((hm x).mp hx)
      rw [Int.toNat_natCast]
      exact hj
    · intro h
      exact List.mem_map.mpr ⟨((i : Nat) : Int), (hm _).mpr (List.mem_map.mpr ⟨i, h, rfl⟩), Int.toNat_natCast i⟩
theorem sorted_str {us : List Str} (nd : us.Nodup) (hp : us.Pairwise fun a b => PySem.W.dataLe false PyData.str a b = true) : us.Pairwise sLt := by
  refine (hp.and nd).imp fun {a b} h => ?_
  obtain ⟨h1, h2⟩ := h
  have h1 : (!PySem.W.dataLt (.str b) (.str a)) = true := h1
  rw [PySem.W.dataLt_str] at h1
  have h3 : ¬ b.cps.toList < a.cps.toList := by simpa using h1
  show PySem.W.dataLt (.str a) (.str b) = true
  rw [PySem.W.dataLt_str]
  refine decide_eq_true (Classical.byContradiction fun h4 => h2 (PySem.W.str_of_cps ?_))
  exact List.le_antisymm (List.not_lt.mp h3) (List.not_lt.mp h4)


/-! models of worlds: the law's drawn orders (k22) -/
theorem ndS {α : Type} [DecidableEq α] : ∀ {us l : List α}, us.Nodup → (∀ x ∈ us, x ∈ l) → us.length ≤ l.length
  | [], l, _, _ => Nat.zero_le _
  | u :: us, l, h, s => by
    obtain ⟨h1, h2⟩ := List.nodup_cons.mp h
    have hu := s u List.mem_cons_self
    have ih := ndS (us := us) (l := l.erase u) h2 fun x hx => (List.mem_erase_of_ne (fun e => h1 (by rw [← e]; exact hx))).mpr (s x (List.mem_cons_of_mem _ hx))
    rw [List.length_erase_of_mem hu] at ih
    have := List.length_pos_of_mem hu
    rw [List.length_cons]
    omega
def aboO (cur : List (Nat × List Nat)) (k : Nat) : List Nat := ((cur.find? fun p => decide (p.1 = k)).map (·.2)).getD []
theorem abo_eq : ∀ {cur : List (Nat × List Nat)} {p : Nat × List Nat}, (cur.map (·.1)).Nodup → p ∈ cur → aboO cur p.1 = p.2
  | q :: cur, p, nd, h => by
    rw [List.map_cons, List.nodup_cons] at nd
    unfold aboO
    rw [List.find?_cons]
    by_cases e : q.1 = p.1
    · rw [decide_eq_true e]
      rcases List.mem_cons.mp h with rfl | h
      · rfl
      · exact absurd (List.mem_map.mpr ⟨p, h, e.symm⟩) nd.1
    · rw [decide_eq_false e]
      rcases List.mem_cons.mp h with rfl | h
      · exact absurd rfl e
      · exact abo_eq nd.2 h
theorem ints_sh (zs : List Nat) : SeqAt.shaped (.list (zs.map fun i => PyData.int (i : Nat))) = true := iP_sh zs
def OrdOk (us : List (List Nat)) (many : Nat) : Prop := us.length = many ∧ ∀ (k : Nat) (u : List Nat), us[k]? = some u → u.Pairwise (fun a b => a < b) ∧ (∀ i ∈ u, i < many) ∧ u.length ≤ 6 ∧ k ∉ u ∧ ∀ j ∈ u, ∀ v, us[j]? = some v → ∀ i ∈ v, i ∈ u
theorem ord_ok {cur : List (Nat × List Nat)} {many : Nat} (h6 : many ≤ 6) (h : CuOk cur) (pm : (cur.map (·.1)).Perm (List.range many)) : OrdOk ((List.range many).map (aboO cur)) many := by
  have key : ∀ k, k < many → ∃ p ∈ cur, p.1 = k ∧ aboO cur k = p.2 := fun k hk => by
    obtain ⟨p, hp, e⟩ := List.mem_map.mp (pm.mem_iff.mpr (List.mem_range.mpr hk))
    exact ⟨p, hp, e, by rw [← e]; exact abo_eq h.nd hp⟩
  refine ⟨by simp, fun k u hu => ?_⟩
  have hk : k < many := by have := (List.getElem?_eq_some_iff.mp hu).1; simpa using this
  rw [List.getElem?_map, List.getElem?_range hk] at hu
  cases hu
  obtain ⟨p, hp, e1, e2⟩ := key k hk
  rw [e2]
  obtain ⟨a, b⟩ := h.p p hp
  have lt : ∀ i ∈ p.2, i < many := fun i hi => by
    obtain ⟨q, hq, e, _⟩ := b i hi
    exact List.mem_range.mp (pm.mem_iff.mp (List.mem_map.mpr ⟨q, hq, e⟩))
  refine ⟨a, lt, ?_, by rw [← e1]; exact h.self p hp, fun j hj v hv i hi => ?_⟩
  · have := ndS (us := p.2) (l := List.range many) (a.imp fun h => Nat.ne_of_lt h) fun x hx => List.mem_range.mpr (lt x hx)
    rw [List.length_range] at this
    omega
  · obtain ⟨q, hq, e, c⟩ := b j hj
    rw [List.getElem?_map, List.getElem?_range (lt j hj)] at hv
    cases hv
    rw [← e, abo_eq h.nd hq] at hi
    exact c i hi
theorem l_order_w {k a l c many : Nat} {S : Sto} {Q : KE} {E : XE} (hk : 8 ≤ k) (h6 : many ≤ 6) (d : Draw S a l c)
    (hQ : ∀ p (us : List (List Nat)) S', OrdOk us many → Draw S' a l c → Kp a l S S' → S p = none → S' p = some (.lst (us.map fun u => .tup (iN u))) → Q (.ref p) S') :
    wC tab k "_law_order" [.ref a, .int (many : Nat)] S Q E := by
  refine wd (fd := f__law_order) (by omega) rfl rfl ?_
  unfold f__law_order
  have sz := sizeLine_eq
  push_cast
  have rg : L2.RgOk 0 ((many : Nat) : Int) := ⟨by omega, by omega, by omega, by omega, by omega⟩
  refine ⟨rg, fun p0 hp0 => ?_⟩
  rw [Int.sub_zero, ints_n]
  refine shufG (fun i : Nat => D.int (i : Nat)) (fun i => .int (i : Nat)) (fun _ _ => .int _) (by omega) (d.new hp0) put_same (by rw [List.length_range]; omega) (fun zs _ _ => ints_sh zs) fun q zs S1 d1 k1 nq gq pm => ?_
  have k01 := (Kp.new (a := a) (l := l) hp0).trans k1
  have nq2 := (d.new (o := .lst ((List.range many).map fun i : Nat => D.int (i : Nat))) hp0).ne nq
  have lz : zs.length = many := by rw [pm.length_eq, List.length_range]
  intro p4 hp4
  have n4 := d1.ne hp4
  have Sp4 : S p4 = none := by
    cases e : S p4 with
    | none => rfl
    | some o => rw [k01.k _ _ e n4.1 n4.2.1] at hp4; cases hp4
  have q4 : ¬ q = p4 := fun e => by rw [← e, gq] at hp4; cases hp4
  have d2 := d1.new (o := .dcn []) hp4
  have k02 := k01.put (o := .dcn []) Sp4
  have g4 : put S1 p4 (.dcn []) p4 = some (.dcn (cuD [])) := put_same
  have gq2 := (Ext.new (o := .dcn []) hp4).k _ _ gq
  generalize put S1 p4 (.dcn []) = S2 at d2 k02 g4 gq2 ⊢
  refine ⟨by omega, ⟨by omega, by omega⟩, ?_⟩
  try rw [ints_n]
  rw [show List.range many = List.range' 0 (many - 0) by rw [Nat.sub_zero, List.range_eq_range']]
  refine loop_ok (fun zl φ S' => ∃ (cur : List (Nat × List Nat)) (o2 o5 o6 : Option D), zl = (List.range' cur.length (many - cur.length)).map (fun i : Nat => D.int (i : Nat)) ∧ φ = [some (.ref a), some (.int (many : Nat)), o2, some (.ref q), some (.ref p4), o5, o6] ∧ cur.map (·.1) = zs.take cur.length ∧ cur.length ≤ many ∧ CuOk cur ∧ Draw S' a l c ∧ Kp a l S S' ∧ S' q = some (.lst (zs.map fun i : Nat => D.int (i : Nat))) ∧ S' p4 = some (.dcn (cuD cur))) (fun _ _ _ _ => trivial) ?_ ?_ ⟨[], _, _, _, rfl, rfl, rfl, Nat.zero_le _, ⟨List.nodup_nil, fun _ h => (nomatch h), fun _ h => (nomatch h)⟩, d2, k02, gq2, g4⟩
  · rintro φ S3 ⟨cur, o2, o5, o6, hz, rfl, hc, hl, ok, d3, k3, gq3, g43⟩
    have hfull : cur.length = many := by
      have := congrArg List.length hz
      simp only [List.length_nil, List.length_map, List.length_range'] at this
      omega
    rw [hfull, List.take_of_length_le (by omega)] at hc
    rw [← hc] at pm
    push_cast
    try rw [ints_n]
    refine ⟨⟨by omega, by omega⟩, ?_⟩
    try rw [show List.range' 0 (many - 0) = List.range many by rw [Nat.sub_zero, List.range_eq_range']]
    refine loop_map (fun i : Nat => D.int (i : Nat)) (fun i => D.tup (iN (aboO cur i))) (S := S3) (fun _ _ => trivial) (List.range many) (by rw [List.length_range]; omega) (fun i hi acc S4 N e4 hl4 hN => ?_) fun S4 e4 p5 hp5 => ?_
    · obtain ⟨p, hp, e⟩ := List.mem_map.mp (pm.mem_iff.mpr hi)
      refine ⟨_, e4.k _ _ g43, ⟨_, rfl, Nat.zero_le _⟩, _, (by rw [← e]; exact cu_get ok.nd hp), hl4, ?_⟩
      have := hN S4 .refl
      rw [← e, abo_eq ok.nd hp] at this
      exact this
    · have x5 := Ext.new (o := .lst ((List.range many).map fun i => D.tup (iN (aboO cur i)))) hp5
      have e5 := e4.trans x5
      refine hQ p5 ((List.range many).map (aboO cur)) _ (ord_ok h6 ok pm) (e5.draw d3) (k3.trans e5.kp) ?_ (by rw [List.map_map]; exact put_same)
      cases e : S p5 with
      | none => rfl
      | some o =>
        have n5 := (e4.draw d3).ne hp5
        rw [(k3.trans e4.kp).k _ _ e n5.1 n5.2.1] at hp5
        cases hp5
  · rintro z zl φ S3 N ⟨cur, o2, o5, o6, hz, rfl, hc, hl, ok, d3, k3, gq3, g43⟩ hN
    obtain ⟨m1, hm1⟩ : ∃ m1, many - cur.length = m1 + 1 := by
      cases e : many - cur.length with
      | zero => rw [e] at hz; cases hz
      | succ m1 => exact ⟨m1, rfl⟩
    rw [hm1, List.range'_succ, List.map_cons] at hz
    injection hz with hz1 hz2
    subst hz1
    obtain ⟨r, hr⟩ : ∃ r, zs[cur.length]? = some r := ⟨zs[cur.length]'(by omega), List.getElem?_eq_getElem _⟩
    have ndz : zs.Nodup := pm.nodup_iff.mpr List.nodup_range
    have rn : r ∉ cur.map (·.1) := fun h => by
      rw [hc] at h
      obtain ⟨i, hi⟩ := List.getElem?_of_mem h
      have il : i < cur.length := by
        have := (List.getElem?_eq_some_iff.mp hi).1
        rw [List.length_take] at this
        omega
      rw [List.getElem?_take, if_pos il] at hi
      have := (List.getElem?_inj (show i < zs.length by omega) ndz).mp (hi.trans hr.symm)
      omega
    push_cast
    refine ⟨by omega, fun pf hpf => ?_⟩
    have nf := d3.ne hpf
    have Spf : S pf = none := by
      cases e : S pf with
      | none => rfl
      | some o => rw [k3.k _ _ e nf.1 nf.2.1] at hpf; cases hpf
    have x3 := Ext.new (o := .lst ([] : List D)) hpf
    have gf : put S3 pf (.lst []) pf = some (.lst (iN [])) := put_same
    have d3' := x3.draw d3
    have k3' := k3.trans x3.kp
    have gq3' := x3.k _ _ gq3
    have g43' := x3.k _ _ g43
    generalize put S3 pf (.lst []) = S4 at x3 gf d3' k3' gq3' g43' ⊢
    push_cast
    rw [ints_n, show List.range cur.length = List.range' 0 (cur.length - 0) by rw [Nat.sub_zero, List.range_eq_range']]
    refine ⟨⟨by omega, by omega⟩, ?_⟩
    refine loop_ok (fun zl2 φ S' => ∃ (j : Nat) (L : List Nat) (pf : Nat) (o6 : Option D), zl2 = (List.range' j (cur.length - j)).map (fun i : Nat => D.int (i : Nat)) ∧ φ = [some (.ref a), some (.int (many : Nat)), some (.int (cur.length : Nat)), some (.ref q), some (.ref p4), some (.ref pf), o6] ∧ j ≤ cur.length ∧ S' pf = some (.lst (iN L)) ∧ (pf ≠ a ∧ pf ≠ l) ∧ L.length ≤ 7 * j ∧ (∀ e ∈ L, ∃ p ∈ cur, p.1 = e ∧ ∀ i ∈ p.2, i ∈ L) ∧ Draw S' a l c ∧ Kp a l S S' ∧ S' q = some (.lst (zs.map fun i : Nat => D.int (i : Nat))) ∧ S' p4 = some (.dcn (cuD cur))) (fun _ _ _ _ => trivial) ?_ ?_ ⟨0, [], pf, _, rfl, rfl, Nat.zero_le _, gf, ⟨nf.1, nf.2.1⟩, Nat.le_refl _, fun _ h => (nomatch h), d3', k3', gq3', g43'⟩
    · rintro φ S5 ⟨j, L, pf, o6, hz, rfl, hj, gL, nL, lL, cl, d5, k5, gq5, g45⟩
      have lc : cur.length ≤ 6 := by omega
      have j6 : L.length ≤ 42 := by omega
      have eL : iN L = (L.map fun i => ((i : Nat) : Int)).map D.int := by unfold iN; rw [List.map_map]; rfl
      push_cast
      refine .inr ⟨L.map fun i => ((i : Nat) : Int), ⟨pf, rfl, by rw [← eL]; exact gL⟩, by rw [List.length_map]; omega, fun us und um up p8 hp8 => ?_⟩
      obtain ⟨A, rfl, pA, mA⟩ := sorted_nat und um up
      rw [show (A.map fun i => ((i : Nat) : Int)).map D.int = iN A by unfold iN; rw [List.map_map]; rfl]
      have x8 := Ext.new (o := .lst (iN A)) hp8
      have g8 : put S5 p8 (.lst (iN A)) p8 = some (.lst (iN A)) := put_same
      have lA : A.length ≤ 42 := by
        have := ndS (us := A) (l := L) (pA.imp fun h => Nat.ne_of_lt h) fun x hx => (mA x).mp hx
        omega
      generalize put S5 p8 (.lst (iN A)) = S8 at x8 g8 ⊢
      push_cast [g8]
      have clA : ∀ e ∈ A, ∃ p ∈ cur, p.1 = e ∧ ∀ i ∈ p.2, i ∈ A := fun e he => by
        obtain ⟨p, hp, e1, e2⟩ := cl e ((mA e).mp he)
        exact ⟨p, hp, e1, fun i hi => (mA i).mpr (e2 i hi)⟩
      refine ⟨_, x8.k _ _ gq5, _, atI_g (by rw [List.getElem?_map, hr]; rfl), _, x8.k _ _ g45, ⟨_, rfl, Nat.zero_le _⟩, by unfold cuD; rw [List.length_map]; omega, ?_⟩
      rw [cu_set rn]
      refine hN _ _ ⟨cur ++ [(r, A)], _, _, _, ?_, rfl, ?_, by rw [List.length_append, List.length_singleton]; omega, ok.add rn pA clA, (x8.draw d5).other (u := .lst []) n4.1 n4.2.1 n4.2.2, (k5.trans x8.kp).put Sp4, by rw [put_ne q4]; exact x8.k _ _ gq5, put_same⟩
      · rw [List.length_append, List.length_singleton, hz2, show many - (cur.length + 1) = m1 by omega]
      · rw [List.length_append, List.length_singleton, List.map_append, hc, List.take_add_one, hr]
        rfl
    · rintro z2 zl2 φ S5 N2 ⟨j, L, pf, o6, hz, rfl, hj, gL, nL, lL, cl, d5, k5, gq5, g45⟩ hN2
      obtain ⟨m2, hm2⟩ : ∃ m2, cur.length - j = m2 + 1 := by
        cases e : cur.length - j with
        | zero => rw [e] at hz; cases hz
        | succ m2 => exact ⟨m2, rfl⟩
      rw [hm2, List.range'_succ, List.map_cons] at hz
      injection hz with hz1 hz3
      subst hz1
      push_cast
      refine d_take (by omega) d5 (by omega) (by omega) fun i S6 i0 i1 d6 k6 => ?_
      push_cast
      have gq6 := k6.k _ _ gq5 nq2.1 nq2.2.1
      have g46 := k6.k _ _ g45 n4.1 n4.2.1
      have gL6 := k6.k _ _ gL nL.1 nL.2
      by_cases hi : i = 0
      · rw [if_pos hi]
        obtain ⟨p, hp⟩ : ∃ p, cur[j]? = some p := ⟨cur[j]'(by omega), List.getElem?_eq_getElem _⟩
        have pm2 := List.mem_of_getElem? hp
        have hzj : zs[j]? = some p.1 := by
          have h1 : (cur.map (·.1))[j]? = some p.1 := by rw [List.getElem?_map, hp]; rfl
          rw [hc, List.getElem?_take, if_pos (by omega)] at h1
          exact h1
        obtain ⟨pA, pc⟩ := ok.p p pm2
        have lc : cur.length ≤ 6 := by omega
        have lp : p.2.length ≤ 6 := by
          have := ndS (us := p.2) (l := cur.map (·.1)) (pA.imp fun h => Nat.ne_of_lt h) fun x hx => by
            obtain ⟨q', hq', e, _⟩ := pc x hx
            exact List.mem_map.mpr ⟨q', hq', e⟩
          rw [List.length_map] at this
          omega
        have lL : (iN L).length ≤ 42 := by unfold iN; rw [List.length_map]; omega
        refine ⟨_, gq6, _, atI_g (v := .int (p.1 : Nat)) (by rw [List.getElem?_map, hzj]; rfl), by omega, fun p7 hp7 => ?_⟩
        have x7 := Ext.new (o := .lst ([.int (p.1 : Nat)] : List D)) hp7
        have g7 : put S6 p7 (.lst [.int (p.1 : Nat)]) p7 = some (.lst [.int (p.1 : Nat)]) := put_same
        generalize put S6 p7 (.lst [.int (p.1 : Nat)]) = S7 at x7 g7 ⊢
        push_cast [x7.k _ _ gL6, g7]
        refine ⟨by omega, fun p8 hp8 => ?_⟩
        have e9 : iN L ++ [D.int (p.1 : Nat)] = iN (L ++ [p.1]) := by unfold iN; rw [List.map_append]; rfl
        rw [e9]
        have x8 := Ext.new (o := .lst (iN (L ++ [p.1]))) hp8
        have g8 : put S7 p8 (.lst (iN (L ++ [p.1]))) p8 = some (.lst (iN (L ++ [p.1]))) := put_same
        generalize put S7 p8 (.lst (iN (L ++ [p.1]))) = S8 at x8 g8 ⊢
        have x78 := x7.trans x8
        refine ⟨_, x78.k _ _ gq6, _, atI_g (v := .int (p.1 : Nat)) (by rw [List.getElem?_map, hzj]; rfl), _, x78.k _ _ g46, ⟨_, rfl, Nat.zero_le _⟩, _, cu_get ok.nd pm2, ?_⟩
        push_cast
        intro p9 hp9
        have x9 := Ext.new (o := .lst (iN p.2)) hp9
        have lp2 : (iN p.2).length ≤ 6 := by unfold iN; rw [List.length_map]; exact lp
        have l8 : (iN (L ++ [p.1])).length ≤ 43 := by unfold iN; rw [List.length_map, List.length_append, List.length_singleton]; unfold iN at lL; rw [List.length_map] at lL; omega
        refine ⟨_, x9.k _ _ g8, by omega, fun p10 hp10 => ?_⟩
        have e11 : iN (L ++ [p.1]) ++ iN p.2 = iN (L ++ [p.1] ++ p.2) := by unfold iN; simp only [List.map_append]
        rw [e11]
        have xa := (x78.trans x9).trans (Ext.new (o := .lst (iN (L ++ [p.1] ++ p.2))) hp10)
        have n10 := ((x78.trans x9).draw d6).ne hp10
        refine hN2 _ _ ⟨j + 1, L ++ [p.1] ++ p.2, p10, _, by rw [hz3, show cur.length - (j + 1) = m2 by omega], rfl, by omega, put_same, ⟨n10.1, n10.2.1⟩, by rw [List.length_append, List.length_append, List.length_singleton]; omega, fun e he => ?_, xa.draw d6, (k5.trans k6).trans xa.kp, xa.k _ _ gq6, xa.k _ _ g46⟩
        rcases List.mem_append.mp he with he | he
        · rcases List.mem_append.mp he with he | he
          · obtain ⟨q', h1, h2, h3⟩ := cl e he
            exact ⟨q', h1, h2, fun x hx => List.mem_append_left _ (List.mem_append_left _ (h3 x hx))⟩
          · rw [List.mem_singleton.mp he]
            exact ⟨p, pm2, rfl, fun x hx => List.mem_append_right _ hx⟩
        · obtain ⟨q', h1, h2, h3⟩ := pc e he
          exact ⟨q', h1, h2, fun x hx => List.mem_append_right _ (h3 x hx)⟩
      · rw [if_neg hi]
        exact hN2 _ _ ⟨j + 1, L, pf, _, by rw [hz3, show cur.length - (j + 1) = m2 by omega], rfl, by omega, gL6, nL, by omega, cl, d6, k5.trans k6, gq6, g46⟩


/-! models of worlds: the law's drawn ones (k22) -/
def hs_b2 : ISs := (.cons (.asg [7] false (.bin .add (.var 7) (.idx (.var 3) (.var 8)))) .nil)
def hs_b1_3 : ISs := (.cons (.exp (.met .append (.var 4) (.cons (.tup (.cons (.idx (.var 2) (.var 5)) (.cons (.bui .tuple (.cons (.sset (.var 7)) .nil)) .nil))) .nil))) .nil)
def hs_b1_2 : ISs := (.cons (.for_ [8] false (.of (.var 6)) hs_b2) hs_b1_3)
def hs_b1_1 : ISs := (.cons (.asg [7] false (.lst .nil)) hs_b1_2)
def hs_b1 : ISs := (.cons (.asg [6] false (.lc (.var 8) [8] [8] false (.rng (.cons (.bui .len (.cons (.var 2) .nil)) .nil)) (.cons (.boo false (.cons (.cmp .eq (.var 8) (.var 5)) (.cons (.cmp .isin (.var 5) (.idx (.var 2) (.var 8))) .nil))) .nil))) hs_b1_1)
def hs_m_4 : ISs := (.cons (.ret (.var 4)) .nil)
def hs_m_3 : ISs := (.cons (.for_ [5] false (.rng (.cons (.bui .len (.cons (.var 2) .nil)) .nil)) hs_b1) hs_m_4)
def hs_m_2 : ISs := (.cons (.asg [4] false (.lst .nil)) hs_m_3)
def hs_m_1 : ISs := (.cons (.asg [3] false (.lc (.lc (.var 9) [9] [9] false (.of (.var 1)) (.cons (.cmp .eq (.cal "_law_take" (.cons (.var 0) (.cons (.lit (.int 4)) .nil))) (.lit (.int 0))) .nil)) [5] [5] false (.rng (.cons (.bui .len (.cons (.var 2) .nil)) .nil)) .nil)) hs_m_2)
def hs_m : ISs := (.cons (.asg [2] false (.cal "_law_order" (.cons (.var 0) (.cons (.bin .add (.lit (.int 1)) (.cal "_law_take" (.cons (.var 0) (.cons (.lit (.int 6)) .nil)))) .nil)))) hs_m_1)
theorem hs_eq : f__law_house = ⟨["_law_draw", "_law_words_here"], 10, hs_m⟩ := rfl
/-- what holds where is begun below -/
def HouOk (us : List (List Nat)) (bs : List (Nat × List Str)) (m : List Wld) : Prop := ∀ (i : Nat) (x : Wld), m[i]? = some x → us[i]? = some x.1 ∧ x.2.Pairwise sLt ∧ (∀ w ∈ x.2, nameB w = true) ∧ x.2.length ≤ 100 ∧ ∀ w, w ∈ x.2 ↔ ∃ (j : Nat) (u : List Nat) (b : Nat × List Str), us[j]? = some u ∧ bs[j]? = some b ∧ (j = i ∨ i ∈ u) ∧ w ∈ b.2
theorem house_ok {us : List (List Nat)} {bs : List (Nat × List Str)} {m : List Wld} {many : Nat} (n1 : 1 ≤ many) (n6 : many ≤ 6) (h : OrdOk us many) (lb : bs.length = many) (lm : m.length = many) (hh : HouOk us bs m) : MOk m where
  n1 := by omega
  n9 := by omega
  u := fun x hx => by
    obtain ⟨i, hi⟩ := List.getElem?_of_mem hx
    obtain ⟨e, _⟩ := hh i x hi
    obtain ⟨a, b, c, _⟩ := h.2 i x.1 e
    exact ⟨a, fun j hj => by rw [lm]; exact b j hj, by omega⟩
  self := fun k x hx => by
    obtain ⟨e, _⟩ := hh k x hx
    exact (h.2 k x.1 e).2.2.2.1
  h := fun x hx => by
    obtain ⟨i, hi⟩ := List.getElem?_of_mem hx
    obtain ⟨_, a, b, c, _⟩ := hh i x hi
    exact ⟨a, b, c⟩
  up := fun x hx j hj y hy => by
    obtain ⟨i, hi⟩ := List.getElem?_of_mem hx
    obtain ⟨e1, _, _, _, m1⟩ := hh i x hi
    obtain ⟨e2, _, _, _, m2⟩ := hh j y hy
    obtain ⟨_, _, _, _, up⟩ := h.2 i x.1 e1
    refine ⟨up j hj y.1 e2, fun w hw => (m2 w).mpr ?_⟩
    obtain ⟨j', u, b, a1, a2, a3, a4⟩ := (m1 w).mp hw
    refine ⟨j', u, b, a1, a2, .inr ?_, a4⟩
    rcases a3 with rfl | a3
    · rw [e1] at a1
      cases a1
      exact hj
    · exact (h.2 j' u a1).2.2.2.2 i a3 x.1 e1 j hj
theorem fl_if (p : Nat → Bool) : ∀ xs : List Nat, (xs.flatMap fun j : Nat => if p j = true then [D.int (j : Nat)] else []) = iN (xs.filter p)
  | [] => rfl
  | x :: xs => by
    rw [List.flatMap_cons, fl_if p xs, List.filter_cons]
    split <;> rfl
theorem l_house {k a l c w : Nat} {ws : List Str} {S : Sto} {Q : KE} {E : XE} (hk : 10 ≤ k) (d : Draw S a l c) (gw : S w = some (.lst (ws.map D.str))) (nw : w ≠ a ∧ w ≠ l) (hw : ∀ x ∈ ws, nameB x = true) (lw : ws.length ≤ 15)
    (hQ : ∀ p m S', MOk m → m.length ≤ 6 → Draw S' a l c → Kp a l S S' → S p = none → (p ≠ a ∧ p ≠ l) → S' p = some (.lst (m.map wdD)) → Q (.ref p) S') :
    wC tab k "_law_house" [.ref a, .ref w] S Q E := by
  refine wd (fd := f__law_house) (by omega) rfl rfl ?_
  rw [hs_eq]
  have sz := sizeLine_eq
  unfold hs_m
  push_cast
  refine d_take (by omega) d (by omega) (by omega) fun i S1 i0 i1 d1 k1 => ?_
  push_cast
  obtain ⟨many, em, n1, n6⟩ : ∃ many : Nat, 1 + i = (many : Nat) ∧ 1 ≤ many ∧ many ≤ 6 := ⟨(1 + i).toNat, by omega, by omega, by omega⟩
  rw [em]
  refine l_order_w (by omega) n6 d1 fun p2 us S2 ou d2 k2 np2 g2 => ?_
  have n2 := d1.ne np2
  have lu := ou.1
  unfold hs_m_1
  push_cast [g2]
  have k02 := k1.trans k2
  have gw2 := k02.k _ _ gw nw.1 nw.2
  rw [List.length_map, lu]
  refine ⟨⟨by omega, by omega⟩, ?_⟩
  rw [ints_n]
  refine loop_ok (fun zs acc S' => ∃ bs : List (Nat × List Str), acc = bs.map (fun b => D.ref b.1) ∧ bs.length + zs.length = many ∧ (∀ b ∈ bs, (b.1 ≠ a ∧ b.1 ≠ l) ∧ S' b.1 = some (.lst (b.2.map D.str)) ∧ (∀ x ∈ b.2, nameB x = true) ∧ b.2.length ≤ 15) ∧ Draw S' a l c ∧ Kp a l S2 S') (fun _ _ _ _ => trivial) ?_ ?_ ⟨[], rfl, by rw [List.length_map, List.length_range]; exact Nat.zero_add _, fun _ h => (nomatch h), d2, .refl⟩
  · rintro acc S3 ⟨bs, rfl, lb, hb, d3, k3⟩ p3 hp3
    have lb : bs.length = many := lb
    have x3 := Ext.new (o := .lst (bs.map fun b => D.ref b.1)) hp3
    have g3 : put S3 p3 (.lst (bs.map fun b => D.ref b.1)) p3 = some (.lst (bs.map fun b => D.ref b.1)) := put_same
    have d4 := x3.draw d3
    have k04 := (k02.trans k3).trans x3.kp
    have hb4 : ∀ b ∈ bs, put S3 p3 (.lst (bs.map fun b => D.ref b.1)) b.1 = some (.lst (b.2.map D.str)) ∧ (∀ x ∈ b.2, nameB x = true) ∧ b.2.length ≤ 15 := fun b hbm => by
      obtain ⟨_, b2, b3, b4⟩ := hb b hbm
      exact ⟨x3.k _ _ b2, b3, b4⟩
    have g24 := x3.k _ _ (k3.k _ _ g2 n2.1 n2.2.1)
    generalize put S3 p3 (.lst (bs.map fun b => D.ref b.1)) = S4 at x3 g3 d4 k04 hb4 g24 ⊢
    clear hb x3 k3 d3
    unfold hs_m_2
    push_cast
    refine ⟨by omega, fun p4 hp4 => ?_⟩
    have n4 := d4.ne hp4
    have Sp4 : S p4 = none := by
      cases e : S p4 with
      | none => rfl
      | some o => rw [k04.k _ _ e n4.1 n4.2.1] at hp4; cases hp4
    have x5 := Ext.new (o := .lst ([] : List D)) hp4
    have g45 : put S4 p4 (.lst []) p4 = some (.lst (([] : List Wld).map wdD)) := put_same
    have d5 := x5.draw d4
    have k05 := k04.trans x5.kp
    have g25 := x5.k _ _ g24
    have g35 := x5.k _ _ g3
    have ne24 : ¬ p2 = p4 := fun e => by rw [← e, g24] at hp4; cases hp4
    have ne34 : ¬ p3 = p4 := fun e => by rw [← e, g3] at hp4; cases hp4
    have hb5 : ∀ b ∈ bs, put S4 p4 (.lst []) b.1 = some (.lst (b.2.map D.str)) ∧ (∀ x ∈ b.2, nameB x = true) ∧ b.2.length ≤ 15 ∧ ¬ b.1 = p4 := fun b hbm => by
      obtain ⟨b2, b3, b4⟩ := hb4 b hbm
      exact ⟨x5.k _ _ b2, b3, b4, fun e => by rw [← e, b2] at hp4; cases hp4⟩
    generalize put S4 p4 (.lst []) = S5 at x5 g45 d5 k05 g25 g35 hb5 ⊢
    unfold hs_m_3
    push_cast [g25]
    rw [List.length_map, lu]
    try rw [ints_n]
    refine ⟨⟨by omega, by omega⟩, ?_⟩
    rw [show List.range many = List.range' 0 (many - 0) by rw [Nat.sub_zero, List.range_eq_range']]
    refine loop_ok (fun zl φ S' => ∃ (m : List Wld) (o5 o6 o7 o8 : Option D), zl = (List.range' m.length (many - m.length)).map (fun i : Nat => D.int (i : Nat)) ∧ φ = [some (.ref a), some (.ref w), some (.ref p2), some (.ref p3), some (.ref p4), o5, o6, o7, o8, none] ∧ m.length ≤ many ∧ HouOk us bs m ∧ Draw S' a l c ∧ Kp a l S S' ∧ S' p2 = some (.lst (us.map fun u => .tup (iN u))) ∧ S' p3 = some (.lst (bs.map fun b => D.ref b.1)) ∧ S' p4 = some (.lst (m.map wdD)) ∧ ∀ b ∈ bs, S' b.1 = some (.lst (b.2.map D.str))) (fun _ _ _ _ => trivial) ?_ ?_ ⟨[], _, _, _, _, rfl, rfl, Nat.zero_le _, fun i x h => (nomatch h), d5, k05, g25, g35, g45, fun b hbm => (hb5 b hbm).1⟩
    · rintro φ S6 ⟨m, o5, o6, o7, o8, hz, rfl, lm, hh, d6, k6, g26, g36, g46, hb6⟩
      have hfull : m.length = many := by
        have := congrArg List.length hz
        simp only [List.length_nil, List.length_map, List.length_range'] at this
        omega
      unfold hs_m_4
      push_cast
      exact hQ p4 m S6 (house_ok n1 n6 ou lb hfull hh) (by omega) d6 k6 Sp4 ⟨n4.1, n4.2.1⟩ g46
    · rintro z zl φ S6 N ⟨m, o5, o6, o7, o8, hz, rfl, lm, hh, d6, k6, g26, g36, g46, hb6⟩ hN
      obtain ⟨m1, hm1⟩ : ∃ m1, many - m.length = m1 + 1 := by
        cases e : many - m.length with
        | zero => rw [e] at hz; cases hz
        | succ m1 => exact ⟨m1, rfl⟩
      rw [hm1, List.range'_succ, List.map_cons] at hz
      injection hz with hz1 hz2
      subst hz1
      unfold hs_b1
      push_cast [g26]
      rw [List.length_map, lu]
      try rw [ints_n]
      refine ⟨⟨by omega, by omega⟩, ?_⟩
      let bl : Nat → Bool := fun j => decide (j = m.length) || decide (m.length ∈ (us[j]?).getD [])
      have el : ((List.range many).flatMap fun j : Nat => if bl j = true then [D.int (j : Nat)] else []) = iN ((List.range many).filter bl) := fl_if bl _
      have lf := List.length_filter_le bl (List.range many)
      rw [List.length_range] at lf
      have ln : (iN ((List.range many).filter bl)).length ≤ 6 := by unfold iN; rw [List.length_map]; omega
      refine loop_ext (fun j : Nat => D.int (j : Nat)) (fun j => if bl j = true then [D.int (j : Nat)] else []) (S := S6) (fun _ _ => trivial) (List.range many) [] S6 .refl (by rw [el, List.length_nil]; omega) (fun j hj acc S7 N7 e7 hl hN7 => ?_) fun S7 e7 p6 hp6 => ?_
      · have jl := List.mem_range.mp hj
        obtain ⟨u, hu⟩ : ∃ u, us[j]? = some u := ⟨us[j]'(by omega), List.getElem?_eq_getElem _⟩
        have hN7 := hN7 S7 .refl
        have eb : bl j = (decide (j = m.length) || decide (m.length ∈ u)) := by show (decide (j = m.length) || decide (m.length ∈ (us[j]?).getD [])) = _; rw [hu]; rfl
        rw [eb] at hN7
        push_cast
        by_cases h0 : j = m.length
        · rw [decide_eq_true h0, Bool.true_or] at hN7
          have h1 : ((j : Nat) : Int) = (m.length : Nat) := by omega
          rw [if_pos h1, if_pos h1]
          exact ⟨by omega, by simpa using hN7⟩
        · rw [decide_eq_false h0, Bool.false_or] at hN7
          rw [if_neg (by omega)]
          refine ⟨_, e7.k _ _ g26, _, atI_g (v := .tup (iN u)) (by rw [List.getElem?_map, hu]; rfl), in_iN ?_⟩
          by_cases h2 : m.length ∈ u
          · rw [decide_eq_true h2] at hN7 ⊢
            rw [if_pos rfl]
            exact ⟨by omega, by simpa using hN7⟩
          · rw [decide_eq_false h2] at hN7 ⊢
            rw [if_neg (by decide)]
            simpa using hN7
      · rw [List.nil_append, el]
        obtain ⟨BL, hBL⟩ : ∃ BL, BL = (List.range many).filter bl := ⟨_, rfl⟩
        rw [← hBL] at ln ⊢
        have x8 := e7.trans (Ext.new (o := .lst (iN BL)) hp6)
        have g8 : put S7 p6 (.lst (iN BL)) p6 = some (.lst (iN BL)) := put_same
        generalize put S7 p6 (.lst (iN BL)) = S8 at x8 g8 ⊢
        unfold hs_b1_1
        push_cast
        refine ⟨by omega, fun p7 hp7 => ?_⟩
        have x9 := x8.trans (Ext.new (o := .lst ([] : List D)) hp7)
        have g89 := (Ext.new (o := .lst ([] : List D)) hp7).k _ _ g8
        have g79 : put S8 p7 (.lst []) p7 = some (.lst (([] : List Str).map D.str)) := put_same
        generalize put S8 p7 (.lst []) = S9 at x9 g89 g79 ⊢
        unfold hs_b1_2
        push_cast [g89]
        have lBL : BL.length ≤ 6 := by unfold iN at ln; rw [List.length_map] at ln; exact ln
        refine loop_ok (fun zs2 φ S' => ∃ (js done : List Nat) (HL : List Str) (p7 : Nat) (o8 : Option D), zs2 = iN js ∧ φ = [some (.ref a), some (.ref w), some (.ref p2), some (.ref p3), some (.ref p4), some (.int (m.length : Nat)), some (.ref p6), some (.ref p7), o8, none] ∧ done ++ js = BL ∧ S' p7 = some (.lst (HL.map D.str)) ∧ HL.length ≤ 15 * done.length ∧ (∀ x ∈ HL, nameB x = true) ∧ (∀ x, x ∈ HL ↔ ∃ (j : Nat) (b : Nat × List Str), j ∈ done ∧ bs[j]? = some b ∧ x ∈ b.2) ∧ Ext S9 S') (fun _ _ S' ⟨_, _, _, _, _, _, _, _, _, _, _, _, e⟩ => e.k _ _ g89) ?_ ?_ ⟨BL, [], [], p7, _, rfl, rfl, rfl, g79, Nat.le_refl _, fun _ h => (nomatch h), fun x => ⟨fun h => (nomatch h), fun ⟨_, _, h, _⟩ => (nomatch h)⟩, .refl⟩
        · rintro φ S10 ⟨js, done, HL, p7, o8, hz, rfl, hd, g7, l7, hn, hm, e10⟩
          cases js with
          | cons j js => cases hz
          | nil =>
            rw [List.append_nil] at hd
            subst hd
            have x10 := x9.trans e10
            obtain ⟨u, hu⟩ : ∃ u, us[m.length]? = some u := ⟨us[m.length]'(by omega), List.getElem?_eq_getElem _⟩
            unfold hs_b1_3
            push_cast [x10.k _ _ g26]
            refine ⟨⟨_, x10.k _ _ g46⟩, _, atI_g (v := .tup (iN u)) (by rw [List.getElem?_map, hu]; rfl), ?_⟩
            refine .inl ⟨HL, ⟨p7, rfl, g7⟩, by omega, fun vs vnd vm vp p11 hp11 => ?_⟩
            have x11 := x10.trans (Ext.new (o := .lst (vs.map D.str)) hp11)
            have g11 : put S10 p11 (.lst (vs.map D.str)) p11 = some (.lst (vs.map D.str)) := put_same
            generalize put S10 p11 (.lst (vs.map D.str)) = S11 at x11 g11 ⊢
            push_cast [g11]
            have lvs := ndS vnd fun x hx => (vm x).mp hx
            refine ⟨by omega, _, x11.k _ _ g46, by rw [List.length_map]; omega, ?_⟩
            have em : m.map wdD ++ [D.tup [D.tup (iN u), D.tup (vs.map D.str)]] = (m ++ [(u, vs)]).map wdD := by rw [List.map_append]; rfl
            rw [em]
            refine hN _ _ ⟨m ++ [(u, vs)], _, _, _, _, ?_, rfl, by rw [List.length_append, List.length_singleton]; omega, fun i x hx => ?_, (x11.draw d6).other (u := .lst []) n4.1 n4.2.1 n4.2.2, (k6.trans x11.kp).put Sp4, by rw [put_ne ne24]; exact x11.k _ _ g26, by rw [put_ne ne34]; exact x11.k _ _ g36, put_same, fun b hbm => by rw [put_ne (hb5 b hbm).2.2.2]; exact x11.k _ _ (hb6 b hbm)⟩
            · rw [List.length_append, List.length_singleton, hz2, show many - (m.length + 1) = m1 by omega]
            · rcases Nat.lt_or_ge i m.length with il | il
              · rw [List.getElem?_append_left il] at hx
                exact hh i x hx
              · rw [List.getElem?_append_right il] at hx
                have i0 : i - m.length = 0 := by have := (List.getElem?_eq_some_iff.mp hx).1; simp only [List.length_cons, List.length_nil] at this; omega
                rw [i0] at hx
                cases hx
                obtain rfl : i = m.length := by omega
                refine ⟨hu, sorted_str vnd vp, fun x hx => hn x ((vm x).mp hx), by show vs.length ≤ 100; omega, fun x => ?_⟩
                rw [vm, hm]
                constructor
                · rintro ⟨j, b, h1, h2, h3⟩
                  rw [hBL] at h1
                  obtain ⟨h4, h5⟩ := List.mem_filter.mp h1
                  obtain ⟨u2, hu2⟩ : ∃ u2, us[j]? = some u2 := ⟨us[j]'(by rw [lu]; exact List.mem_range.mp h4), List.getElem?_eq_getElem _⟩
                  have h5 : (decide (j = m.length) || decide (m.length ∈ (us[j]?).getD [])) = true := h5
                  rw [hu2, Bool.or_eq_true, decide_eq_true_eq, decide_eq_true_eq] at h5
                  exact ⟨j, u2, b, hu2, h2, h5, h3⟩
                · rintro ⟨j, u2, b, h1, h2, h3, h4⟩
                  refine ⟨j, b, ?_, h2, h4⟩
                  rw [hBL]
                  refine List.mem_filter.mpr ⟨List.mem_range.mpr (by rw [← lu]; exact (List.getElem?_eq_some_iff.mp h1).1), ?_⟩
                  show (decide (j = m.length) || decide (m.length ∈ (us[j]?).getD [])) = true
                  rw [h1, Bool.or_eq_true, decide_eq_true_eq, decide_eq_true_eq]
                  exact h3
        · rintro z2 zs2 φ S10 N2 ⟨js, done, HL, p7, o8, hz, rfl, hd, g7, l7, hn, hm, e10⟩ hN2
          cases js with
          | nil => cases hz
          | cons j js =>
            cases hz
            have jm : j < many := by
              have : j ∈ BL := by rw [← hd]; simp
              rw [hBL] at this
              exact List.mem_range.mp (List.mem_filter.mp this).1
            obtain ⟨b, hbj⟩ : ∃ b, bs[j]? = some b := ⟨bs[j]'(by omega), List.getElem?_eq_getElem _⟩
            have hbm := List.mem_of_getElem? hbj
            have x10 := x9.trans e10
            have gb := x10.k _ _ (hb6 b hbm)
            obtain ⟨_, b3, b4⟩ := hb4 b hbm
            have ld : done.length + (js.length + 1) ≤ 6 := by have := congrArg List.length hd; rw [List.length_append, List.length_cons] at this; omega
            unfold hs_b2
            push_cast [x10.k _ _ g36]
            refine ⟨_, atI_g (v := .ref b.1) (by rw [List.getElem?_map, hbj]; rfl), ?_⟩
            push_cast [g7, gb]
            rw [List.length_map, List.length_map]
            refine ⟨by omega, fun p12 hp12 => ?_⟩
            rw [← List.map_append]
            have x12 := Ext.new (o := .lst ((HL ++ b.2).map D.str)) hp12
            refine hN2 _ _ ⟨js, done ++ [j], HL ++ b.2, p12, _, rfl, rfl, by rw [List.append_assoc]; exact hd, put_same, by rw [List.length_append, List.length_append, List.length_singleton]; omega, fun x hx => ?_, fun x => ?_, e10.trans x12⟩
            · rcases List.mem_append.mp hx with hx | hx
              · exact hn x hx
              · exact b3 x hx
            · rw [List.mem_append, hm]
              constructor
              · rintro (⟨j', b', h1, h2⟩ | hx)
                · exact ⟨j', b', List.mem_append_left _ h1, h2⟩
                · exact ⟨j, b, List.mem_append_right _ List.mem_cons_self, hbj, hx⟩
              · rintro ⟨j', b', h1, h2, h3⟩
                rcases List.mem_append.mp h1 with h1 | h1
                · exact .inl ⟨j', b', h1, h2, h3⟩
                · rw [List.mem_singleton.mp h1, hbj] at h2
                  cases h2
                  exact .inr h3
  · rintro z zs acc S3 N ⟨bs, rfl, lb, hb, d3, k3⟩ hN
    have gw3 := k3.k _ _ gw2 nw.1 nw.2
    rw [List.length_cons] at lb
    push_cast
    refine ⟨_, gw3, ?_⟩
    refine loop_ok (fun zs2 acc2 S' => ∃ xs rest : List Str, acc2 = xs.map D.str ∧ zs2 = rest.map D.str ∧ (∀ x ∈ rest, nameB x = true) ∧ (∀ x ∈ xs, nameB x = true) ∧ xs.length + rest.length ≤ 15 ∧ Draw S' a l c ∧ Kp a l S3 S') (fun _ _ S' ⟨_, _, _, _, _, _, _, _, k⟩ => k.k _ _ gw3 nw.1 nw.2) ?_ ?_ ⟨[], ws, rfl, rfl, hw, fun _ h => (nomatch h), by simpa using lw, d3, .refl⟩
    · rintro acc2 S4 ⟨xs, rest, rfl, hz, hr, hx, hl, d4, k4⟩ p5 hp5
      have n5 := d4.ne hp5
      have x5 := Ext.new (o := .lst (xs.map D.str)) hp5
      refine ⟨by rw [List.length_map]; omega, hN _ _ ⟨bs ++ [(p5, xs)], by rw [List.map_append]; rfl, by rw [List.length_append, List.length_singleton]; omega, fun b hbm => ?_, x5.draw d4, (k3.trans k4).trans x5.kp⟩⟩
      rcases List.mem_append.mp hbm with hbm | hbm
      · obtain ⟨b1, b2, b3, b4⟩ := hb b hbm
        exact ⟨b1, x5.k _ _ (k4.k _ _ b2 b1.1 b1.2), b3, b4⟩
      · rw [List.mem_singleton.mp hbm]
        exact ⟨⟨n5.1, n5.2.1⟩, put_same, hx, by show xs.length ≤ 15; omega⟩
    · rintro z2 zs2 acc2 S4 N2 ⟨xs, rest, rfl, hz, hr, hx, hl, d4, k4⟩ hN2
      cases rest with
      | nil => cases hz
      | cons x rest =>
        cases hz
        rw [List.length_cons] at hl
        push_cast
        refine d_take (by omega) d4 (by omega) (by omega) fun i5 S5 i0 i1 d5 k5 => ?_
        push_cast
        by_cases h0 : i5 = 0
        · rw [if_pos h0]
          have ea : xs.map D.str ++ [D.str x] = (xs ++ [x]).map D.str := by rw [List.map_append]; rfl
          rw [ea]
          refine ⟨by rw [List.length_map]; omega, hN2 _ _ ⟨xs ++ [x], rest, rfl, rfl, fun y hy => hr y (List.mem_cons_of_mem _ hy), fun y hy => ?_, by rw [List.length_append, List.length_singleton]; omega, d5, k4.trans k5⟩⟩
          rcases List.mem_append.mp hy with hy | hy
          · exact hx y hy
          · rw [List.mem_singleton.mp hy]
            exact hr x List.mem_cons_self
        · rw [if_neg h0]
          exact hN2 _ _ ⟨xs, rest, rfl, rfl, fun y hy => hr y (List.mem_cons_of_mem _ hy), hx, by omega, d5, k4.trans k5⟩


/-! the law k22 */ -/
theorem kindW {t : T} (h : hf 4 t = true) (n : t.nm.length ≤ 14) : kindB t = true := by
  unfold kindB
  rw [h, decide_eq_true n]
  rfl
theorem Sm.wd {x : Wld} (h1 : ∀ i ∈ x.1, i < 1000) (l1 : x.1.length ≤ 100) (h2 : ∀ w ∈ x.2, nameB w = true) (l2 : x.2.length ≤ 100) : Sm 2 (2 * 4201) (wdP x) :=
  Sm.t (n := 1) (w := 4200) (m := 2) (xs := [_, _]) (fun y hy => by
    simp only [List.mem_cons, List.not_mem_nil, or_false] at hy
    rcases hy with rfl | rfl
    · exact Sm.t (n := 0) (w := 41) (m := 100) (fun z hz => by
        obtain ⟨i, hi, rfl⟩ := List.mem_map.mp hz
        have := h1 i hi
        exact Sm.i (by omega)) (by unfold iP; rw [List.length_map]; exact l1)
    · exact Sm.t (n := 0) (w := 41) (m := 100) (fun z hz => by
        obtain ⟨w, hw, rfl⟩ := List.mem_map.mp hz
        have := (nameB_len (h2 w hw)).2
        exact Sm.s (nameB_ok (h2 w hw)) (by omega)) (by rw [List.length_map]; exact l2)) (Nat.le_refl _)
theorem wd_py {S : Sto} : ∀ m : List Wld, PyOfs S (m.map wdD) (m.map wdP)
  | [] => .nil
  | x :: m => .cons (.tup (.cons (.tup (iP_of x.1)) (.cons (.tup (sP_of x.2)) .nil))) (wd_py m)
theorem m_repr {m : List Wld} (ok : MOk m) : (PyData.list (m.map wdP)).showable = true ∧ (PyData.list (m.map wdP)).hasDict = false ∧ (PyData.list (m.map wdP)).depth ≤ 64 ∧ (PyData.list (m.map wdP)).shown.length ≤ sizeLine :=
  (Sm.l (n := 2) (w := 2 * 4201) (m := 100) (fun y hy => by
    obtain ⟨x, hx, rfl⟩ := List.mem_map.mp hy
    obtain ⟨u1, u2, u3⟩ := ok.u x hx
    obtain ⟨h1, h2, h3⟩ := ok.h x hx
    have := ok.n9
    exact Sm.wd (fun i hi => by have := u2 i hi; omega) u3 h2 h3) (by rw [List.length_map]; exact ok.n9)).repr (by decide) (by decide)
theorem bl_repr {bs : List Bool} (h : bs.length ≤ 100) : (PyData.list (bs.map .bool)).showable = true ∧ (PyData.list (bs.map .bool)).hasDict = false ∧ (PyData.list (bs.map .bool)).depth ≤ 64 ∧ (PyData.list (bs.map .bool)).shown.length ≤ sizeLine :=
  (Sm.l (n := 0) (w := 0) (m := 100) (fun y hy => by
    obtain ⟨b, _, rfl⟩ := List.mem_map.mp hy
    exact Sm.b) (by rw [List.length_map]; exact h)).repr (by decide) (by decide)
theorem bl_py {S : Sto} : ∀ bs : List Bool, PyOfs S (bs.map D.bl) (bs.map PyData.bool)
  | [] => .nil
  | b :: bs => .cons (.bl b) (bl_py bs)
theorem fl_nb {p : Nat → Bool} : ∀ xs : List Nat, (xs.flatMap fun j : Nat => if p j = true then ([] : List D) else [.int (j : Nat)]) = iN (xs.filter fun j => !p j)
  | [] => rfl
  | x :: xs => by
    rw [List.flatMap_cons, fl_nb xs, List.filter_cons]
    cases p x <;> rfl
theorem br_up {m : List Wld} (ok : MOk m) {t : T} {k j : Nat} {x : Wld} (hx : m[k]? = some x) (hj : j ∈ x.1) (h : brB m t k = true) : brB m t j = true := by
  rw [brB_eq, upM_eq hx, List.all_eq_true] at h
  have xm := List.mem_of_getElem? hx
  obtain ⟨y, hy⟩ : ∃ y, m[j]? = some y := ⟨m[j]'((ok.u x xm).2.1 j hj), List.getElem?_eq_getElem _⟩
  rw [brB_eq, upM_eq hy, List.all_eq_true]
  intro i hi
  rcases List.mem_cons.mp hi with rfl | hi
  · exact h i (List.mem_cons_of_mem _ hj)
  · exact h i (List.mem_cons_of_mem _ ((ok.up x xm j hj y hy).1 i hi))
theorem law_lap {a l c w p : Nat} {o0 z o6 o7 o8 o9 o10 o11 : Option D} {sh : Str} {ws : List D} {m : List Wld} {S : Sto} {De : Pi.End} {E : XS} (ok : MOk m) (m6 : m.length ≤ 6) (gp : S p = some (.lst (m.map wdD))) (np : p ≠ a ∧ p ≠ l) (d : Draw S a l c) (hw : WL S a l c w ws)
    (hD : ∀ S' o7 o8 o9 o10, Draw S' a l c → Kp a l S S' → De.nx [o0, some (.ref a), z, some (.ref w), some (.ref p), some (.str sh), o6, o7, o8, o9, o10, o11] S') :
    wSs (wC tab 74) law_b2 De E [o0, some (.ref a), z, some (.ref w), some (.ref p), some (.str sh), o6, o7, o8, o9, o10, o11] S := by
  have sz := sizeLine_eq
  have n1 := ok.n1
  unfold law_b2
  push_cast
  refine l_loose (n := 3) (by omega) (by omega) (by omega) d hw fun t S1 ht hn d1 k1 => ?_
  have h4 : hf 4 t = true := hf_mono (by decide) ht
  have h : kindB t = true := kindW h4 (by omega)
  have gp1 := k1.k _ _ gp np.1 np.2
  unfold law_b2_1
  push_cast [gp1]
  rw [List.length_map, ints_n]
  refine ⟨⟨by omega, by omega⟩, ?_⟩
  refine loop_map (fun i : Nat => D.int (i : Nat)) (fun i => D.bl (brB m t i)) (S := S1) (fun _ _ => trivial) (List.range m.length) (by rw [List.length_range]; omega) (fun i hi acc S2 N e2 hl hN => ?_) fun S2 e2 p8 hp8 => ?_
  · have il := List.mem_range.mp hi
    exact l_bears (n := 3) (by omega) (by omega) ht ok (e2.k _ _ gp1) il fun S3 e3 => ⟨hl, hN S3 e3⟩
  have k2 := k1.trans e2.kp
  have d2 := e2.draw d1
  have n8 := d2.ne hp8
  have x8 := Ext.new (o := .lst (rwB m t)) hp8
  have g8 : put S2 p8 (.lst (rwB m t)) p8 = some (.lst (rwB m t)) := put_same
  have gp8 := x8.k _ _ (e2.k _ _ gp1)
  have d8 := x8.draw d2
  have k8 := k2.trans x8.kp
  change wSs _ _ _ _ _ (put S2 p8 (.lst (rwB m t)))
  generalize put S2 p8 (.lst (rwB m t)) = S3 at x8 g8 gp8 d8 k8 ⊢
  have eR : rwB m t = ((List.range m.length).map (brB m t)).map D.bl := by unfold rwB; rw [List.map_map]; rfl
  have lR : ((List.range m.length).map (brB m t)).length ≤ 100 := by rw [List.length_map, List.length_range]; omega
  unfold law_b2_2
  push_cast [gp8]
  rw [List.length_map, ints_n]
  refine ⟨⟨by omega, by omega⟩, ?_⟩
  refine loop_map (fun i : Nat => D.int (i : Nat)) (fun i => D.bl (brB m t i)) (S := S3) (fun _ _ => trivial) (List.range m.length) (by rw [List.length_range]; omega) (fun i hi acc S4 N e4 hl hN => ?_) fun S4 e4 p9 hp9 => ?_
  · have il := List.mem_range.mp hi
    exact d_bears (by omega) ok (.inl ⟨_, rfl, e4.k _ _ gp8⟩) h il fun S5 e5 => ⟨hl, hN S5 e5⟩
  have x9 := Ext.new (o := .lst (rwB m t)) hp9
  have g9 : put S4 p9 (.lst (rwB m t)) p9 = some (.lst (rwB m t)) := put_same
  have e9 := e4.trans x9
  rw [show (List.range m.length).map (fun i => D.bl (brB m t i)) = rwB m t from rfl]
  generalize put S4 p9 (.lst (rwB m t)) = S5 at x9 g9 e9 ⊢
  obtain ⟨r1, r2, r3, r4⟩ := bl_repr lR
  rw [eR] at g8 g9
  refine ⟨_, .lst g9 (bl_py _), r1, r2, r3, r4, ?_⟩
  refine ⟨_, .lst (e9.k _ _ g8) (bl_py _), r1, r2, r3, r4, ?_⟩
  push_cast
  unfold law_b2_3
  have gp9 := e9.k _ _ gp8
  push_cast [gp9]
  rw [List.length_map]
  refine d_take (by omega) (e9.draw d8) (by omega) (by omega) fun i S6 i0 i1 d6 k6 => ?_
  obtain ⟨kk, rfl, kl⟩ : ∃ kk : Nat, i = (kk : Nat) ∧ kk < m.length := ⟨i.toNat, by omega, by omega⟩
  have gp6 := k6.k _ _ gp9 np.1 np.2
  have g86 := k6.k _ _ (e9.k _ _ g8) n8.1 n8.2.1
  unfold law_b2_4
  push_cast [gp6]
  rw [show arr ["kind", "world", "model"] [t.d, D.int (kk : Nat), D.tup (m.map wdD)] ["model", "world", "kind"] = [D.tup (m.map wdD), D.int (kk : Nat), t.d] from rfl]
  refine d_bears (by omega) ok (.inr rfl) h kl fun S7 e7 => ?_
  refine ⟨_, .bl _, Sm.b.repr (by decide) (by decide) |>.1, Sm.b.repr (by decide) (by decide) |>.2.1, Sm.b.repr (by decide) (by decide) |>.2.2.1, Sm.b.repr (by decide) (by decide) |>.2.2.2, ?_⟩
  push_cast [e7.k _ _ g86]
  refine ⟨_, atI_g (v := .bl (brB m t kk)) (by rw [List.getElem?_map, List.getElem?_map, List.getElem?_range kl]; rfl), ?_⟩
  refine ⟨_, .bl _, Sm.b.repr (by decide) (by decide) |>.1, Sm.b.repr (by decide) (by decide) |>.2.1, Sm.b.repr (by decide) (by decide) |>.2.2.1, Sm.b.repr (by decide) (by decide) |>.2.2.2, ?_⟩
  push_cast
  have gp7 := e7.k _ _ gp6
  have g87 := e7.k _ _ g86
  have d7 := e7.draw d6
  unfold law_b2_5
  push_cast
  refine d_refutes (by omega) ok (.inl ⟨_, rfl, gp7⟩) h fun S8 e8 => ?_
  push_cast [e8.k _ _ gp7]
  rw [show arr ["kind", "model"] [t.d, D.tup (m.map wdD)] ["model", "kind"] = [D.tup (m.map wdD), t.d] from rfl]
  refine d_refutes (by omega) ok (.inr rfl) h fun S9 e9b => ?_
  refine ⟨by omega, fun p10 hp10 => ?_⟩
  obtain ⟨q1, q2, q3, q4⟩ := bl_repr (bs := [!brB m t 0, !brB m t 0]) (by show 2 ≤ 100; omega)
  have x10 := (e8.trans e9b).trans (Ext.new (o := .lst ([.bl (!brB m t 0), .bl (!brB m t 0)] : List D)) hp10)
  refine ⟨_, .lst put_same (bl_py [!brB m t 0, !brB m t 0]), q1, q2, q3, q4, ?_⟩
  generalize put S9 p10 (.lst [.bl (!brB m t 0), .bl (!brB m t 0)]) = S10 at x10 ⊢
  push_cast [x10.k _ _ g87]
  refine ⟨_, atI_g (j := 0) (v := .bl (brB m t 0)) (by rw [List.getElem?_map, List.getElem?_map, List.getElem?_range (show 0 < m.length by omega)]; rfl), ?_⟩
  push_cast
  refine ⟨by omega, fun p11 hp11 => ?_⟩
  have x11 := x10.trans (Ext.new (o := .lst ([.bl (!brB m t 0)] : List D)) hp11)
  have g11 : put S10 p11 (.lst [.bl (!brB m t 0)]) p11 = some (.lst [.bl (!brB m t 0)]) := put_same
  generalize put S10 p11 (.lst [.bl (!brB m t 0)]) = S11 at x11 g11 ⊢
  push_cast [g11]
  refine ⟨by decide, by decide, by decide, fun p12 hp12 => ?_⟩
  rw [show Pi.rep (Int.toNat 2) [D.bl (!brB m t 0)] = [D.bl (!brB m t 0), D.bl (!brB m t 0)] from rfl]
  have x12 := x11.trans (Ext.new (o := .lst ([.bl (!brB m t 0), .bl (!brB m t 0)] : List D)) hp12)
  refine ⟨_, .lst put_same (bl_py [!brB m t 0, !brB m t 0]), q1, q2, q3, q4, ?_⟩
  generalize put S11 p12 (.lst [.bl (!brB m t 0), .bl (!brB m t 0)]) = S12 at x12 ⊢
  push_cast
  have gp12 := x12.k _ _ gp7
  have g8c := x12.k _ _ g87
  obtain ⟨x, hx⟩ : ∃ x, m[kk]? = some x := ⟨m[kk], List.getElem?_eq_getElem _⟩
  obtain ⟨u1, u2, u3⟩ := ok.u x (List.mem_of_getElem? hx)
  unfold law_b2_6
  push_cast [gp12]
  refine ⟨_, atI_g (v := wdD x) (by rw [List.getElem?_map, hx]; rfl), ?_⟩
  unfold wdD
  push_cast
  refine ⟨_, atI_00, ?_⟩
  push_cast
  have el : (x.1.flatMap fun j : Nat => if brB m t j = true then ([] : List D) else [.int (j : Nat)]) = iN (x.1.filter fun j => !brB m t j) := fl_nb _
  have ll : (iN (x.1.filter fun j => !brB m t j)).length ≤ 100 := by unfold iN; rw [List.length_map]; exact Nat.le_trans (List.length_filter_le _ _) u3
  refine loop_ext (fun j : Nat => D.int (j : Nat)) (fun j => if brB m t j = true then ([] : List D) else [.int (j : Nat)]) (S := S12) (fun _ _ => trivial) x.1 [] S12 .refl (by rw [el, List.length_nil]; omega) (fun j hj acc S13 N e13 hl hN => ?_) fun S13 e13 p13 hp13 => ?_
  · refine d_bears (by omega) ok (.inl ⟨_, rfl, e13.k _ _ gp12⟩) h (u2 j hj) fun S14 e14 => ?_
    have hN := hN S14 e14
    push_cast
    cases hb : brB m t j with
    | true =>
      rw [hb] at hN
      rw [if_neg (by decide)]
      simpa using hN
    | false =>
      rw [hb] at hN
      rw [if_pos (by decide)]
      exact ⟨by omega, by simpa using hN⟩
  · rw [List.nil_append, el]
    have x13 := (x12.trans e13).trans (Ext.new (o := .lst (iN (x.1.filter fun j => !brB m t j))) hp13)
    have g13 : put S13 p13 (.lst (iN (x.1.filter fun j => !brB m t j))) p13 = some (.lst (iN (x.1.filter fun j => !brB m t j))) := put_same
    have g8d := (Ext.new (o := .lst (iN (x.1.filter fun j => !brB m t j))) hp13).k _ _ (e13.k _ _ g8c)
    generalize put S13 p13 (.lst (iN (x.1.filter fun j => !brB m t j))) = S14 at x13 g13 g8d ⊢
    unfold law_b2_7
    push_cast [g8d]
    refine ⟨_, atI_g (v := .bl (brB m t kk)) (by rw [List.getElem?_map, List.getElem?_map, List.getElem?_range kl]; rfl), ?_⟩
    refine ⟨_, rfl, ?_⟩
    have fin : ∀ S', Ext S14 S' → De.nx [o0, some (.ref a), z, some (.ref w), some (.ref p), some (.str sh), o6, some t.d, some (.ref p8), some (.int (kk : Nat)), some (.ref p13), o11] S' := fun S' e => hD _ _ _ _ _ ((x13.trans e).draw d7) ((((k8.trans e9.kp).trans k6).trans e7.kp).trans (x13.trans e).kp)
    cases hb : brB m t kk with
    | false =>
      push_cast
      exact fin _ .refl
    | true =>
      have e0 : (x.1.filter fun j => !brB m t j) = [] := List.filter_eq_nil_iff.mpr fun j hj => by rw [br_up ok hx hj hb]; decide
      rw [e0] at g13
      push_cast
      refine ⟨by omega, fun p15 hp15 => ?_⟩
      have x15 := Ext.new (o := .lst ([] : List D)) hp15
      refine ⟨.list [], .list [], .lst (x15.k _ _ g13) .nil, .lst put_same .nil, rfl, rfl, ?_⟩
      rw [SeqAt.eqv_refl _ (SeqAt.canLay_of_shaped (show SeqAt.shaped (.list []) = true from rfl))]
      push_cast
      exact fin _ x15
theorem wl_strs : ∀ {ws : List D}, (∀ v ∈ ws, Wd v) → ∃ wn : List Str, ws = wn.map D.str ∧ ∀ x ∈ wn, nameB x = true
  | [], _ => ⟨[], rfl, fun _ h => (nomatch h)⟩
  | v :: ws, h => by
    obtain ⟨x, rfl, hx⟩ := h v List.mem_cons_self
    obtain ⟨wn, rfl, hw⟩ := wl_strs fun y hy => h y (List.mem_cons_of_mem _ hy)
    exact ⟨x :: wn, rfl, List.forall_mem_cons.mpr ⟨hx, hw⟩⟩
theorem pure_law : ∀ ns : List Int, ns.length ≤ 63 → wC (tabOf defs) 75 "law" [.fls (ns.map D.int)] (fun _ => none) (fun z _ => z = .bl true) XF := by
  intro ns hns
  show wC tab 75 "law" [.fls (iL ns)] _ _ _
  refine wd (fd := f_law) (by decide) rfl rfl ?_
  rw [law_eq]
  have sz := sizeLine_eq
  unfold law_m
  push_cast
  refine d_begun (by decide) (by omega) fun a l c S1 d1 e1 => ?_
  unfold law_m_1
  push_cast
  refine ⟨⟨by split <;> (try split) <;> omega, by split <;> (try split) <;> omega⟩, ?_⟩
  refine loop_ok (fun xs φ S' => ∃ (o2 o3 o4 o5 o6 o7 o8 o9 o10 : Option D), φ = [some (.fls (iL ns)), some (.ref a), o2, o3, o4, o5, o6, o7, o8, o9, o10, none] ∧ Draw S' a l c) (fun _ _ _ _ => trivial) ?_ ?_ ⟨_, _, _, _, _, _, _, _, _, rfl, d1⟩
  · rintro φ S' ⟨o2, o3, o4, o5, o6, o7, o8, o9, o10, rfl, d2⟩
    unfold law_m_2
    push_cast
  · rintro z zs φ S' N ⟨o2, o3, o4, o5, o6, o7, o8, o9, o10, rfl, d2⟩ hN
    unfold law_b1
    push_cast
    refine l_words (by omega) d2 fun w ws S2 hw d3 k3 => ?_
    unfold law_b1_1
    push_cast
    refine ⟨by omega, fun p5 hp5 => ?_⟩
    have gw := hw.at_
    obtain ⟨wn, ew, hwn⟩ : ∃ wn : List Str, ws = wn.map D.str ∧ ∀ x ∈ wn, nameB x = true := wl_strs hw.ok
    have lw := hw.few
    rw [ew, List.length_map] at lw
    have x5 := Ext.new (o := .lst ([.str "z"] : List D)) hp5
    have g5 : put S2 p5 (.lst [.str "z"]) p5 = some (.lst [.str "z"]) := put_same
    have hw5 := hw.kp x5.kp
    have d5 := x5.draw d3
    generalize put S2 p5 (.lst [.str "z"]) = S5 at x5 g5 hw5 d5 ⊢
    push_cast [hw5.at_, g5]
    refine ⟨by rw [ew, List.length_map]; omega, fun p6 hp6 => ?_⟩
    have n6 := d5.ne hp6
    have x6 := Ext.new (o := .lst (ws ++ [.str "z"])) hp6
    have eW : ws ++ [D.str "z"] = (wn ++ [("z" : Str)]).map D.str := by rw [ew, List.map_append]; rfl
    refine l_house (ws := wn ++ [("z" : Str)]) (by omega) (x6.draw d5) (by rw [← eW]; exact put_same) ⟨n6.1, n6.2.1⟩ (fun x hx => ?_) (by rw [List.length_append, List.length_singleton]; omega) fun p m S7 ok m6 d7 k7 np7 npa gp => ?_
    · rcases List.mem_append.mp hx with hx | hx
      · exact hwn x hx
      · rw [List.mem_singleton.mp hx]; decide
    have hw7 := (hw5.kp x6.kp).kp k7
    obtain ⟨r1, r2, r3, r4⟩ := m_repr ok
    unfold law_b1_2
    push_cast
    refine ⟨_, .lst gp (wd_py m), r1, r2, r3, r4, ?_⟩
    unfold law_b1_3
    push_cast
    refine ⟨⟨by decide, by decide⟩, ?_⟩
    refine loop_ok (fun xs φ S' => ∃ (o6 o7 o8 o9 o10 : Option D), φ = [some (.fls (iL ns)), some (.ref a), some z, some (.ref w), some (.ref p), some (.str (PyData.list (m.map wdP)).shown), o6, o7, o8, o9, o10, none] ∧ Draw S' a l c ∧ Kp a l S7 S') (fun _ _ _ _ => trivial) ?_ ?_ ⟨_, _, _, _, _, rfl, d7, .refl⟩
    · rintro φ S8 ⟨o6, o7, o8, o9, o10, rfl, d8, k8⟩
      unfold law_b1_4
      push_cast
      refine ⟨_, .lst (k8.k _ _ gp npa.1 npa.2) (wd_py m), r1, r2, r3, r4, ?_⟩
      push_cast
      exact hN _ _ ⟨_, _, _, _, _, _, _, _, _, rfl, d8⟩
    · rintro z2 zs2 φ S8 N2 ⟨o6, o7, o8, o9, o10, rfl, d8, k8⟩ hN2
      push_cast
      exact law_lap ok m6 (k8.k _ _ gp npa.1 npa.2) npa d8 (hw7.kp k8) fun S' o7 o8 o9 o10 d' k' => hN2 _ _ ⟨_, _, _, _, _, rfl, d', k8.trans k'⟩


end PiLaw
theorem PySem.Challenge.cw_typetells_k22_what_worlds_bear_holds : PySem.Challenge.rw_typetells_k22_what_worlds_bear.Holds := by
  exact PiLaw.law_of PiLaw.pure_law
