import PyProof.Rows.All
import HandS.ForMost
import HandS.ForExc
import HandS.IsInst
import HandS.Wide
import KE.KIntText
import PyProof.StrBlock2
import HandS.Text
import HandS.StrMore
import HandS.FStr
import HandS.Codes
import PyProof.Rows.Digits
import HandS.TupAny
import HandS.TupLe
import HandS.RaiseMore
import HandS.TupMul
import HandS.More
import HandS.SortInts
import HandS.Strs
import KE.DataMinMax
import KE.KTupSum
import HandS.Property
import HandS.ClsMeth
import HandS.Star
import KE.GoesEnum
import HandS.Zip
import HandS.Conv
import HandS.SetFor
import HandS.TryMany
import HandS.ExcIs
import HandS.ReplaceLit
import HandS.Style
import KE.KSuper
import HandS.Nested
import HandS.EndBits
import HandS.Head2
import HandS.HeadHook2
import PySem.Challenge.RW_wagerroom_k59_texts_that_are_no_fraction
import PyProof.ReprLen
import PyProof.StrLawsRepr
import PyProof.Rows.RegStrFacts
import PyProof.EqLayable
import PyProof.Rows.ReprOcc
set_option Elab.async false
set_option linter.all false
set_option maxRecDepth 100000
/-! WgA: values, stores, syntax without positions, evaluation (plain Lean). -/
namespace Wg
open PySem L2
/-- a value: tuples are trees, all that can change is a cell of the store -/
inductive IV where
  | non | bl (b : Bool) | int (i : Int) | str (x : Str) | tup (xs : List IV) | ref (n : Nat) | cls (c : Str)
inductive Cell where
  | lst (xs : List IV) | frz (xs : List IV) | dct (kvs : List (Key × IV)) | ins (c : Str) (fs : List (Str × IV)) | dtt (kvs : List (List Key × IV))
abbrev Sto := List Cell
abbrev Sl := List (Option IV)
/-! ### all references below n -/
mutual
def IV.lt (n : Nat) : IV → Bool
  | .non => true
  | .bl _ => true
  | .int _ => true
  | .str _ => true
  | .tup xs => ltAll n xs
  | .ref k => decide (k < n)
  | .cls _ => true
def ltAll (n : Nat) : List IV → Bool
  | [] => true
  | x :: xs => x.lt n && ltAll n xs
end
def Cell.lt (n : Nat) : Cell → Bool
  | .lst xs => ltAll n xs
  | .frz xs => ltAll n xs
  | .dct kvs => ltAll n (kvs.map (·.2))
  | .ins _ fs => ltAll n (fs.map (·.2))
  | .dtt kvs => ltAll n (kvs.map (·.2))
/-! ### equality of values, cells -/
mutual
def IV.eqb : IV → IV → Bool
  | .non, .non => true
  | .bl a, .bl b => a == b
  | .int a, .int b => a == b
  | .str a, .str b => decide (a = b)
  | .tup a, .tup b => eqbAll a b
  | .ref a, .ref b => a == b
  | .cls a, .cls b => decide (a = b)
  | _, _ => false
def eqbAll : List IV → List IV → Bool
  | [], [] => true
  | x :: xs, y :: ys => x.eqb y && eqbAll xs ys
  | _, _ => false
end
mutual
theorem IV.eqb_refl : ∀ x : IV, x.eqb x = true
  | .non => rfl
  | .bl b => by simp [IV.eqb]
  | .int i => by simp [IV.eqb]
  | .str x => by simp [IV.eqb]
  | .tup xs => by simp only [IV.eqb]; exact eqbAll_refl xs
  | .ref n => by simp [IV.eqb]
  | .cls n => by simp [IV.eqb]
theorem eqbAll_refl : ∀ xs : List IV, eqbAll xs xs = true
  | [] => rfl
  | x :: xs => by simp only [eqbAll, IV.eqb_refl x, eqbAll_refl xs, Bool.and_self]
end
mutual
theorem IV.eq_of_eqb : ∀ x y : IV, x.eqb y = true → x = y
  | .non, .non, _ => rfl
  | .bl a, .bl b, h => by simp [IV.eqb] at h; rw [h]
  | .int a, .int b, h => by simp [IV.eqb] at h; rw [h]
  | .str a, .str b, h => by simp [IV.eqb] at h; rw [h]
  | .ref a, .ref b, h => by simp [IV.eqb] at h; rw [h]
  | .cls a, .cls b, h => by simp [IV.eqb] at h; rw [h]
  | .tup a, .tup b, h => by simp only [IV.eqb] at h; rw [eq_of_eqbAll a b h]
  | .non, .bl _, h | .non, .int _, h | .non, .str _, h | .non, .tup _, h | .non, .ref _, h => by simp [IV.eqb] at h
  | .bl _, .non, h | .bl _, .int _, h | .bl _, .str _, h | .bl _, .tup _, h | .bl _, .ref _, h => by simp [IV.eqb] at h
  | .int _, .non, h | .int _, .bl _, h | .int _, .str _, h | .int _, .tup _, h | .int _, .ref _, h => by simp [IV.eqb] at h
  | .str _, .non, h | .str _, .bl _, h | .str _, .int _, h | .str _, .tup _, h | .str _, .ref _, h => by simp [IV.eqb] at h
  | .tup _, .non, h | .tup _, .bl _, h | .tup _, .int _, h | .tup _, .str _, h | .tup _, .ref _, h => by simp [IV.eqb] at h
  | .ref _, .non, h | .ref _, .bl _, h | .ref _, .int _, h | .ref _, .str _, h | .ref _, .tup _, h | .ref _, .cls _, h => by simp [IV.eqb] at h
  | .cls _, .non, h | .cls _, .bl _, h | .cls _, .int _, h | .cls _, .str _, h | .cls _, .tup _, h | .cls _, .ref _, h => by simp [IV.eqb] at h
  | .non, .cls _, h | .bl _, .cls _, h | .int _, .cls _, h | .str _, .cls _, h | .tup _, .cls _, h => by simp [IV.eqb] at h
theorem eq_of_eqbAll : ∀ xs ys : List IV, eqbAll xs ys = true → xs = ys
  | [], [], _ => rfl
  | x :: xs, y :: ys, h => by
    simp only [eqbAll, Bool.and_eq_true] at h
    rw [IV.eq_of_eqb x y h.1, eq_of_eqbAll xs ys h.2]
  | [], _ :: _, h => by simp [eqbAll] at h
  | _ :: _, [], h => by simp [eqbAll] at h
end
def kvsEqb {κ : Type} [DecidableEq κ] : List (κ × IV) → List (κ × IV) → Bool
  | [], [] => true
  | (k, v) :: r, (k', v') :: r' => decide (k = k') && v.eqb v' && kvsEqb r r'
  | _, _ => false
theorem kvsEqb_refl {κ : Type} [DecidableEq κ] : ∀ l : List (κ × IV), kvsEqb l l = true
  | [] => rfl
  | (k, v) :: r => by simp [kvsEqb, IV.eqb_refl, kvsEqb_refl r]
theorem eq_of_kvsEqb {κ : Type} [DecidableEq κ] : ∀ l l' : List (κ × IV), kvsEqb l l' = true → l = l'
  | [], [], _ => rfl
  | (k, v) :: r, (k', v') :: r', h => by
    simp only [kvsEqb, Bool.and_eq_true, decide_eq_true_eq] at h
    rw [h.1.1, IV.eq_of_eqb v v' h.1.2, eq_of_kvsEqb r r' h.2]
  | [], _ :: _, h => by simp [kvsEqb] at h
  | _ :: _, [], h => by simp [kvsEqb] at h
def Cell.eqb : Cell → Cell → Bool
  | .lst a, .lst b => eqbAll a b
  | .frz a, .frz b => eqbAll a b
  | .dct a, .dct b => kvsEqb a b
  | .ins c a, .ins d b => decide (c = d) && kvsEqb a b
  | .dtt a, .dtt b => kvsEqb a b
  | _, _ => false
theorem Cell.eqb_refl : ∀ c : Cell, c.eqb c = true
  | .lst a => eqbAll_refl a
  | .frz a => eqbAll_refl a
  | .dct a => kvsEqb_refl a
  | .ins c a => by simp [Cell.eqb, kvsEqb_refl]
  | .dtt a => kvsEqb_refl a
theorem Cell.eq_of_eqb : ∀ c d : Cell, c.eqb d = true → c = d
  | .lst a, .lst b, h => by rw [eq_of_eqbAll a b h]
  | .frz a, .frz b, h => by rw [eq_of_eqbAll a b h]
  | .dct a, .dct b, h => by rw [eq_of_kvsEqb a b h]
  | .ins c a, .ins d b, h => by
    simp only [Cell.eqb, Bool.and_eq_true, decide_eq_true_eq] at h
    rw [h.1, eq_of_kvsEqb a b h.2]
  | .dtt a, .dtt b, h => by rw [eq_of_kvsEqb a b h]
  | .dtt _, .lst _, h | .dtt _, .frz _, h | .dtt _, .dct _, h | .dtt _, .ins _ _, h => by simp [Cell.eqb] at h
  | .lst _, .dtt _, h | .frz _, .dtt _, h | .dct _, .dtt _, h | .ins _ _, .dtt _, h => by simp [Cell.eqb] at h
  | .lst _, .frz _, h | .lst _, .dct _, h | .lst _, .ins _ _, h => by simp [Cell.eqb] at h
  | .frz _, .lst _, h | .frz _, .dct _, h | .frz _, .ins _ _, h => by simp [Cell.eqb] at h
  | .dct _, .lst _, h | .dct _, .frz _, h | .dct _, .ins _ _, h => by simp [Cell.eqb] at h
  | .ins _ _, .lst _, h | .ins _ _, .frz _, h | .ins _ _, .dct _, h => by simp [Cell.eqb] at h
/-! ### results -/
inductive Rs (α : Type) where
  | ok (a : α) (S : Sto) | exc (c : Str) (S : Sto) | bad
def Rs.bind {α β : Type} : Rs α → (α → Sto → Rs β) → Rs β
  | .ok a S, f => f a S
  | .exc c S, _ => .exc c S
  | .bad, _ => .bad
/-- a statement's result -/
inductive Rz where
  | next (τ : Sl) (S : Sto) | ret (v : IV) (S : Sto) | brk (τ : Sl) (S : Sto) | cnt (τ : Sl) (S : Sto) | exc (c : Str) (τ : Sl) (S : Sto) | bad
def Rs.thn {α : Type} (r : Rs α) (τ : Sl) (f : α → Sto → Rz) : Rz := match r with
  | .ok a S => f a S
  | .exc c S => .exc c τ S
  | .bad => .bad
def Rz.seq (r : Rz) (f : Sl → Sto → Rz) : Rz := match r with
  | .next τ S => f τ S
  | r => r
/-! ### the syntax -/
inductive Bop where
  | add | sub | mul | fdiv | mod | pow
inductive Cop where
  | eq | ne | lt | le | gt | ge | isin | notin | is | isnot
/-- built-in functions and types that are called -/
inductive Bf where
  | len | abs | max | min | repr | str | int | list | tuple | sum | all | any | sorted
/-- what isinstance is asked about -/
inductive Ty where
  | int | bool | tuple | str | list | dict | own (c : Str)
inductive Tg where
  | nm (i : Nat) | tp (ts : List Tg)
mutual
inductive PX where
  | k (v : IV)
  | loc (i : Nat)
  | glb (x : Str)
  | bin (o : Bop) (a b : PX)
  | neg (a : PX)
  | cmp (o : Cop) (a b : PX)
  | chain (o o' : Cop) (a b c : PX)
  | and (a b : PX) | or (a b : PX) | not (a : PX) | ite (c a b : PX)
  | tup (es : List PX) | lst (es : List PX) | dct (kvs : List (PX × PX))
  | ix (a b : PX) | sl (a : PX) (lo hi : Option PX) | rev (a : PX)
  | call (f : Str) (es : List PX)
  | blt (f : Bf) (es : List PX)
  | mth (m : Str) (o : PX) (es : List PX)
  | isi (a : PX) (T : Ty)
  | lc (own : List Nat) (tg : Tg) (it : PIt) (ifs : List PX) (elt : PX)
  | att (f : Str) (o : PX) | met (m : Str) (o : PX) (es : List PX) | new (f : PX) (es : List PX) | iso (a : PX) (c : Str)
  | gc (e : PX)
  | calls (f : Str) (es : List PX) (e : PX) | news (f : PX) (es : List PX) (e : PX)
  | rgs (t : Bool) (e : PX)
  | lset (e : PX)
  | sset (e : PX)
  | smt (m : Str) (o e : PX)
  | fst (es : List PX)
  | dc1 (a b : PX)
  | dnt
  | bmt (m : Str) (o : PX) (es : List PX)
inductive PIt where
  | val (e : PX) | rng (es : List PX) | enum (e : PX) | zip (a b : PX) | zips (e : PX)
end
inductive Sm where
  | expr (e : PX) | ret (e : PX) | retN | pass | brk | cnt
  | set (tg : Tg) (e : PX)
  | par (i j : Nat) (a b : PX)
  | par3 (i j l : Nat) (a b c : PX)
  | sub (o i e : PX)
  | subs (o i : PX) (j : Nat) (e : PX)
  | fld (o : PX) (f : Str) (e : PX)
  | fldaug (o : PX) (f : Str) (p : Bop) (e : PX)
  | aug (i : Nat) (o : Bop) (e : PX)
  | cond (c : PX) (a b : List Sm)
  | whil (c : PX) (b : List Sm)
  | for (tg : Tg) (it : PIt) (b : List Sm)
  | raise (c : Str)
  | tryx (b : List Sm) (hs : List (Str × List Sm))
  | tryq (b : List Sm)
  | tryas (b : List Sm) (i : Nat) (d : Str) (hs : List (Str × List Sm))
  | sup (r : Option Nat) (d m : Str) (es : List PX)
  | rpl (p : PX) (k : Int) (q : PX) (x y z : Str)
end Wg
/-! WgB: evaluation. -/
namespace Wg
open PySem L2
/-! ### a value as data -/
def kD : Key → PyData
  | .inl i => .int i
  | .inr x => .str x
mutual
def goD (r : Nat → Option PyData) : IV → Option PyData
  | .non => some .none
  | .bl b => some (.bool b)
  | .int i => some (.int i)
  | .str x => some (.str x)
  | .tup xs => match goDs r xs with | some ds => some (.tuple ds) | none => none
  | .ref n => r n
  | .cls _ => none
def goDs (r : Nat → Option PyData) : List IV → Option (List PyData)
  | [] => some []
  | x :: xs => match goD r x with
    | some d => match goDs r xs with | some ds => some (d :: ds) | none => none
    | none => none
end
def refD (f : IV → Option PyData) (fs : List IV → Option (List PyData)) (S : Sto) (n : Nat) : Option PyData := match S[n]? with
  | some (.lst xs) => match fs xs with | some ds => some (.list ds) | none => none
  | some (.frz xs) => match fs xs with | some ds => some (.list ds) | none => none
  | some (.dct kvs) => match fs (kvs.map (·.2)) with | some ds => some (.dict ((kvs.map fun p => kD p.1).zip ds)) | none => none
  | _ => none
/-- d: how many lists or dicts deep -/
def refs : Nat → Sto → Nat → Option PyData
  | 0, _, _ => none
  | d + 1, S, n => refD (goD (refs d S)) (goDs (refs d S)) S n
def toD (S : Sto) (v : IV) : Option PyData := goD (refs 6 S) v
/-! ### operators -/
def mulOk (i j : Int) : Bool := decide (i.natAbs.log2 + j.natAbs.log2 < 1000000) || decide (i.natAbs < 2 ^ 64) || decide (j.natAbs < 2 ^ 64)
def divOk (j : Int) : Bool := decide (j ≠ 0) && decide (j.natAbs.log2 < 9000)
def powOk (i j : Int) : Bool := decide (0 ≤ j) && decide (j ≤ 1000000) && decide (i.natAbs < 2 ^ 64)
def szOk (n : Nat) : Bool := decide (n ≤ 16777216)
def repL (xs : List IV) (n : Nat) : List IV := (List.replicate n xs).flatten
def alloc (c : Cell) (S : Sto) : Rs IV := .ok (.ref S.length) (S ++ [c])
def binI (o : Bop) (a b : IV) (S : Sto) : Rs IV := match o, a, b with
  | .add, .int i, .int j => .ok (.int (i + j)) S
  | .sub, .int i, .int j => .ok (.int (i - j)) S
  | .mul, .int i, .int j => if mulOk i j then .ok (.int (i * j)) S else .bad
  | .fdiv, .int i, .int j => if divOk j then .ok (.int (i.fdiv j)) S else .bad
  | .mod, .int i, .int j => if j = 0 then .bad else .ok (.int (i.fmod j)) S
  | .pow, .int i, .int j => if powOk i j then .ok (.int (i ^ j.toNat)) S else .bad
  | .add, .str x, .str y => if szOk (x.length + y.length) then .ok (.str (x ++ y)) S else .bad
  | .add, .tup x, .tup y => if szOk (x.length + y.length) then .ok (.tup (x ++ y)) S else .bad
  | .add, .ref m, .ref n => match S[m]?, S[n]? with
    | some (.lst x), some (.lst y) => if szOk (x.length + y.length) then alloc (.lst (x ++ y)) S else .bad
    | _, _ => .bad
  | .mul, .ref m, .int j => match S[m]? with
    | some (.lst x) => if decide (0 ≤ j) && decide (j ≤ 1000) && szOk (x.length * j.toNat) then alloc (.lst (repL x j.toNat)) S else .bad
    | _ => .bad
  | .mul, .str x, .int j => if decide (0 ≤ j) && decide (j ≤ 100000) && decide (x.length ≤ 100) then .ok (.str (Txt.mul x j)) S else .bad
  | .mul, .tup x, .int j => if decide (1 ≤ j) && decide (j ≤ 1000) && decide (x.length ≤ 1000) && !x.isEmpty then .ok (.tup (repL x j.toNat)) S else .bad
  | _, _, _ => .bad
def negI (a : IV) (S : Sto) : Rs IV := match a with
  | .int i => .ok (.int (-i)) S
  | _ => .bad
/-- a value that is compared without looking into it -/
def eqS : IV → IV → Option Bool
  | .int i, .int j => some (decide (i = j))
  | .str x, .str y => some (decide (x = y))
  | .bl x, .bl y => some (decide (x = y))
  | _, _ => none
def eqI (a b : IV) (S : Sto) : Option Bool := match eqS a b with
  | some k => some k
  | none => match toD S a, toD S b with
    | some d, some e => if SeqAt.shaped d && SeqAt.shaped e then some (PyData.eqv d e) else none
    | _, _ => none
def flatI : IV → Bool
  | .non => true
  | .bl _ => true
  | .int _ => true
  | .str _ => true
  | _ => false
/-- == of flat values -/
def eqF : IV → IV → Bool
  | .non, .non => true
  | .bl a, .bl b => a == b
  | .bl a, .int j => (if a then 1 else 0) == j
  | .int i, .bl b => i == (if b then 1 else 0)
  | .int i, .int j => i == j
  | .str x, .str y => decide (x = y)
  | _, _ => false
/-- the items of a list or tuple -/
def itemsI (a : IV) (S : Sto) : Option (List IV) := match a with
  | .tup xs => some xs
  | .ref n => match S[n]? with
    | some (.lst xs) => some xs
    | some (.frz xs) => some xs
    | _ => none
  | _ => none
/-- the data of the items -/
def seqD : Option PyData → Option (List PyData)
  | some (.list ds) => some ds
  | some (.tuple ds) => some ds
  | _ => none
def optAll {α β : Type} (f : α → Option β) : List α → Option (List β)
  | [] => some []
  | x :: xs => match f x with
    | some y => match optAll f xs with | some ys => some (y :: ys) | none => none
    | none => none
/-- a dict's entries -/
def dctOf (y : IV) (S : Sto) : Option (List (Key × IV)) := match y with
  | .ref n => match S[n]? with
    | some (.dct kvs) => some kvs
    | _ => none
  | _ => none
def keyOf : IV → Option Key
  | .int i => some (.inl i)
  | .str x => some (.inr x)
  | _ => none
/-- the value at a key; a value stored at a key -/
def dVal {κ β : Type} [DecidableEq κ] (kvs : List (κ × β)) (k : κ) : Option β := (kvs.find? fun kv => decide (kv.1 = k)).map (·.2)
def dPut {κ β : Type} [DecidableEq κ] (kvs : List (κ × β)) (k : κ) (v : β) : List (κ × β) :=
  if (kvs.any fun kv => decide (kv.1 = k)) = true then kvs.map (fun kv => if kv.1 = k then (kv.1, v) else kv) else kvs ++ [(k, v)]
/-- a text in a text -/
def strIn : IV → IV → Option Bool
  | .str a, .str z => some (!(Builtin.Str.occurrences z a 0 z.length 1).isEmpty)
  | _, _ => none
/-- a dict whose keys are tuples of ints -/
def dttOf (y : IV) (S : Sto) : Option (List (List Key × IV)) := match y with
  | .ref n => match S[n]? with
    | some (.dtt kvs) => some kvs
    | _ => none
  | _ => none
def keyInt : IV → Option Key
  | .int i => some (.inl i)
  | _ => none
def keysOf : IV → Option (List Key)
  | .tup xs => optAll keyInt xs
  | _ => none
def dtIn (x y : IV) (S : Sto) : Option Bool := match dttOf y S, keysOf x with
  | some kvs, some k => some (dVal kvs k).isSome
  | _, _ => strIn x y
def dtIx (a b : IV) (S : Sto) : Rs IV := match dttOf a S, keysOf b with
  | some kvs, some k => match dVal kvs k with
    | some v => .ok v S
    | none => .bad
  | _, _ => .bad
/-- x in a dict -/
def dinI (x y : IV) (S : Sto) : Option Bool := match dctOf y S, keyOf x with
  | some kvs, some k => some (dVal kvs k).isSome
  | _, _ => dtIn x y S
/-- a dict at a key -/
def dixI (a b : IV) (S : Sto) : Rs IV := match dctOf a S, keyOf b with
  | some kvs, some k => match dVal kvs k with
    | some v => .ok v S
    | none => .bad
  | _, _ => dtIx a b S
/-- an instance (no class here has an __eq__) against a text -/
def eqO : IV → IV → Sto → Option Bool
  | .ref n, .str _, S => match S[n]? with
    | some (.ins _ _) => some false
    | _ => none
  | _, _, _ => none
/-- a tuple against the empty tuple -/
def eqE : IV → IV → Sto → Option Bool
  | .tup xs, .tup [], _ => some xs.isEmpty
  | .ref n, .ref m, S => match S[n]?, S[m]? with
    | some (.lst xs), some (.lst []) => some xs.isEmpty
    | _, _ => none
  | a, b, S => eqO a b S
def eqT (a b : IV) (S : Sto) (o : Option Bool) : Option Bool := match o with
  | some k => some k
  | none => eqE a b S
def neT (a b : IV) (S : Sto) (o : Option Bool) : Option Bool := match o with
  | some k => some k
  | none => eqO a b S
def inI (x y : IV) (S : Sto) : Option Bool := match itemsI y S with
  | some xs => if flatI x && xs.all flatI then some (xs.any fun z => eqF z x) else match seqD (toD S y), toD S x with
    | some ds, some d => if SeqAt.shaped d && PyData.canLayAll0 ds then some (ds.any fun z => PyData.eqv z d) else none
    | _, _ => none
  | none => dinI x y S
def boolR (o : Option Bool) (S : Sto) : Rs IV := match o with
  | some b => .ok (.bl b) S
  | none => .bad
def boolN (o : Option Bool) (S : Sto) : Rs IV := match o with
  | some b => .ok (.bl (!b)) S
  | none => .bad
def nonI : IV → Bool
  | .non => true
  | _ => false
def isI (a b : IV) : Option Bool := match b with
  | .non => some (nonI a)
  | .bl y => match a with | .bl x => some (decide (x = y)) | _ => none
  | _ => none
def cmpI (o : Cop) (a b : IV) (S : Sto) : Rs IV := match o with
  | .eq => boolR (eqT a b S (eqI a b S)) S
  | .ne => boolN (neT a b S (eqI a b S)) S
  | .lt => match a, b with | .int i, .int j => .ok (.bl (decide (i < j))) S | _, _ => .bad
  | .le => match a, b with | .int i, .int j => .ok (.bl (decide (i ≤ j))) S | _, _ => .bad
  | .gt => match a, b with | .int i, .int j => .ok (.bl (decide (j < i))) S | _, _ => .bad
  | .ge => match a, b with | .int i, .int j => .ok (.bl (decide (j ≤ i))) S | _, _ => .bad
  | .isin => boolR (inI a b S) S
  | .notin => boolN (inI a b S) S
  | .is => boolR (isI a b) S
  | .isnot => boolN (isI a b) S
def ixI (a b : IV) (S : Sto) : Rs IV := match b with
  | .int i => match itemsI a S with
    | some xs => match atI xs i with | some v => .ok v S | none => .bad
    | none => match a with
      | .str z => if z.length ≤ 16777216 then (match atI z.cps.toList i with | some c => .ok (.str ⟨#[c]⟩) S | none => .bad) else .bad
      | _ => dixI a b S
  | _ => dixI a b S
def cutI (xs : List IV) (lo hi : Option Int) : List IV := (xs.drop (HT.sIx xs.length 0 lo)).take (HT.sIx xs.length xs.length hi - HT.sIx xs.length 0 lo)
def slI (a : IV) (lo hi : Option Int) (S : Sto) : Rs IV := match a with
  | .tup xs => .ok (.tup (cutI xs lo hi)) S
  | .str z => if z.length ≤ 1000000 then .ok (.str (Txt.slice z lo hi)) S else .bad
  | .ref n => match S[n]? with
    | some (.lst xs) => alloc (.lst (cutI xs lo hi)) S
    | some (.frz xs) => alloc (.lst (cutI xs lo hi)) S
    | _ => .bad
  | _ => .bad
/-- a[::-1] -/
def revI (a : IV) (S : Sto) : Rs IV := match a with
  | .tup xs => .ok (.tup xs.reverse) S
  | .ref n => match S[n]? with
    | some (.lst xs) => alloc (.lst xs.reverse) S
    | _ => .bad
  | _ => .bad
def intOf : IV → Option Int
  | .int i => some i
  | _ => none
def blOf : IV → Option Bool
  | .bl i => some i
  | _ => none
def lenI (a : IV) (S : Sto) : Rs IV := match itemsI a S with
  | some xs => .ok (.int xs.length) S
  | none => match a with
    | .str z => if z.length ≤ 16777216 then .ok (.int z.length) S else .bad
    | _ => match dctOf a S with
      | some kvs => .ok (.int kvs.length) S
      | none => .bad
mutual
/-- there is a list in it -/
def hasL : PyData → Bool
  | .list _ => true
  | .tuple xs => hasLs xs
  | .dict kvs => hasLk kvs
  | .none => false
  | .bool _ => false
  | .int _ => false
  | .str _ => false
def hasLs : List PyData → Bool
  | [] => false
  | x :: xs => hasL x || hasLs xs
def hasLk : List (PyData × PyData) → Bool
  | [] => false
  | (k, v) :: r => hasL v || hasLk r
end
def shownOk (d : PyData) : Bool := d.showable && (!d.hasDict || !hasL d) && decide (d.shown.length ≤ 16777216) && decide (d.depth ≤ 60)
/-- ints in order -/
def sortI (ns : List Int) : List Int := ns.mergeSort fun a b => decide (a ≤ b)
def bltI (f : Bf) (vs : List IV) (S : Sto) : Rs IV := match f, vs with
  | .len, [a] => lenI a S
  | .abs, [.int i] => .ok (.int (if i < 0 then -i else i)) S
  | .max, [.int i, .int j] => .ok (.int (if j > i then j else i)) S
  | .min, [.int i, .int j] => .ok (.int (if j < i then j else i)) S
  | .repr, [a] => match toD S a with
    | some d => if shownOk d then .ok (.str d.shown) S else .bad
    | none => .bad
  | .str, [.int i] => if i.natAbs.log2 < 1920 then .ok (.str (toString i)) S else .bad
  | .int, [.int i] => .ok (.int i) S
  | .int, [.bl b] => .ok (.int (if b then 1 else 0)) S
  | .int, [.str a] => match PySem.intText? a with
    | some n => if a.length ≤ 1000000 then .ok (.int n) S else .bad
    | none => .bad
  | .list, [a] => match itemsI a S with | some xs => alloc (.lst xs) S | none => .bad
  | .tuple, [a] => match itemsI a S with | some xs => .ok (.tup xs) S | none => .bad
  | .sum, [a] => match itemsI a S with
    | some xs => match optAll intOf xs with | some ns => .ok (.int ns.sum) S | none => .bad
    | _ => .bad
  | .all, [.ref n] => match S[n]? with
    | some (.lst xs) => match optAll blOf xs with | some bs => .ok (.bl (bs.all id)) S | none => .bad
    | _ => .bad
  | .any, [.ref n] => match S[n]? with
    | some (.lst xs) => match optAll blOf xs with | some bs => .ok (.bl (bs.any id)) S | none => .bad
    | _ => .bad
  | .max, [a] => match itemsI a S with
    | some xs => match optAll intOf xs with | some (m :: ns) => .ok (.int (ns.foldl max m)) S | _ => .bad
    | _ => .bad
  | .min, [a] => match itemsI a S with
    | some xs => match optAll intOf xs with | some (m :: ns) => .ok (.int (ns.foldl min m)) S | _ => .bad
    | _ => .bad
  | .sorted, [.ref n] => match S[n]? with
    | some (.lst xs) => match optAll intOf xs with | some ns => alloc (.lst ((sortI ns).map .int)) S | none => .bad
    | _ => .bad
  | _, _ => .bad
def isiI (a : IV) (T : Ty) (S : Sto) : Rs IV := match a, T with
  | .non, .own _ => .bad
  | .bl _, .own _ => .bad
  | .int _, .own _ => .bad
  | .str _, .own _ => .bad
  | .tup _, .own _ => .bad
  | .cls _, _ => .bad
  | .non, _ => .ok (.bl false) S
  | .bl _, T => .ok (.bl (match T with | .bool => true | .int => true | _ => false)) S
  | .int _, T => .ok (.bl (match T with | .int => true | _ => false)) S
  | .str _, T => .ok (.bl (match T with | .str => true | _ => false)) S
  | .tup _, T => .ok (.bl (match T with | .tuple => true | _ => false)) S
  | .ref n, T => match S[n]?, T with
    | some (.lst _), .own _ => .bad
    | some (.frz _), .own _ => .bad
    | some (.dct _), .own _ => .bad
    | some (.dtt _), _ => .bad
    | some (.lst _), T => .ok (.bl (match T with | .list => true | _ => false)) S
    | some (.frz _), T => .ok (.bl (match T with | .list => true | _ => false)) S
    | some (.dct _), T => .ok (.bl (match T with | .dict => true | _ => false)) S
    | _, _ => .bad
def mthI (m : Str) (o : IV) (vs : List IV) (S : Sto) : Rs IV := match o with
  | .ref n => match S[n]?, vs with
    | some (.lst xs), [y] => if m = "append" then (if szOk (xs.length + 1) then .ok .non (S.set n (.lst (xs ++ [y]))) else .bad)
      else if m = "index" then (if flatI y && xs.all flatI then (match xs.findIdx? fun z => eqF z y with | some j => .ok (.int (j : Nat)) S | none => .bad) else match seqD (toD S o), toD S y with
        | some ds, some d => if SeqAt.shaped d && PyData.canLayAll0 ds then (match ds.findIdx? fun z => PyData.eqv z d with | some j => .ok (.int (j : Nat)) S | none => .bad) else .bad
        | _, _ => .bad)
      else if m = "extend" then (match y with
        | .ref b => match S[b]? with
          | some (.lst zs) => if szOk (xs.length + zs.length) then .ok .non (S.set n (.lst (xs ++ zs))) else .bad
          | _ => .bad
        | _ => .bad)
      else if m = "pop" then (match y with
        | .int i => if decide (-1000000 ≤ i) && decide (i ≤ 1000000) then (match seqIndex? i xs.length with
          | some j => match xs[j]? with | some v => .ok v (S.set n (.lst (xs.eraseIdx j))) | none => .bad
          | none => .bad) else .bad
        | _ => .bad) else .bad
    | _, _ => .bad
  | _ => .bad
/-- other receivers of methods -/
def rcv2 (m : Str) (x : IV) (_S : Sto) : Bool := match x with
  | .tup _ => decide (m = "index")
  | _ => false
def mth2 (m : Str) (o : IV) (vs : List IV) (S : Sto) : Rs IV := match o, vs with
  | .tup xs, [y] => if m = "index" then (if flatI y && xs.all flatI then (match xs.findIdx? fun z => eqF z y with | some j => .ok (.int (j : Nat)) S | none => .bad) else .bad) else .bad
  | _, _ => .bad
/-- the receiver of a method is a list -/
def rcvI (x : IV) (S : Sto) : Bool := match x with
  | .ref n => match S[n]? with | some (.lst _) => true | _ => false
  | _ => false
/-! ### targets -/
mutual
def setT : Tg → IV → Sl → Option Sl
  | .nm i, v, τ => some (τ.set i (some v))
  | .tp ts, v, τ => match v with
    | .tup xs => setTs ts xs τ
    | _ => none
def setTs : List Tg → List IV → Sl → Option Sl
  | [], [], τ => some τ
  | t :: ts, x :: xs, τ => match setT t x τ with
    | some τ' => setTs ts xs τ'
    | none => none
  | _, _, _ => none
end
def wipeI (τ : Sl) : List Nat → Sl
  | [] => τ
  | v :: vs => (wipeI τ vs).set v none
/-- {x: y}: the dict stands empty while its entry is made -/
def dc1I (n : Nat) (x y : IV) (S : Sto) : Rs IV := match S[n]?, keyOf x with
  | some (.dct []), some k => .ok (.ref n) (S.set n (.dct [(k, y)]))
  | _, _ => .bad
/-! ### what is walked -/
/-- the items; the cell that must stand still (its place) -/
structure Walk where
  items : List IV
  held : Option (Nat × Cell)
def signs (z : Str) : List IV := z.cps.toList.map fun c => IV.str ⟨#[c]⟩
def walkV (a : IV) (S : Sto) : Option Walk := match a with
  | .tup xs => some ⟨xs, none⟩
  | .str z => some ⟨signs z, none⟩
  | .ref n => match S[n]? with
    | some (.lst xs) => some ⟨xs, some (n, .lst xs)⟩
    | some (.frz xs) => some ⟨xs, some (n, .frz xs)⟩
    | _ => none
  | _ => none
def zipI (xs ys : List IV) : List IV := (xs.zip ys).map fun p => IV.tup [p.1, p.2]
def tupsOf : IV → Option (List IV)
  | .tup xs => some xs
  | _ => none
/-- the rows of so many tuples of one length -/
def rowsI (xss : List (List IV)) (n : Nat) : List IV := (List.range n).map fun i => IV.tup (xss.map fun xs => xs.getD i .non)
def sameL (xss : List (List IV)) : Bool := decide (1 ≤ xss.length) && decide (xss.length ≤ 6) && xss.all fun xs => xs.length == (xss.headD []).length
def zipsV (x : IV) : Option Walk := match x with
  | .tup ts => match optAll tupsOf ts with
    | some xss => if sameL xss then some ⟨rowsI xss (xss.headD []).length, none⟩ else none
    | none => none
  | _ => none
def enumI (xs : List IV) : List IV := xs.zipIdx.map fun p => IV.tup [.int (p.2 : Nat), p.1]
def enumV (a : IV) (S : Sto) : Option Walk := match a with
  | .tup xs => some ⟨enumI xs, none⟩
  | .ref n => match S[n]? with
    | some (.lst xs) => some ⟨enumI xs, some (n, .lst xs)⟩
    | some (.frz xs) => some ⟨enumI xs, some (n, .frz xs)⟩
    | _ => none
  | _ => none
def holds (h : Option (Nat × Cell)) (S : Sto) : Bool := match h with
  | none => true
  | some (n, c) => match S[n]? with | some d => d.eqb c | none => false
def rngI (n : Nat) : List IV := (List.range n).map fun i => IV.int (i : Nat)
/-- range(a, b) -/
def rngJ (a b : Int) : List IV := (List.range (b - a).toNat).map fun i : Nat => IV.int (a + (i : Nat))
/-- len(set(x)) of a list of ints -/
def lsetI (x : IV) (S : Sto) : Rs IV := match x with
  | .ref n => match S[n]? with
    | some (.lst xs) => match optAll intOf xs with
      | some ns => if ns.length ≤ 4000 then .ok (.int ((PyProof.Rows.firstMet (fun i => ns.getD i 0) ns.length).length : Nat)) S else .bad
      | none => .bad
    | _ => .bad
  | _ => .bad
/-- x in its place, once -/
def insU (x : Int) : List Int → List Int
  | [] => [x]
  | y :: l => if x < y then x :: y :: l else if x = y then y :: l else y :: insU x l
def sortU : List Int → List Int
  | [] => []
  | x :: l => insU x (sortU l)
/-- sorted(set(x)) of a list of ints -/
def ssetI (x : IV) (S : Sto) : Rs IV := match x with
  | .ref n => match S[n]? with
    | some (.lst xs) => match optAll intOf xs with
      | some ns => if ns.length ≤ 60 then alloc (.lst ((sortU ns).map .int)) S else .bad
      | none => .bad
    | _ => .bad
  | _ => .bad
/-- list(range(x)), tuple(range(x)) -/
def rgsI (t : Bool) (x : IV) (S : Sto) : Rs IV := match x with
  | .int n => if decide (0 ≤ n) && decide (n ≤ 1000) then (if t then .ok (.tup (rngI n.toNat)) S else alloc (.lst (rngI n.toNat)) S) else .bad
  | _ => .bad
/-- a text's method -/
def strOf : IV → Option Str
  | .str x => some x
  | _ => none
def smI (m : Str) (x y : IV) (S : Sto) : Rs IV := match x with
  | .str a => if m = "split" then (match y with
      | .str b => if (b.length == 0) = false ∧ a.length ≤ 1000000 then alloc (.lst ((Txt.split a b).map .str)) S else .bad
      | _ => .bad)
    else if m = "startswith" then (match y with
      | .str b => .ok (.bl (Txt.startswith a b)) S
      | _ => .bad)
    else if m = "removeprefix" then (match y with
      | .str b => if a.length ≤ 1000000 then .ok (.str (Txt.removeprefix a b)) S else .bad
      | _ => .bad)
    else if m = "join" then (match itemsI y S with
      | some xs => match optAll strOf xs with
        | some ys => if (ys.map (·.length)).sum + ys.length * a.length ≤ 1000000 then .ok (.str (Txt.join a ys)) S else .bad
        | none => .bad
      | none => .bad)
    else .bad
  | _ => .bad
/-- f'..' -/
def fmtI : IV → Option Str
  | .str x => some x
  | .int i => if i.natAbs.log2 < 1920 then some (toString i) else none
  | _ => none
/-! ### the environment of calls -/
/-- what a class has by a name -/
inductive At where
  | meth (q : Str) | prop (g : Str) (s : Option Str) | con (v : IV) | cmeth (q : Str)
structure Gam where
  call : Str → List IV → Sto → Rs IV
  glob : Str → Option IV
  att : Str → Str → Option At
  isub : Str → Str → Bool
  sup : Str → Str → Str → Option Str
/-- x.f -/
def okOnly (r : Rs IV) : Rs IV := match r with
  | .ok v S => .ok v S
  | _ => .bad
def attI (Γ : Gam) (f : Str) (x : IV) (S : Sto) : Rs IV := match x with
  | .ref n => match S[n]? with
    | some (.ins c fs) => match Γ.att c f with
      | some (.prop g _) => okOnly (Γ.call g [x] S)
      | some (.con v) => match fs.lookup f with | some _ => .bad | none => .ok v S
      | some _ => .bad
      | none => match fs.lookup f with | some w => .ok w S | none => .bad
    | _ => .bad
  | .cls c => match Γ.att c f with
    | some (.con v) => .ok v S
    | _ => .bad
  | _ => .bad
/-- the def of x.m(..) -/
def metI (Γ : Gam) (m : Str) (em : Bool) (x : IV) (S : Sto) : Option Str := match x with
  | .ref n => match S[n]? with
    | some (.ins c fs) => match Γ.att c m, fs.lookup m with
      | some (.meth q), none => some q
      | _, _ => none
    | _ => none
  | .cls c => match Γ.att c m with
    | some (.cmeth q) => if em then none else some q
    | _ => none
  | _ => none
/-- a new instance -/
def mkI (Γ : Gam) (c : Str) (xs : List IV) (S : Sto) : Rs IV := match Γ.att c "__init__" with
  | some (.meth q) => (Γ.call q (.ref S.length :: xs) (S ++ [.ins c []])).bind fun v S2 => if nonI v then .ok (.ref S.length) S2 else .bad
  | _ => .bad
def hasInit (Γ : Gam) (c : Str) : Bool := match Γ.att c "__init__" with
  | some (.meth _) => true
  | _ => false
/-- isinstance(x, c), an own class -/
def isoI (Γ : Gam) (x : IV) (c : Str) (S : Sto) : Rs IV := match x with
  | .ref n => match S[n]? with
    | some (.ins d _) => .ok (.bl (Γ.isub d c)) S
    | some (.dtt _) => .bad
    | some _ => .ok (.bl false) S
    | none => .bad
  | .cls _ => .bad
  | _ => .ok (.bl false) S
def putI (f : Str) (v : IV) : List (Str × IV) → List (Str × IV)
  | [] => [(f, v)]
  | (g, w) :: r => if g = f then (f, v) :: r else (g, w) :: putI f v r
/-- what the callee has left is dropped where nothing points to it -/
def okOld (n : Nat) : Nat → Sto → Sto → Bool
  | 0, _, _ => true
  | i + 1, S, S' => (match S'[i]? with
    | none => false
    | some c => c.lt n || (match S[i]? with | some d => d.eqb c | none => false)) && okOld n i S S'
def settle (S : Sto) (v : IV) (S' : Sto) : Sto := if v.lt S.length && okOld S.length S.length S S' then S'.take S.length else S'
/-- .. behind an expression -/
def Rs.settle (S : Sto) (r : Rs IV) : Rs IV := match r with
  | .ok v S' => .ok v (Wg.settle S v S')
  | .exc c S' => .exc c (Wg.settle S .non S')
  | .bad => .bad
/-- the turns of a comprehension; one: a turn's tests and element -/
def lcGo (one : IV → Sto → Rs (Option IV)) (held : Option (Nat × Cell)) : List IV → List IV → Sto → Rs (List IV)
  | [], acc, S => if holds held S then .ok acc S else .bad
  | x :: xs, acc, S => if holds held S then (match one x S with
    | .ok (some y) S' => if szOk (acc.length + 1) then lcGo one held xs (acc ++ [y]) S' else .bad
    | .ok none S' => lcGo one held xs acc S'
    | _ => .bad) else .bad
def truth (r : Rs IV) (f : Bool → Sto → Rs IV) : Rs IV := r.bind fun v S => match v with
  | .bl b => f b S
  | _ => .bad
mutual
def evE (Γ : Gam) : PX → Sl → Sto → Rs IV
  | .k v, _, S => .ok v S
  | .loc i, τ, S => match τ[i]? with
    | some (some v) => .ok v S
    | _ => .bad
  | .glb x, _, S => match Γ.glob x with
    | some v => .ok v S
    | none => .bad
  | .bin o a b, τ, S => (evE Γ a τ S).bind fun x S1 => (evE Γ b τ S1).bind fun y S2 => binI o x y S2
  | .neg a, τ, S => (evE Γ a τ S).bind fun x S1 => negI x S1
  | .cmp o a b, τ, S => (evE Γ a τ S).bind fun x S1 => (evE Γ b τ S1).bind fun y S2 => cmpI o x y S2
  | .chain o o' a b c, τ, S => (evE Γ a τ S).bind fun x S1 => (evE Γ b τ S1).bind fun y S2 => truth (cmpI o x y S2) fun k S3 =>
      if k then (evE Γ c τ S3).bind fun z S4 => cmpI o' y z S4 else .ok (.bl false) S3
  | .and a b, τ, S => truth (evE Γ a τ S) fun k S1 => if k then evE Γ b τ S1 else .ok (.bl false) S1
  | .or a b, τ, S => truth (evE Γ a τ S) fun k S1 => if k then .ok (.bl true) S1 else evE Γ b τ S1
  | .not a, τ, S => truth (evE Γ a τ S) fun k S1 => .ok (.bl (!k)) S1
  | .ite c a b, τ, S => truth (evE Γ c τ S) fun k S1 => if k then evE Γ a τ S1 else evE Γ b τ S1
  | .tup es, τ, S => (evEs Γ es τ S).bind fun xs S1 => if szOk xs.length then .ok (.tup xs) S1 else .bad
  | .lst es, τ, S => (evEs Γ es τ S).bind fun xs S1 => if szOk xs.length then alloc (.lst xs) S1 else .bad
  | .dct kvs, _, S => match kvs with
    | [] => alloc (.dct []) S
    | [(.k (.int i), .k (.int j))] => alloc (.dct [(.inl i, .int j)]) S
    | _ => .bad
  | .dnt, _, S => alloc (.dtt []) S
  | .ix a b, τ, S => (evE Γ a τ S).bind fun x S1 => (evE Γ b τ S1).bind fun y S2 => ixI x y S2
  | .sl a lo hi, τ, S => (evE Γ a τ S).bind fun x S1 => (evO Γ lo τ S1).bind fun l S2 => (evO Γ hi τ S2).bind fun h S3 => slI x l h S3
  | .rev a, τ, S => (evE Γ a τ S).bind fun x S1 => revI x S1
  | .call f es, τ, S => (evEs Γ es τ S).bind fun xs S1 => Γ.call f xs S1
  | .blt f es, τ, S => ((evEs Γ es τ S).bind fun xs S1 => bltI f xs S1).settle S
  | .mth m o es, τ, S => (evE Γ o τ S).bind fun x S1 => if rcvI x S1 then (evEs Γ es τ S1).bind fun xs S2 => mthI m x xs S2 else if rcv2 m x S1 then (evEs Γ es τ S1).bind fun xs S2 => mth2 m x xs S2 else .bad
  | .bmt m o es, τ, S => (evE Γ o τ S).bind fun x S1 => if rcv2 m x S1 then (evEs Γ es τ S1).bind fun xs S2 => mth2 m x xs S2 else .bad
  | .dc1 a b, τ, S => (evE Γ a τ (S ++ [.dct []])).bind fun x S1 => (evE Γ b τ S1).bind fun y S2 => dc1I S.length x y S2
  | .isi a T, τ, S => (evE Γ a τ S).bind fun x S1 => isiI x T S1
  | .lc own tg it ifs elt, τ, S => (evI Γ it τ S).bind fun wk S1 =>
      (lcGo (fun x S2 => match setT tg x (wipeI τ own) with
        | none => .bad
        | some τ' => (evTs Γ ifs τ' S2).bind fun k S3 => if k then (evE Γ elt τ' S3).bind fun y S4 => .ok (some y) S4 else .ok none S3) wk.held wk.items [] S1).bind fun ys S2 => alloc (.lst ys) S2
  | .att f o, τ, S => (evE Γ o τ S).bind fun x S1 => attI Γ f x S1
  | .met m o es, τ, S => (evE Γ o τ S).bind fun x S1 => match metI Γ m es.isEmpty x S1 with
    | some q => (evEs Γ es τ S1).bind fun xs S2 => Γ.call q (x :: xs) S2
    | none => .bad
  | .new f es, τ, S => (evE Γ f τ S).bind fun y S0 => match y with
    | .cls c => if hasInit Γ c then (evEs Γ es τ S0).bind fun xs S1 => mkI Γ c xs S1 else .bad
    | _ => .bad
  | .iso a c, τ, S => (evE Γ a τ S).bind fun x S1 => isoI Γ x c S1
  | .gc e, τ, S => (evE Γ e τ S).settle S
  | .calls f es e, τ, S => (evEs Γ es τ S).bind fun xs S1 => (evE Γ e τ S1).bind fun y S2 => match itemsI y S2 with
    | some ys => Γ.call f (xs ++ ys) S2
    | none => .bad
  | .news f es e, τ, S => (evE Γ f τ S).bind fun z S0 => match z with
    | .cls c => if hasInit Γ c then (evEs Γ es τ S0).bind fun xs S1 => (evE Γ e τ S1).bind fun y S2 => match itemsI y S2 with
      | some ys => mkI Γ c (xs ++ ys) S2
      | none => .bad else .bad
    | _ => .bad
  | .rgs t e, τ, S => (evE Γ e τ S).bind fun x S1 => rgsI t x S1
  | .lset e, τ, S => (evE Γ e τ S).bind fun x S1 => lsetI x S1
  | .sset e, τ, S => (evE Γ e τ S).bind fun x S1 => ssetI x S1
  | .smt m o e, τ, S => (evE Γ o τ S).bind fun x S1 => match x with
    | .str a => (evE Γ e τ S1).bind fun y S2 => smI m (.str a) y S2
    | _ => .bad
  | .fst es, τ, S => (evF Γ es Str.empty τ S).bind fun z S1 => .ok (.str z) S1
def evEs (Γ : Gam) : List PX → Sl → Sto → Rs (List IV)
  | [], _, S => .ok [] S
  | e :: es, τ, S => (evE Γ e τ S).bind fun x S1 => (evEs Γ es τ S1).bind fun xs S2 => .ok (x :: xs) S2
def evF (Γ : Gam) : List PX → Str → Sl → Sto → Rs Str
  | [], acc, _, S => .ok acc S
  | e :: es, acc, τ, S => (evE Γ e τ S).bind fun x S1 => match fmtI x with
    | some y => if (acc ++ y).length ≤ 1000000 then evF Γ es (acc ++ y) τ S1 else .bad
    | none => .bad
def evTs (Γ : Gam) : List PX → Sl → Sto → Rs Bool
  | [], _, S => .ok true S
  | e :: es, τ, S => (evE Γ e τ S).bind fun x S1 => match x with
    | .bl true => evTs Γ es τ S1
    | .bl false => .ok false S1
    | _ => .bad
def evO (Γ : Gam) : Option PX → Sl → Sto → Rs (Option Int)
  | none, _, S => .ok none S
  | some e, τ, S => (evE Γ e τ S).bind fun x S1 => match x with
    | .int i => .ok (some i) S1
    | _ => .bad
def evI (Γ : Gam) : PIt → Sl → Sto → Rs Walk
  | .val e, τ, S => (evE Γ e τ S).bind fun x S1 => match walkV x S1 with
    | some w => .ok w S1
    | none => .bad
  | .rng es, τ, S => (evEs Γ es τ S).bind fun xs S1 => match xs with
    | [.int n] => if decide (-(2 ^ 62) ≤ n) && decide (n < 2 ^ 62) then .ok ⟨rngI n.toNat, none⟩ S1 else .bad
    | [.int a, .int b] => if decide (-1000 ≤ a) && decide (a ≤ 1000) && decide (-1000 ≤ b) && decide (b ≤ 1000) then .ok ⟨rngJ a b, none⟩ S1 else .bad
    | _ => .bad
  | .enum e, τ, S => (evE Γ e τ S).bind fun x S1 => match enumV x S1 with
    | some w => .ok w S1
    | none => .bad
  | .zip a b, τ, S => (evE Γ a τ S).bind fun x S1 => (evE Γ b τ S1).bind fun y S2 => match x, y with
    | .tup xs, .tup ys => .ok ⟨zipI xs ys, none⟩ S2
    | .tup xs, .ref n => match S2[n]? with
      | some (.lst ys) => if xs.length = ys.length then .ok ⟨zipI xs ys, some (n, .lst ys)⟩ S2 else .bad
      | _ => .bad
    | _, _ => .bad
  | .zips e, τ, S => (evE Γ e τ S).bind fun x S1 => match zipsV x with
    | some w => .ok w S1
    | none => .bad
end
/-! ### statements -/
/-- .., and the slot j -/
def andSet (j : Nat) (w : IV) : Rz → Rz
  | .next τ S => .next (τ.set j (some w)) S
  | r => r
def forGo (body : Sl → Sto → Rz) (tg : Tg) (held : Option (Nat × Cell)) : List IV → Sl → Sto → Rz
  | [], τ, S => if holds held S then .next τ S else .bad
  | x :: xs, τ, S => if holds held S then (match setT tg x τ with
    | none => .bad
    | some τ1 => match body τ1 S with
      | .next τ2 S2 => forGo body tg held xs τ2 S2
      | .cnt τ2 S2 => forGo body tg held xs τ2 S2
      | .brk τ2 S2 => .next τ2 S2
      | r => r) else .bad
/-- a while's turns, at most n of them -/
def whileN (test : Sl → Sto → Rs IV) (body : Sl → Sto → Rz) : Nat → Sl → Sto → Option Rz
  | 0, _, _ => none
  | n + 1, τ, S => match test τ S with
    | .ok (.bl true) S1 => match body τ S1 with
      | .next τ2 S2 => whileN test body n τ2 S2
      | .cnt τ2 S2 => whileN test body n τ2 S2
      | .brk τ2 S2 => some (.next τ2 S2)
      | r => some r
    | .ok (.bl false) S1 => some (.next τ S1)
    | .exc c S1 => some (.exc c τ S1)
    | _ => some .bad
open Classical in
noncomputable def whileC (test : Sl → Sto → Rs IV) (body : Sl → Sto → Rz) (τ : Sl) (S : Sto) : Rz :=
  if h : ∃ n r, whileN test body n τ S = some r then h.choose_spec.choose else .bad
/-- an except suite lets nothing out -/
def quietZ (r : Rz) : Rz := match r with
  | .exc _ _ _ => .bad
  | r => r
/-- behind a suite that holds its exception in slot i: the slot is empty again -/
def quietA (i : Nat) : Rz → Rz
  | .next τ S => .next (τ.set i none) S
  | .ret v S => .ret v S
  | _ => .bad
/-- except d as ..: a suite for each class -/
def catchA (sub : Str → Str → Bool) (i : Nat) (d : Str) (hs : List (Str × (Sl → Sto → Rz))) (c : Str) (τ : Sl) (S : Sto) : Rz :=
  if sub c d then (match hs.lookup c with
    | some f => quietA i (f (τ.set i none) S)
    | none => .bad) else .exc c τ S
def catchI (sub : Str → Str → Bool) (hs : List (Str × (Sl → Sto → Rz))) (c : Str) (τ : Sl) (S : Sto) : Rz := match hs with
  | [] => .exc c τ S
  | (d, f) :: r => if sub c d then quietZ (f τ S) else catchI sub r c τ S
def setN (tg : Tg) (v : IV) (τ : Sl) (S : Sto) : Rz := match setT tg v τ with
  | some τ' => .next τ' S
  | none => .bad
/-- x[y] = v -/
def subN (v x y : IV) (τ : Sl) (S : Sto) : Rz := match x with
  | .ref n => match S[n]? with
    | some (.lst xs) => match y with
      | .int k => match ixN xs.length k with
        | some j => .next τ (S.set n (.lst (xs.set j v)))
        | none => .bad
      | _ => .bad
    | some (.dct kvs) => match keyOf y with
      | some k => if szOk (kvs.length + 1) then .next τ (S.set n (.dct (dPut kvs k v))) else .bad
      | none => .bad
    | some (.dtt kvs) => match keysOf y with
      | some k => if szOk (kvs.length + 1) then .next τ (S.set n (.dtt (dPut kvs k v))) else .bad
      | none => .bad
    | _ => .bad
  | _ => .bad
def augN (i : Nat) (o : Bop) (x y : IV) (τ : Sl) (S : Sto) : Rz := match o, x, y with
  | .add, .int p, .int q => .next (τ.set i (some (.int (p + q)))) S
  | .sub, .int p, .int q => .next (τ.set i (some (.int (p - q)))) S
  | _, _, _ => .bad
/-- x.f = v -/
def fldN (Γ : Gam) (f : Str) (v x : IV) (τ : Sl) (S : Sto) : Rz := match x with
  | .ref n => match S[n]? with
    | some (.ins c fs) => match Γ.att c f with
      | none => if fs.length < 900 then .next τ (S.set n (.ins c (putI f v fs))) else .bad
      | some (.prop _ (some q)) => (Γ.call q [x, v] S).thn τ fun _ S1 => .next τ S1
      | _ => .bad
    | _ => .bad
  | _ => .bad
def augI (o : Bop) (x y : IV) : Option IV := match o, x, y with
  | .add, .int p, .int q => some (.int (p + q))
  | .sub, .int p, .int q => some (.int (p - q))
  | _, _, _ => none
/-- the class of an instance -/
def clsOf (x : IV) (S : Sto) : Option Str := match x with
  | .ref n => match S[n]? with
    | some (.ins c _) => some c
    | _ => none
  | _ => none
/-- the field's value now -/
def fldV (Γ : Gam) (f : Str) (x : IV) (S : Sto) : Option IV := match x with
  | .ref n => match S[n]? with
    | some (.ins c fs) => match Γ.att c f with
      | none => fs.lookup f
      | _ => none
    | _ => none
  | _ => none
/-- super().m in a def of the class D: the def that is meant, and the value that stands first -/
def supF (Γ : Gam) (D m : Str) (τ : Sl) (S : Sto) : Option (Str × IV) := match τ[0]? with
  | some (some (IV.ref n)) => match S[n]? with
    | some (.ins C _) => match Γ.sup D C m with
      | some g => some (g, .ref n)
      | none => none
    | _ => none
  | _ => none
def retN (r : Option Nat) (τ : Sl) (v : IV) (S : Sto) : Rz := match r with
  | some i => .next (τ.set i (some v)) S
  | none => .next τ S
/-- w.replace(x, y) + z is returned -/
noncomputable def rplN (x y z : Str) (w : IV) (S : Sto) : Rz := match w with
  | .str t => if t.length + (t.length + 1) * y.length ≤ 1000 ∧ z.length ≤ 1000 then .ret (.str (Txt.replace t x y ++ z)) S else .bad
  | _ => .bad
mutual
noncomputable def evS (Γ : Gam) (sub : Str → Str → Bool) : Sm → Sl → Sto → Rz
  | .expr e, τ, S => (evE Γ e τ S).thn τ fun _ S1 => .next τ S1
  | .ret e, τ, S => (evE Γ e τ S).thn τ fun v S1 => .ret v S1
  | .retN, _, S => .ret .non S
  | .pass, τ, S => .next τ S
  | .brk, τ, S => .brk τ S
  | .cnt, τ, S => .cnt τ S
  | .set tg e, τ, S => (evE Γ e τ S).thn τ fun v S1 => setN tg v τ S1
  | .par i j a b, τ, S => (evE Γ a τ S).thn τ fun x S1 => (evE Γ b τ S1).thn τ fun y S2 => .next ((τ.set i (some x)).set j (some y)) S2
  | .par3 i j l a b c, τ, S => (evE Γ a τ S).thn τ fun x S1 => (evE Γ b τ S1).thn τ fun y S2 => (evE Γ c τ S2).thn τ fun z S3 => .next (((τ.set i (some x)).set j (some y)).set l (some z)) S3
  | .sub o i e, τ, S => (evE Γ e τ S).thn τ fun v S1 => (evE Γ o τ S1).thn τ fun x S2 => (evE Γ i τ S2).thn τ fun y S3 => subN v x y τ S3
  | .subs o i j e, τ, S => (evE Γ e τ S).thn τ fun v S1 => match v with
    | .tup [u, w] => (evE Γ o τ S1).thn τ fun x S2 => (evE Γ i τ S2).thn τ fun y S3 => andSet j w (subN u x y τ S3)
    | _ => .bad
  | .fld o f e, τ, S => (evE Γ e τ S).thn τ fun v S1 => (evE Γ o τ S1).thn τ fun x S2 => fldN Γ f v x τ S2
  | .fldaug o f p e, τ, S => (evE Γ o τ S).thn τ fun x S1 => match fldV Γ f x S1 with
    | some u => (evE Γ e τ S1).thn τ fun y S2 => match augI p u y with
      | some z => if clsOf x S1 = clsOf x S2 then fldN Γ f z x τ S2 else .bad
      | none => .bad
    | none => .bad
  | .aug i o e, τ, S => match τ[i]? with
    | some (some x) => (evE Γ e τ S).thn τ fun y S1 => augN i o x y τ S1
    | _ => .bad
  | .cond c a b, τ, S => (evE Γ c τ S).thn τ fun v S1 => match v with
    | .bl true => evSs Γ sub a τ S1
    | .bl false => evSs Γ sub b τ S1
    | _ => .bad
  | .whil c b, τ, S => whileC (evE Γ c) (evSs Γ sub b) τ S
  | .for tg it b, τ, S => (evI Γ it τ S).thn τ fun wk S1 => forGo (evSs Γ sub b) tg wk.held wk.items τ S1
  | .raise c, τ, S => .exc c τ S
  | .tryx b hs, τ, S => match evSs Γ sub b τ S with
    | .exc c τ1 S1 => catchI sub (evHs Γ sub hs) c τ1 S1
    | r => r
  | .tryq b, τ, S => quietZ (evSs Γ sub b τ S)
  | .tryas b i d hs, τ, S => match evSs Γ sub b τ S with
    | .exc c τ1 S1 => catchA sub i d (evHs Γ sub hs) c τ1 S1
    | r => r
  | .sup r d m es, τ, S => match supF Γ d m τ S with
    | some (g, x) => (evEs Γ es τ S).thn τ fun xs S1 => (Γ.call g (x :: xs) S1).thn τ fun v S2 => retN r τ v S2
    | none => .bad
  | .rpl p k q x y z, τ, S => (evE Γ p τ S).thn τ fun v S1 => match v with
    | .int n => if n = k then (evE Γ q τ S1).thn τ fun w S2 => rplN x y z w S2 else .next τ S1
    | _ => .bad
noncomputable def evSs (Γ : Gam) (sub : Str → Str → Bool) : List Sm → Sl → Sto → Rz
  | [], τ, S => .next τ S
  | s :: ss, τ, S => (evS Γ sub s τ S).seq fun τ1 S1 => evSs Γ sub ss τ1 S1
noncomputable def evHs (Γ : Gam) (sub : Str → Str → Bool) : List (Str × List Sm) → List (Str × (Sl → Sto → Rz))
  | [] => []
  | (c, b) :: r => (c, fun τ S => evSs Γ sub b τ S) :: evHs Γ sub r
end
/-! ### defs and calls -/
structure PD where
  np : Nat
  ns : Nat
  body : List Sm
/-- what a star parameter behind p others takes -/
def pack (p : Nat) (vs : List IV) : List IV := vs.take p ++ [.tup (vs.drop p)]
def startI (d : PD) (vs : List IV) : Sl := vs.map some ++ List.replicate (d.ns - vs.length) none
def Rz.done (r : Rz) (S : Sto) : Rs IV := match r with
  | .next _ S' => .ok .non (settle S .non S')
  | .ret v S' => .ok v (settle S v S')
  | .exc c _ S' => .exc c (settle S .non S')
  | _ => .bad
structure Prg where
  defs : List (Str × PD)
  glob : List (Str × IV)
  sub : Str → Str → Bool
  att : Str → Str → Option At := fun _ _ => none
  isub : Str → Str → Bool := fun _ _ => false
  sup : Str → Str → Str → Option Str := fun _ _ _ => none
/-- the environment of a body whose calls go k deep -/
abbrev mkGam (P : Prg) (call : Str → List IV → Sto → Rs IV) : Gam := ⟨call, fun x => P.glob.lookup x, P.att, P.isub, P.sup⟩
noncomputable def run (P : Prg) : Nat → Str → List IV → Sto → Rs IV
  | 0, _, _, _ => .bad
  | k + 1, f, vs, S => match P.defs.lookup f with
    | some d => if d.np < 1000 then (if vs.length = d.np then (evSs (mkGam P (run P k)) P.sub d.body (startI d vs) S).done S else .bad)
      else (if decide (d.np - 1000 ≤ vs.length) && szOk vs.length then (evSs (mkGam P (run P k)) P.sub d.body (startI d (pack (d.np - 1000) vs)) S).done S else .bad)
    | none => .bad
end Wg
/-! WgC: how values and stores stand in the abstract heap. -/
namespace Wg
open PySem L2
/-- a tuple whose object is seen to have no dict -/
def SqN (K : PySem.W.Frag) (H : Hp) (a : Addr) (vs : List V) : Prop :=
  (∃ o : Obj, o.dict = none ∧ H a = some (.frz o (.tup vs))) ∨
    ∃ (o : Obj) (its : Array Value) (n : Nat), K.lookup a = some o ∧ o.cls = .type "tuple" ∧ o.dict = none ∧ o.data = .seq its n ∧ its.size ≤ sizeLine ∧ Vals vs its.toList
theorem SqN.toT {K : PySem.W.Frag} {H : Hp} {a : Addr} {vs : List V} (h : SqN K H a vs) : SqT K H a vs := by
  rcases h with ⟨o, _, h⟩ | ⟨o, its, n, h1, h2, _, h3, h4, h5⟩
  · exact .inl (.inr ⟨o, h⟩)
  · exact .inr ⟨o, its, n, h1, h2, h3, h4, h5⟩
theorem SqN.upd_at {K : PySem.W.Frag} {H : Hp} {a p : Addr} {u : HO} {vs : List V} (h : SqN K H a vs) (hp : ∀ o ws, H p ≠ some (.frz o (.tup ws))) : SqN K (upd H p u) a vs := by
  rcases h with ⟨o, d, h⟩ | h
  · exact .inl ⟨o, d, by rw [upd_ne (fun z => hp o vs (by rw [← z]; exact h))]; exact h⟩
  · exact .inr h
/-- its object -/
theorem SqN.ty {X : Cx} {pins : List (Addr × Obj)} {σ : L2.St} {H : Hp} {s : Shared} {a : Addr} {vs : List V} (I : L2.Inv X pins σ H s) (h : SqN X.K H a vs) :
    s.TypeIs (.ref a) "tuple" ∧ ∀ b, Value.ref a = .ref b → ∃ ob, s.heap.get? b = some ob ∧ ob.dict = none := by
  refine ⟨?_, fun b e => ?_⟩
  · obtain ⟨its, r, pl, hz⟩ := I.tuple h.toT
    exact pl.typeIs
  · cases e
    rcases h with ⟨o, d, h⟩ | ⟨o, its, n, h1, h2, d, h3, h4, h5⟩
    · exact ⟨o, (I.hok a _ h).1, d⟩
    · exact ⟨o, I.kIn a o h1, d⟩
section
variable {K : PySem.W.Frag} {ι ι' ι2 : Nat → Addr} {n n' : Nat} {H H' H2 : Hp}
mutual
def RV (K : PySem.W.Frag) (ι : Nat → Addr) (n : Nat) (H : Hp) : IV → V → Prop
  | .non, v => v = .non
  | .bl b, v => v = .bl b
  | .int i, v => v = .int i
  | .str x, v => v = .str x
  | .tup xs, v => ∃ a vs, v = .ref a ∧ SqN K H a vs ∧ RVs K ι n H xs vs
  | .ref k, v => k < n ∧ v = .ref (ι k)
  | .cls c, v => ∃ C, v = .ref C ∧ PySem.W.nsIn K mainGlobals c = some (some (.ref C))
def RVs (K : PySem.W.Frag) (ι : Nat → Addr) (n : Nat) (H : Hp) : List IV → List V → Prop
  | [], vs => vs = []
  | x :: xs, vs => ∃ v r, vs = v :: r ∧ RV K ι n H x v ∧ RVs K ι n H xs r
end
/-- a dict whose keys are tuples of ints and texts, known to its object -/
def DtP (K : PySem.W.Frag) (H : Hp) : List (List Key × V) → List (List Key × Addr × Value) → Prop := Paired fun p q => p.1 = q.1 ∧ SqN K H q.2.1 (p.1.map kV) ∧ RelV p.2 q.2.2
abbrev dtx (a : Addr) (o : Obj) : HO := .ext fun h => h.get? a = some o
def DtO (K : PySem.W.Frag) (H : Hp) (a : Addr) (ps : List (List Key × V)) : Prop :=
  ∃ (o : Obj) (es : Array DictEntry) (ep : Nat) (xs : List (List Key × Addr × Value)), H a = some (dtx a o) ∧ (a == sysModules) = false ∧ ps.length ≤ sizeLine ∧ o.ExactDict ∧ o.data = .dict es ep ∧
    (∀ (P : Program) (w : World), es.toList = xs.map (entryOfKey (tupleKind (mixKind P w)))) ∧ (xs.map (·.1)).Nodup ∧ DtP K H ps xs
theorem DtP.map {ps : List (List Key × V)} {xs : List (List Key × Addr × Value)} (h : DtP K H ps xs) (ht : ∀ a vs, SqN K H a vs → SqN K H' a vs) : DtP K H' ps xs :=
  Paired.mapP h fun _ _ z => ⟨z.1, ht _ _ z.2.1, z.2.2⟩
theorem DtO.map {a : Addr} {ps : List (List Key × V)} (h : DtO K H a ps) (hH : H' a = H a) (ht : ∀ a vs, SqN K H a vs → SqN K H' a vs) : DtO K H' a ps := by
  obtain ⟨o, es, ep, xs, h1, h2, h3, h4, h5, h6, h7, h8⟩ := h
  exact ⟨o, es, ep, xs, hH.trans h1, h2, h3, h4, h5, h6, h7, h8.map ht⟩
/-- where the classes stand -/
structure Cm where
  exc : Str → Option Addr
  ins : Str → Option Addr
  fn : Str → Option Addr
instance : CoeFun Cm (fun _ => Str → Option Addr) := ⟨Cm.exc⟩
def CellOk (K : PySem.W.Frag) (cm : Cm) (ι : Nat → Addr) (n : Nat) (H : Hp) (a : Addr) : Cell → Prop
  | .lst xs => ∃ vs, H a = some (.lst vs) ∧ RVs K ι n H xs vs
  | .frz xs => ∃ o vs, H a = some (.frz o (.lst vs)) ∧ RVs K ι n H xs vs
  | .dct kvs => ∃ ps, H a = some (.dK ps) ∧ ps.map (·.1) = kvs.map (·.1) ∧ RVs K ι n H (kvs.map (·.2)) (ps.map (·.2))
  | .dtt kvs => ∃ ps, DtO K H a ps ∧ ps.map (·.1) = kvs.map (·.1) ∧ RVs K ι n H (kvs.map (·.2)) (ps.map (·.2))
  | .ins c fs => ∃ C dx ps, H a = some (.ins C dx ps) ∧ cm.ins c = some C ∧ ps.map (·.1) = fs.map (·.1) ∧ RVs K ι n H (fs.map (·.2)) (ps.map (·.2))
structure Rel (K : PySem.W.Frag) (cm : Cm) (ι : Nat → Addr) (S : Sto) (H : Hp) : Prop where
  cell : ∀ i c, S[i]? = some c → CellOk K cm ι S.length H (ι i) c
  inj : ∀ i j, i < S.length → j < S.length → ι i = ι j → i = j
structure Step (ι : Nat → Addr) (S : Sto) (H : Hp) (ι' : Nat → Addr) (S' : Sto) (H' : Hp) : Prop where
  len : S.length ≤ S'.length
  ext : ∀ m, m < S.length → ι' m = ι m
  frm : ∀ a o, H a = some o → (∀ m, m < S.length → ι m ≠ a) → H' a = some o
  new : ∀ m, S.length ≤ m → m < S'.length → H (ι' m) = none
theorem CellOk.there {cm : Cm} {a : Addr} {c : Cell} (h : CellOk K cm ι n H a c) : ∃ o, H a = some o ∧ (∀ xs, o ≠ .tup xs) ∧ ∀ ob xs, o ≠ .frz ob (.tup xs) := by
  cases c with
  | lst xs => obtain ⟨vs, e, _⟩ := h; exact ⟨_, e, fun _ z => (nomatch z), fun _ _ z => (nomatch z)⟩
  | frz xs => obtain ⟨o, vs, e, _⟩ := h; exact ⟨_, e, fun _ z => (nomatch z), fun _ _ z => by cases z⟩
  | dct xs => obtain ⟨vs, e, _⟩ := h; exact ⟨_, e, fun _ z => (nomatch z), fun _ _ z => (nomatch z)⟩
  | ins c fs => obtain ⟨C, dx, vs, e, _⟩ := h; exact ⟨_, e, fun _ z => (nomatch z), fun _ _ z => (nomatch z)⟩
  | dtt xs => obtain ⟨ps, ⟨o, es, ep, ys, e, _⟩, _⟩ := h; exact ⟨_, e, fun _ z => (nomatch z), fun _ _ z => (nomatch z)⟩
theorem Rel.there {cm : Cm} {S : Sto} (r : Rel K cm ι S H) {m : Nat} (hm : m < S.length) : ∃ o, H (ι m) = some o ∧ (∀ xs, o ≠ .tup xs) ∧ ∀ ob xs, o ≠ .frz ob (.tup xs) :=
  (r.cell m S[m] (by simp [hm])).there
theorem Step.refl {S : Sto} : Step ι S H ι S H := ⟨Nat.le_refl _, fun _ _ => rfl, fun _ _ e _ => e, fun m a b => absurd (Nat.lt_of_lt_of_le b a) (Nat.lt_irrefl _)⟩
theorem Step.trans {cm : Cm} {S S1 S2 : Sto} (r1 : Rel K cm ι' S1 H') (a : Step ι S H ι' S1 H') (b : Step ι' S1 H' ι2 S2 H2) : Step ι S H ι2 S2 H2 := by
  refine ⟨Nat.le_trans a.len b.len, fun m hm => ?_, fun x o e hx => ?_, fun m h1 h2 => ?_⟩
  · rw [b.ext m (Nat.lt_of_lt_of_le hm a.len), a.ext m hm]
  · refine b.frm x o (a.frm x o e hx) fun m hm => ?_
    by_cases h : m < S.length
    · rw [a.ext m h]; exact hx m h
    · intro q
      have := a.new m (Nat.le_of_not_lt h) hm
      rw [q, e] at this; cases this
  · by_cases h : m < S1.length
    · rw [b.ext m h]; exact a.new m h1 h
    · have e := b.new m (Nat.le_of_not_lt h) h2
      cases q : H (ι2 m) with
      | none => rfl
      | some o =>
        by_cases hz : ∃ i, i < S.length ∧ ι i = ι2 m
        · obtain ⟨i, hi, ei⟩ := hz
          obtain ⟨o', eo, _⟩ := r1.there (Nat.lt_of_lt_of_le hi a.len)
          rw [a.ext i hi, ei, e] at eo
          cases eo
        · have := a.frm _ o q fun i hi ei => hz ⟨i, hi, ei⟩
          rw [e] at this; cases this
/-! ### what stands keeps its meaning -/
/-- a tuple is kept -/
theorem SqN.step {cm : Cm} {S S' : Sto} (r : Rel K cm ι S H) (st : Step ι S H ι' S' H') {a : Addr} {vs : List V} (h : SqN K H a vs) : SqN K H' a vs := by
  rcases h with ⟨o, d, h⟩ | h
  · refine .inl ⟨o, d, st.frm a _ h fun m hm q => ?_⟩
    obtain ⟨o', eo, n1, n2⟩ := r.there hm
    rw [q, h] at eo
    cases eo
    exact n2 _ _ rfl
  · exact .inr h
theorem SqT.step {cm : Cm} {S S' : Sto} (r : Rel K cm ι S H) (st : Step ι S H ι' S' H') {a : Addr} {vs : List V} (h : SqT K H a vs) : SqT K H' a vs := by
  have key : ∀ o, H a = some o → ((∃ xs, o = .tup xs) ∨ ∃ ob xs, o = .frz ob (.tup xs)) → H' a = some o := fun o e k => by
    refine st.frm a o e fun m hm q => ?_
    obtain ⟨o', eo, n1, n2⟩ := r.there hm
    rw [q, e] at eo
    cases eo
    rcases k with ⟨xs, k⟩ | ⟨ob, xs, k⟩
    · exact n1 xs k
    · exact n2 ob xs k
  rcases h with (h | ⟨o, h⟩) | h
  · exact .inl (.inl (key _ h (.inl ⟨_, rfl⟩)))
  · exact .inl (.inr ⟨o, key _ h (.inr ⟨_, _, rfl⟩)⟩)
  · exact .inr h
mutual
theorem RV.map {iv : IV} (ht : ∀ a vs, SqN K H a vs → SqN K H' a vs) (hi : ∀ m, m < n → ι' m = ι m) (hn : n ≤ n') : ∀ {v : V}, RV K ι n H iv v → RV K ι' n' H' iv v := by
  intro v h
  match iv, h with
  | .non, h => simpa only [RV] using h
  | .bl b, h => simpa only [RV] using h
  | .int b, h => simpa only [RV] using h
  | .str b, h => simpa only [RV] using h
  | .tup xs, h =>
    simp only [RV] at h ⊢
    obtain ⟨a, vs, e, q, r⟩ := h
    exact ⟨a, vs, e, ht a vs q, RVs.map ht hi hn r⟩
  | .cls b, h => simpa only [RV] using h
  | .ref k, h =>
    simp only [RV] at h ⊢
    exact ⟨Nat.lt_of_lt_of_le h.1 hn, by rw [hi k h.1]; exact h.2⟩
theorem RVs.map {xs : List IV} (ht : ∀ a vs, SqN K H a vs → SqN K H' a vs) (hi : ∀ m, m < n → ι' m = ι m) (hn : n ≤ n') : ∀ {vs : List V}, RVs K ι n H xs vs → RVs K ι' n' H' xs vs := by
  intro vs h
  match xs, h with
  | [], h => simpa only [RVs] using h
  | x :: xs, h =>
    simp only [RVs] at h ⊢
    obtain ⟨v, r, e, h1, h2⟩ := h
    exact ⟨v, r, e, RV.map ht hi hn h1, RVs.map ht hi hn h2⟩
end
theorem RV.step {cm : Cm} {S S' : Sto} {iv : IV} {v : V} (h : RV K ι S.length H iv v) (r : Rel K cm ι S H) (st : Step ι S H ι' S' H') : RV K ι' S'.length H' iv v :=
  h.map (fun _ _ q => SqN.step r st q) st.ext st.len
theorem RVs.step {cm : Cm} {S S' : Sto} {xs : List IV} {vs : List V} (h : RVs K ι S.length H xs vs) (r : Rel K cm ι S H) (st : Step ι S H ι' S' H') : RVs K ι' S'.length H' xs vs :=
  h.map (fun _ _ q => SqN.step r st q) st.ext st.len
/-! ### lists of related values -/
theorem RVs.length : ∀ {xs : List IV} {vs : List V}, RVs K ι n H xs vs → vs.length = xs.length
  | [], vs, h => by simp only [RVs] at h; subst h; rfl
  | x :: xs, vs, h => by
    simp only [RVs] at h
    obtain ⟨v, r, rfl, _, h2⟩ := h
    simp [RVs.length h2]
theorem RVs.nil : RVs K ι n H [] [] := by simp only [RVs]
theorem RVs.cons {x : IV} {v : V} {xs : List IV} {vs : List V} (h : RV K ι n H x v) (t : RVs K ι n H xs vs) : RVs K ι n H (x :: xs) (v :: vs) := by
  simp only [RVs]; exact ⟨v, vs, rfl, h, t⟩
theorem RVs.uncons {x : IV} {xs : List IV} {vs : List V} (h : RVs K ι n H (x :: xs) vs) : ∃ v r, vs = v :: r ∧ RV K ι n H x v ∧ RVs K ι n H xs r := by simpa only [RVs] using h
theorem RVs.append : ∀ {xs ys : List IV} {vs ws : List V}, RVs K ι n H xs vs → RVs K ι n H ys ws → RVs K ι n H (xs ++ ys) (vs ++ ws)
  | [], ys, vs, ws, h, t => by simp only [RVs] at h; subst h; exact t
  | x :: xs, ys, vs, ws, h, t => by
    obtain ⟨v, r, rfl, h1, h2⟩ := h.uncons
    exact .cons h1 (h2.append t)
theorem RVs.drop : ∀ (k : Nat) {xs : List IV} {vs : List V}, RVs K ι n H xs vs → RVs K ι n H (xs.drop k) (vs.drop k)
  | 0, _, _, h => h
  | k + 1, [], vs, h => by simp only [RVs] at h; subst h; exact .nil
  | k + 1, x :: xs, vs, h => by
    obtain ⟨v, r, rfl, h1, h2⟩ := h.uncons
    exact h2.drop k
theorem RVs.take : ∀ (k : Nat) {xs : List IV} {vs : List V}, RVs K ι n H xs vs → RVs K ι n H (xs.take k) (vs.take k)
  | 0, _, _, _ => .nil
  | k + 1, [], vs, h => by simp only [RVs] at h; subst h; exact .nil
  | k + 1, x :: xs, vs, h => by
    obtain ⟨v, r, rfl, h1, h2⟩ := h.uncons
    exact .cons h1 (h2.take k)
theorem RVs.get : ∀ {xs : List IV} {vs : List V} {i : Nat} {x : IV}, RVs K ι n H xs vs → xs[i]? = some x → ∃ v, vs[i]? = some v ∧ RV K ι n H x v
  | [], _, _, _, _, e => by simp at e
  | y :: ys, vs, 0, x, h, e => by
    obtain ⟨v, r, rfl, h1, h2⟩ := h.uncons
    simp at e; subst e
    exact ⟨v, rfl, h1⟩
  | y :: ys, vs, i + 1, x, h, e => by
    obtain ⟨v, r, rfl, h1, h2⟩ := h.uncons
    simpa using h2.get (i := i) (x := x) (by simpa using e)
theorem RVs.set {x : IV} {v : V} (hx : RV K ι n H x v) : ∀ (i : Nat) {xs : List IV} {vs : List V}, RVs K ι n H xs vs → RVs K ι n H (xs.set i x) (vs.set i v)
  | _, [], vs, h => by simp only [RVs] at h; subst h; exact .nil
  | 0, y :: ys, vs, h => by
    obtain ⟨w, r, rfl, h1, h2⟩ := h.uncons
    exact .cons hx h2
  | i + 1, y :: ys, vs, h => by
    obtain ⟨w, r, rfl, h1, h2⟩ := h.uncons
    exact .cons h1 (h2.set hx i)
theorem RVs.atI {xs : List IV} {vs : List V} {i : Int} {x : IV} (h : RVs K ι n H xs vs) (e : atI xs i = some x) : ∃ v, L2.atI vs i = some v ∧ RV K ι n H x v := by
  unfold L2.atI at e ⊢
  rw [h.length]
  cases q : ixN xs.length i with
  | none => rw [q] at e; cases e
  | some j =>
    rw [q] at e
    exact h.get e
theorem RVs.cut {xs : List IV} {vs : List V} (h : RVs K ι n H xs vs) (lo hi : Option Int) : RVs K ι n H (cutI xs lo hi) (cutV vs lo hi) := by
  unfold cutI cutV
  rw [h.length]
  exact (h.drop _).take _
/-! ### the store grows, changes -/
theorem CellOk.map {cm : Cm} {a : Addr} {c : Cell} (h : CellOk K cm ι n H a c) (hH : H' a = H a) (ht : ∀ a vs, SqN K H a vs → SqN K H' a vs) (hi : ∀ m, m < n → ι' m = ι m) (hn : n ≤ n') : CellOk K cm ι' n' H' a c := by
  cases c with
  | lst xs => obtain ⟨vs, e, r⟩ := h; exact ⟨vs, hH.trans e, r.map ht hi hn⟩
  | frz xs => obtain ⟨o, vs, e, r⟩ := h; exact ⟨o, vs, hH.trans e, r.map ht hi hn⟩
  | dct kvs => obtain ⟨ps, e, k, r⟩ := h; exact ⟨ps, hH.trans e, k, r.map ht hi hn⟩
  | ins c fs => obtain ⟨C, dx, ps, e, q, k, r⟩ := h; exact ⟨C, dx, ps, hH.trans e, q, k, r.map ht hi hn⟩
  | dtt kvs => obtain ⟨ps, d, k, r⟩ := h; exact ⟨ps, d.map hH ht, k, r.map ht hi hn⟩
theorem SqN.upd_new {p : Addr} {o : HO} (hp : H p = none) {a : Addr} {vs : List V} (h : SqN K H a vs) : SqN K (upd H p o) a vs :=
  h.upd_at fun _ _ z => by rw [hp] at z; cases z
theorem SqT.upd_new {p : Addr} {o : HO} (hp : H p = none) {a : Addr} {vs : List V} (h : SqT K H a vs) : SqT K (upd H p o) a vs := by
  rcases h with (h | ⟨ob, h⟩) | h
  · exact .inl (.inl (by rw [upd_ne (ne_of_none h hp)]; exact h))
  · exact .inl (.inr ⟨ob, by rw [upd_ne (ne_of_none h hp)]; exact h⟩)
  · exact .inr h
/-- a new thing that is not a cell -/
theorem Rel.upd_new {cm : Cm} {S : Sto} (r : Rel K cm ι S H) {p : Addr} {o : HO} (hp : H p = none) : Rel K cm ι S (upd H p o) ∧ Step ι S H ι S (upd H p o) := by
  refine ⟨⟨fun i c e => ?_, r.inj⟩, Nat.le_refl _, fun _ _ => rfl, fun a u e _ => by rw [upd_ne (ne_of_none e hp)]; exact e, fun m a b => absurd (Nat.lt_of_lt_of_le b a) (Nat.lt_irrefl _)⟩
  have h := r.cell i c e
  obtain ⟨u, eu, _⟩ := h.there
  exact h.map (by rw [upd_ne (ne_of_none eu hp)]) (fun a vs q => SqN.upd_new hp q) (fun _ _ => rfl) (Nat.le_refl _)
/-- the places with one more -/
def more (ι : Nat → Addr) (n : Nat) (p : Addr) : Nat → Addr := fun m => if m = n then p else ι m
theorem more_lt {p : Addr} {m : Nat} (h : m < n) : more ι n p m = ι m := by unfold more; rw [if_neg (by omega)]
theorem more_eq {p : Addr} : more ι n p n = p := by unfold more; rw [if_pos rfl]
/-- a new cell, its object known -/
theorem Rel.add {cm : Cm} {S : Sto} (r : Rel K cm ι S H) {p : Addr} (hp : H p = none) {o : HO} {c : Cell} (hc : CellOk K cm (more ι S.length p) (S.length + 1) (upd H p o) p c) :
    Rel K cm (more ι S.length p) (S ++ [c]) (upd H p o) ∧ Step ι S H (more ι S.length p) (S ++ [c]) (upd H p o) := by
  have hl : (S ++ [c]).length = S.length + 1 := by simp
  refine ⟨⟨fun i d e => ?_, fun i j hi hj q => ?_⟩, by rw [hl]; exact Nat.le_succ _, fun m hm => more_lt hm, fun a u e _ => by rw [upd_ne (ne_of_none e hp)]; exact e, fun m a b => ?_⟩
  · rw [hl]
    by_cases hi : i < S.length
    · rw [List.getElem?_append_left hi] at e
      have h := r.cell i d e
      obtain ⟨u, eu, _⟩ := h.there
      rw [more_lt hi]
      exact h.map (by rw [upd_ne (ne_of_none eu hp)]) (fun a vs q => SqN.upd_new hp q) (fun m hm => more_lt hm) (Nat.le_succ _)
    · have hi2 : i = S.length := by
        have := (List.getElem?_eq_some_iff.mp e).1
        rw [hl] at this; omega
      subst hi2
      rw [List.getElem?_append_right (Nat.le_refl _), Nat.sub_self] at e
      cases e
      rw [more_eq]
      exact hc
  · rw [hl] at hi hj
    have fr : ∀ m, m < S.length → ι m ≠ p := fun m hm e => by
      obtain ⟨u, eu, _⟩ := r.there hm
      rw [e, hp] at eu; cases eu
    by_cases h1 : i < S.length
    · by_cases h2 : j < S.length
      · rw [more_lt h1, more_lt h2] at q; exact r.inj i j h1 h2 q
      · have : j = S.length := by omega
        subst this
        rw [more_lt h1, more_eq] at q
        exact absurd q (fr i h1)
    · have : i = S.length := by omega
      subst this
      by_cases h2 : j < S.length
      · rw [more_lt h2, more_eq] at q
        exact absurd q.symm (fr j h2)
      · omega
  · have : m = S.length := by rw [hl] at b; omega
    subst this
    rw [more_eq]; exact hp
/-- the cell at n is changed -/
theorem Rel.put {cm : Cm} {S : Sto} (r : Rel K cm ι S H) {k : Nat} (hk : k < S.length) {o : HO} {c : Cell} (hc : CellOk K cm ι S.length (upd H (ι k) o) (ι k) c) :
    Rel K cm ι (S.set k c) (upd H (ι k) o) ∧ Step ι S H ι (S.set k c) (upd H (ι k) o) := by
  have hl : (S.set k c).length = S.length := by simp
  obtain ⟨u0, e0, n1, n2⟩ := r.there hk
  have ht : ∀ a vs, SqN K H a vs → SqN K (upd H (ι k) o) a vs := fun a vs h => h.upd_at fun ob ws z => by
    rw [e0] at z; cases z
    exact n2 _ _ rfl
  refine ⟨⟨fun i d e => ?_, fun i j hi hj q => r.inj i j (by rw [← hl]; exact hi) (by rw [← hl]; exact hj) q⟩, by rw [hl]; exact Nat.le_refl _, fun _ _ => rfl, fun a u e h => by rw [upd_ne (fun z => h k hk z.symm)]; exact e, fun m a b => ?_⟩
  · rw [hl]
    by_cases hi : i = k
    · subst hi
      rw [List.getElem?_set_self hk] at e
      cases e
      exact hc
    · rw [List.getElem?_set_ne (Ne.symm hi)] at e
      have hi2 : i < S.length := (List.getElem?_eq_some_iff.mp e).1
      exact (r.cell i d e).map (by rw [upd_ne fun z => hi (r.inj i k hi2 hk z)]) ht (fun _ _ => rfl) (Nat.le_refl _)
  · rw [hl] at b
    exact absurd (Nat.lt_of_lt_of_le b a) (Nat.lt_irrefl _)
/-! ### slots -/
def RSl (K : PySem.W.Frag) (ι : Nat → Addr) (n : Nat) (H : Hp) (τ : Sl) (σ : St) : Prop := τ.length = σ.length ∧ ∀ (i : Nat) (iv : IV), τ[i]? = some (some iv) → ∃ v, σ[i]? = some (some v) ∧ RV K ι n H iv v
theorem RSl.step {cm : Cm} {S S' : Sto} {τ : Sl} {σ : St} (h : RSl K ι S.length H τ σ) (r : Rel K cm ι S H) (st : Step ι S H ι' S' H') : RSl K ι' S'.length H' τ σ :=
  ⟨h.1, fun i iv e => by
    obtain ⟨v, q, rv⟩ := h.2 i iv e
    exact ⟨v, q, rv.step r st⟩⟩
theorem RSl.set {τ : Sl} {σ : St} (h : RSl K ι n H τ σ) {iv : IV} {v : V} (i : Nat) (rv : RV K ι n H iv v) : RSl K ι n H (τ.set i (some iv)) (σ.set i (some v)) := by
  refine ⟨by simp [h.1], fun j jv e => ?_⟩
  by_cases hj : i = j
  · subst hj
    by_cases hl : i < τ.length
    · rw [List.getElem?_set_self hl] at e
      cases e
      exact ⟨v, List.getElem?_set_self (by rw [← h.1]; exact hl), rv⟩
    · rw [List.getElem?_eq_none (by simpa using hl)] at e
      cases e
  · rw [List.getElem?_set_ne hj] at e ⊢
    exact h.2 j jv e
theorem RSl.wipe {τ : Sl} {σ : St} (h : RSl K ι n H τ σ) : ∀ vs : List Nat, RSl K ι n H (wipeI τ vs) (L2.wipe σ vs)
  | [] => h
  | v :: vs => by
    have ih := RSl.wipe h vs
    refine ⟨by simp [wipeI, L2.wipe, ih.1], fun j jv e => ?_⟩
    simp only [wipeI, L2.wipe] at e ⊢
    by_cases hj : v = j
    · subst hj
      by_cases hl : v < (wipeI τ vs).length
      · rw [List.getElem?_set_self hl] at e; cases e
      · rw [List.getElem?_eq_none (by simpa using hl)] at e; cases e
    · rw [List.getElem?_set_ne hj] at e ⊢
      exact ih.2 j jv e
end
end Wg
/-! WiJ: int(text) of any length that the machine reads; text * n. -/
namespace Wg
open PySem PySem.Spec PySem.W PyProof.Rows L2
theorem digits_none {M : Model} {A : Around} {E : Value → Shared → Prop} {s : Shared} {Q : Nat → Shared → Prop} (hn : s.heap.NoDigits) (h : Q 4300 s) : wpAny M A Builtin.intMaxStrDigits Q E s := by
  obtain ⟨mc, hns, e⟩ := hn
  unfold Builtin.intMaxStrDigits
  refine wpAny_bind (wpAny_nsGet hns ?_)
  rw [e]
  exact wpAny_pure h
theorem from_text {M : Model} {A : Around} {E : Value → Shared → Prop} {s : Shared} {Q : Value → Shared → Prop} {v : Value} {text : List Nat} {n : Int} (hd : s.heap.NoDigits)
    (hl : ¬ (text.takeWhile (· != 0)).length ≤ 640) (hr : (int_private% "readNumeral") 4300 10 (text.takeWhile (· != 0)) = (int_private% "Numeral.value") n)
    (ha : ((text.takeWhile (· != 0)).length == text.length) = true) (h : Q (.int n s.toks) { s with toks := s.toks + 1 }) :
    wpAny M A ((int_private% "intFromText") v text 10) Q E s := by
  obtain ⟨hp, g, d, tk, os⟩ := s
  repeat (any_goals first
    | assumption
    | (with_reducible refine wpAny_ite_false (decide_eq_false hl) ?_)
    | (with_reducible refine wpAny_ite_true (decide_eq_true ha) ?_)
    | (with_reducible refine digits_none hd ?_)
    | wp_step)
  all_goals (try rw [hr])
  all_goals (try dsimp only)
  repeat (any_goals first
    | assumption
    | (with_reducible refine wpAny_ite_true (decide_eq_true ha) ?_)
    | wp_step)
structure Hdn (p : Prop) : Prop where
  out : p
theorem any_text {M : Model} {A : Around} {E : Value → Shared → Prop} {s : Shared} {Q : Value → Shared → Prop} {v : Value} {x : Str} {n : Int} (hd : s.heap.NoDigits) (hz : x.length ≤ sizeLine) (hn : PySem.intText? x = some n) (h : Q (.int n s.toks) { s with toks := s.toks + 1 }) :
    wpAny M A ((int_private% "intFromText") v (numTextOf x) 10) Q E s := by
  have hr : ((numSeenOf x).length == (numTextOf x).length) = true ∧ (int_private% "readNumeral") (numLimitOf x) 10 (numSeenOf x) = (int_private% "Numeral.value") n := by
    rcases readAny x hz with ⟨m, h1, h2, h3⟩ | ⟨h1, _⟩
    · rw [hn] at h1
      injection h1 with h1
      subst h1
      exact ⟨h2, h3⟩
    · rw [hn] at h1
      cases h1
  by_cases hl : (numSeenOf x).length ≤ 640
  · have e : numLimitOf x = 0 := if_pos hl
    rw [e] at hr
    exact KIN.wp_text hl hr.2 hr.1 h
  · have e : numLimitOf x = 4300 := if_neg hl
    rw [e] at hr
    exact from_text hd hl hr.2 hr.1 h
set_option maxHeartbeats 4000000 in
theorem meets_int {x : Str} {u : Tok} {n : Int} (hz : x.length ≤ sizeLine) (hn : PySem.intText? x = some n) : Meets (Builtin.«int.__new__» ⟨[.type "int", .str x u], []⟩) (fun _ R s => s.heap.NoDigits ∧ R (.ok (.ret (.int n s.toks))) { s with toks := s.toks + 1 }) := by
  intro prog w A R s h
  obtain ⟨hp, g, d, tk, os⟩ := s
  have f1 := F.conv_sub_int; have f2 := F.madeHere_int; have f3 := KIN.str_int; have f4 := KIN.str_idx; have f5 := KIN.str_trunc
  have f6 : typeOf (.str x u) = pure (.type "str") := rfl
  have hk := Hdn.mk (And.intro hz (And.intro hn h.1))
  have hq := h.2
  clear hz hn h
  repeat (any_goals first
    | assumption
    | ((with_reducible show wpAny _ _ ((int_private% "intFromText") _ _ _) _ _ _); refine any_text (x := x) hk.out.2.2 hk.out.1 hk.out.2.1 ?_)
    | wp_step)
  all_goals first | exact hq | exact ⟨_, rfl, hq⟩ | skip
theorem call_int_any {X : Cx} (hd : PySem.W.nsIn X.K cStatics "sys.int_max_str_digits" = some none) : CallR X (.type "int") (fun xs H Q => ∃ a n, xs = [.str a] ∧ PySem.intText? a = some n ∧ a.length ≤ sizeLine ∧ Q (.int n) H) := by
  intro pins s σ H xs us Q I r h
  obtain ⟨a, n, rfl, hn, hl, h⟩ := h
  cases r with
  | cons r1 r2 =>
    cases r2
    obtain ⟨t, rfl⟩ := r1
    have nd : s.heap.NoDigits := by
      obtain ⟨mc, hns, _⟩ := I.nolimit
      exact ⟨mc, hns, ns_none_of I.kIn hns hd⟩
    exact call_int_1 (meets_int hl hn) ⟨nd, rfl, ⟨.int n, H, I.tok _, ⟨_, rfl⟩, h⟩⟩
/-- text * n -/
theorem op_mulS {X : Cx} : OpR X (binaryOp .Mult) (fun x y H Q => ∃ (a : Str) (k : Int), x = .str a ∧ y = .int k ∧ 0 ≤ k ∧ k ≤ 100000 ∧ a.length ≤ 100 ∧ Q (.str (Txt.mul a k)) H) := by
  intro pins s σ H x y v u Q I rx ry h
  obtain ⟨a, k, rfl, rfl, h0, h1, h2, q⟩ := h
  obtain ⟨t, rfl⟩ := rx
  obtain ⟨t', rfl⟩ := ry
  refine SB.mul ⟨?_, fun hk _ => ?_, fun hk _ => ?_⟩ fun t2 k2 => ⟨.str _, H, I.tok _, ⟨_, rfl⟩, q⟩
  · rw [Bool.or_eq_false_iff]
    exact ⟨decide_eq_false (by omega), decide_eq_false (by omega)⟩
  · have : (100 : Int) ≤ (2 ^ 63 - 1) / k := by
      refine Int.le_ediv_of_mul_le (by omega) ?_
      omega
    omega
  · have hm : a.length * k.toNat ≤ 100 * 100000 := Nat.mul_le_mul h2 (by omega)
    show (decide (sizeLine < a.length * k.toNat)) = false
    rw [decide_eq_false_iff_not]
    rw [sizeLine_eq]
    omega
end Wg
/-! WgD: the readings of evaluation, the operators. -/
namespace Wg
open PySem PySem.Spec PyProof.Rows L2
/-! ### what a result promises -/
section
variable {α β : Type} (K : PySem.W.Frag) (cm : Cm)
/-- RA: how the result's value stands in the heap; W: the wish about exceptions at the slots σ -/
def Out (W : WX) (ι : Nat → Addr) (S : Sto) (H : Hp) (σ : L2.St) (RA : (Nat → Addr) → Sto → Hp → α → β → Prop) (r : Rs α) (Q : β → Hp → Prop) : Prop := match r with
  | .ok a S' => ∀ ι' H' v, Step ι S H ι' S' H' → Rel K cm ι' S' H' → RA ι' S' H' a v → Q v H'
  | .exc c S' => ∀ ι' H', Step ι S H ι' S' H' → Rel K cm ι' S' H' → ∀ C, cm c = some C → W (.ref C) none σ H'
  | .bad => False
def tG (W : WX) (RA : (Nat → Addr) → Sto → Hp → α → β → Prop) (m : Sl → Sto → Rs α) : L2.St → Hp → (β → Hp → Prop) → Prop := fun σ H Q =>
  ∃ ι S τ, Rel K cm ι S H ∧ RSl K ι S.length H τ σ ∧ Out K cm W ι S H σ RA (m τ S) Q
/-- a value; several -/
def RVS : (Nat → Addr) → Sto → Hp → IV → V → Prop := fun ι S H => RV K ι S.length H
def RVSs : (Nat → Addr) → Sto → Hp → List IV → List V → Prop := fun ι S H => RVs K ι S.length H
abbrev tI (W : WX) (m : Sl → Sto → Rs IV) : TE := tG K cm W (RVS K) m
abbrev tIs (W : WX) (m : Sl → Sto → Rs (List IV)) : TA := tG K cm W (RVSs K) m
def RId {α : Type} : (Nat → Addr) → Sto → Hp → α → α → Prop := fun _ _ _ a b => a = b
abbrev tIO (W : WX) (m : Sl → Sto → Rs (Option Int)) : TO := tG K cm W RId m
end
section
variable {α β γ δ : Type} {K : PySem.W.Frag} {cm : Cm} {W : WX} {ι ι1 : Nat → Addr} {S S1 : Sto} {H H1 : Hp} {σ : L2.St} {RA : (Nat → Addr) → Sto → Hp → α → β → Prop} {RC : (Nat → Addr) → Sto → Hp → γ → δ → Prop}
theorem Out.shift {r : Rs α} {Q : β → Hp → Prop} (h : Out K cm W ι S H σ RA r Q) (r1 : Rel K cm ι1 S1 H1) (st : Step ι S H ι1 S1 H1) : Out K cm W ι1 S1 H1 σ RA r Q := by
  cases r with
  | ok a S' => exact fun ι' H' v st' => h ι' H' v (Step.trans r1 st st')
  | exc c S' => exact fun ι' H' st' => h ι' H' (Step.trans r1 st st')
  | bad => exact h
theorem Out.bindR {r : Rs α} {f : α → Sto → Rs γ} {Q : δ → Hp → Prop} {R : β → Hp → Prop} (h : Out K cm W ι S H σ RC (r.bind f) Q)
    (go : ∀ a S1 ι1 H1 v, r = .ok a S1 → Step ι S H ι1 S1 H1 → Rel K cm ι1 S1 H1 → RA ι1 S1 H1 a v → Out K cm W ι1 S1 H1 σ RC (f a S1) Q → R v H1) : Out K cm W ι S H σ RA r R := by
  cases r with
  | ok a S1 => exact fun ι1 H1 v st rl ra => go a S1 ι1 H1 v rfl st rl ra (Out.shift h rl st)
  | exc c S1 => exact h
  | bad => exact h
theorem Out.imp {r : Rs α} {Q Q' : β → Hp → Prop} (h : Out K cm W ι S H σ RA r Q) (g : ∀ v H, Q v H → Q' v H) : Out K cm W ι S H σ RA r Q' := by
  cases r with
  | ok a S1 => exact fun ι1 H1 v st rl ra => g _ _ (h ι1 H1 v st rl ra)
  | exc c S1 => exact h
  | bad => exact h
/-- one after the other -/
theorem tG.bind {m : Sl → Sto → Rs α} {f : Sl → α → Sto → Rs γ} {Q : δ → Hp → Prop} {R : β → Hp → Prop} (h : tG K cm W RC (fun τ S => (m τ S).bind (f τ)) σ H Q)
    (go : ∀ ι1 S1 H1 τ a v, Rel K cm ι1 S1 H1 → RSl K ι1 S1.length H1 τ σ → RA ι1 S1 H1 a v → Out K cm W ι1 S1 H1 σ RC (f τ a S1) Q → R v H1) : tG K cm W RA m σ H R := by
  obtain ⟨ι, S, τ, rl, rs, o⟩ := h
  exact ⟨ι, S, τ, rl, rs, Out.bindR o fun a S1 ι1 H1 v _ st r1 ra o1 => go ι1 S1 H1 τ a v r1 (rs.step rl st) ra o1⟩
end
theorem PE.weak {X : Cx} {e : Expr} {t t' : TE} (h : PE X e t) (g : ∀ σ H Q, t' σ H Q → t σ H Q) : PE X e t' := ⟨fun pins s σ H Q I q => h.run pins s σ H Q I (g σ H Q q)⟩
theorem PT.weak {X : Cx} {e : Expr} {t t' : TT} (h : PT X e t) (g : ∀ σ H Q, t' σ H Q → t σ H Q) : PT X e t' := ⟨fun pins s σ H Q I q => h.run pins s σ H Q I (g σ H Q q)⟩
theorem PA.weak {X : Cx} {e : List Expr} {t t' : TA} (h : PA X e t) (g : ∀ σ H Q, t' σ H Q → t σ H Q) : PA X e t' := ⟨fun pos pins s σ H Q I q => h.run pos pins s σ H Q I (g σ H Q q)⟩
theorem PO.weak {X : Cx} {e : Option Expr} {t t' : TO} (h : PO X e t) (g : ∀ σ H Q, t' σ H Q → t σ H Q) : PO X e t' := ⟨fun pins s σ H Q I q => h.run pins s σ H Q I (g σ H Q q)⟩
theorem PS.weak {X : Cx} {e : Stmt} {t t' : TS} (h : PS X e t) (g : ∀ D σ H, t' D σ H → t D σ H) : PS X e t' := ⟨fun pins s σ H D I q => h.run pins s σ H D I (g D σ H q)⟩
theorem PSs.weak {X : Cx} {e : List Stmt} {t t' : TS} (h : PSs X e t) (g : ∀ D σ H, t' D σ H → t D σ H) : PSs X e t' := ⟨fun pins s σ H D I q => h.run pins s σ H D I (g D σ H q)⟩
/-! ### operators by values -/
section
variable (K : PySem.W.Frag) (cm : Cm)
/-- no exception: the value, or nothing -/
def OutV (ι : Nat → Addr) (S : Sto) (H : Hp) (r : Rs IV) (Q : VK) : Prop := match r with
  | .ok a S' => ∀ ι' H' v, Step ι S H ι' S' H' → Rel K cm ι' S' H' → RV K ι' S'.length H' a v → Q v H'
  | _ => False
def rI2 (f : IV → IV → Sto → Rs IV) : R2 := fun x y H Q => ∃ ι S a b, Rel K cm ι S H ∧ RV K ι S.length H a x ∧ RV K ι S.length H b y ∧ OutV K cm ι S H (f a b S) Q
def rI1 (f : IV → Sto → Rs IV) : V → Hp → VK → Prop := fun x H Q => ∃ ι S a, Rel K cm ι S H ∧ RV K ι S.length H a x ∧ OutV K cm ι S H (f a S) Q
def rIl (f : List IV → Sto → Rs IV) : List V → Hp → VK → Prop := fun xs H Q => ∃ ι S a, Rel K cm ι S H ∧ RVs K ι S.length H a xs ∧ OutV K cm ι S H (f a S) Q
end
section
variable {K : PySem.W.Frag} {cm : Cm} {W : WX} {ι : Nat → Addr} {S : Sto} {H : Hp} {σ : L2.St} {Q : VK}
theorem OutV.of {r : Rs IV} (h : Out K cm W ι S H σ (RVS K) r Q) (n : ∀ c S', r ≠ .exc c S') : OutV K cm ι S H r Q := by
  cases r with
  | ok a S1 => exact h
  | exc c S1 => exact absurd rfl (n c S1)
  | bad => exact h
/-- the value as it stands -/
theorem OutV.here {a : IV} {v : V} (h : OutV K cm ι S H (.ok a S) Q) (r : Rel K cm ι S H) (rv : RV K ι S.length H a v) : Q v H := h ι H v Step.refl r rv
/-- a tuple just laid -/
theorem OutV.tup {xs : List IV} {vs : List V} (h : OutV K cm ι S H (.ok (.tup xs) S) Q) (r : Rel K cm ι S H) (rv : RVs K ι S.length H xs vs) : ∀ (p : Addr) (o : Obj), H p = none → o.dict = none → Q (.ref p) (upd H p (.frz o (.tup vs))) := fun p o hp hd => by
  obtain ⟨r1, st⟩ := r.upd_new (o := .frz o (.tup vs)) hp
  refine h ι _ _ st r1 ?_
  simp only [RV]
  exact ⟨p, vs, rfl, .inl ⟨o, hd, upd_same⟩, rv.step r st⟩
/-- a list just laid -/
theorem OutV.lst {xs : List IV} {vs : List V} (h : OutV K cm ι S H (alloc (.lst xs) S) Q) (r : Rel K cm ι S H) (rv : RVs K ι S.length H xs vs) : ∀ p, H p = none → Q (.ref p) (upd H p (.lst vs)) := fun p hp => by
  have rv2 : RVs K (more ι S.length p) (S.length + 1) (upd H p (.lst vs)) xs vs := rv.map (fun a vs q => SqN.upd_new hp q) (fun m hm => more_lt hm) (Nat.le_succ _)
  obtain ⟨r1, st⟩ := r.add (o := .lst vs) (c := .lst xs) hp ⟨vs, upd_same, rv2⟩
  refine h _ _ _ st r1 ?_
  simp only [RV]
  exact ⟨by simp, by rw [more_eq]⟩
/-- the items of a list or tuple that is read -/
theorem items_okN {a : IV} {x : V} {xs : List IV} (r : Rel K cm ι S H) (rv : RV K ι S.length H a x) (e : itemsI a S = some xs) : ∃ p vs, x = .ref p ∧ (SqL K H p vs ∨ SqN K H p vs) ∧ RVs K ι S.length H xs vs := by
  cases a with
  | tup ys =>
    simp only [itemsI, Option.some.injEq] at e
    subst e
    simp only [RV] at rv
    obtain ⟨p, vs, e1, e2, e3⟩ := rv
    exact ⟨p, vs, e1, .inr e2, e3⟩
  | ref k =>
    simp only [RV] at rv
    obtain ⟨hk, rfl⟩ := rv
    simp only [itemsI] at e
    cases q : S[k]? with
    | none => rw [q] at e; cases e
    | some c =>
      rw [q] at e
      have hc := r.cell k c q
      cases c with
      | lst ys => cases e; obtain ⟨vs, e1, e2⟩ := hc; exact ⟨_, vs, rfl, .inl (.inl (.inl e1)), e2⟩
      | frz ys => cases e; obtain ⟨o, vs, e1, e2⟩ := hc; exact ⟨_, vs, rfl, .inl (.inl (.inr ⟨o, e1⟩)), e2⟩
      | dct kvs => cases e
      | ins c fs => cases e
      | dtt kvs => cases e
  | non => cases e
  | bl b => cases e
  | int i => cases e
  | str z => cases e
  | cls z => cases e
theorem items_ok {a : IV} {x : V} {xs : List IV} (r : Rel K cm ι S H) (rv : RV K ι S.length H a x) (e : itemsI a S = some xs) : ∃ p vs, x = .ref p ∧ (SqL K H p vs ∨ SqT K H p vs) ∧ RVs K ι S.length H xs vs := by
  obtain ⟨p, vs, h1, h2, h3⟩ := items_okN r rv e
  exact ⟨p, vs, h1, h2.imp id SqN.toT, h3⟩
theorem lst_ok {k : Nat} {x : V} {xs : List IV} (r : Rel K cm ι S H) (rv : RV K ι S.length H (.ref k) x) (e : S[k]? = some (.lst xs)) : ∃ vs, x = .ref (ι k) ∧ H (ι k) = some (.lst vs) ∧ RVs K ι S.length H xs vs := by
  simp only [RV] at rv
  obtain ⟨hk, rfl⟩ := rv
  obtain ⟨vs, e1, e2⟩ := r.cell k _ e
  exact ⟨vs, rfl, e1, e2⟩
end
def bOp : Bop → Operator
  | .add => .Add
  | .sub => .Sub
  | .mul => .Mult
  | .fdiv => .FloorDiv
  | .mod => .Mod
  | .pow => .Pow
theorem sz_le {n : Nat} (h : szOk n = true) : n ≤ sizeLine := by
  have : n ≤ 16777216 := by simpa [szOk] using h
  rw [sizeLine_eq]; omega
section
variable {X : Cx} {cm : Cm}
theorem op_fdivA : OpR X (binaryOp .FloorDiv) (rI (fun _ j => j ≠ 0 ∧ j.natAbs.log2 < 9000) fun i j => .int (i.fdiv j)) :=
  opI fun i j _ _ _ _ _ hc q => floordiv_int hc.1 q (.inl (PyProof.noPylong_of_log2 hc.2))
theorem RVs.rep {K : PySem.W.Frag} {ι : Nat → Addr} {n : Nat} {H : Hp} {xs : List IV} {vs : List V} (h : RVs K ι n H xs vs) : ∀ k : Nat, RVs K ι n H (repL xs k) (List.replicate k vs).flatten
  | 0 => .nil
  | k + 1 => by
    unfold repL
    rw [List.replicate_succ, List.replicate_succ, List.flatten_cons, List.flatten_cons]
    exact h.append (RVs.rep h k)
set_option maxRecDepth 100000 in
set_option maxHeartbeats 4000000 in
theorem tuple_mul1 (l : Addr) (items : Array Value) (n : Nat) (dd : Option Addr) (sl : Array (Option Value)) (u : Tok) :
    Meets (Builtin.«tuple.__mul__» ⟨[.ref l, .int 1 u], []⟩) (fun _ R s => s.heap.get? l = some { cls := .type "tuple", dict := dd, data := .seq items n, slots := sl } ∧ R (.ok (.ret (Value.ref l))) s) :=
  .of_wp fun prog w A R s h => by
    obtain ⟨hp, g, d, tk, os⟩ := s
    obtain ⟨hl, h⟩ := h
    have f1 := AutoSeq1.idx_int
    wp_walk using wpAny_loadPart' hl
    exact ⟨_, rfl, h⟩
def rRep1 (K : PySem.W.Frag) : R2 := fun x y H Q => ∃ l xs, x = .ref l ∧ y = .int 1 ∧ SqT K H l xs ∧ Q (.ref l) H
theorem op_rep1 : OpR X (binaryOp .Mult) (rRep1 X.K) := by
  intro pins s σ H x y v u Q I rx ry h
  obtain ⟨l, xs, rfl, rfl, hT, q⟩ := h
  cases rx
  obtain ⟨t, rfl⟩ := ry
  obtain ⟨its, r, ⟨⟨cls, dd, data, sl⟩, ho, hc, n, hd⟩, hs⟩ := I.tuple hT
  simp only at hc hd
  subst hc hd
  refine wpAny_binaryOp_repeat_ref (T := "tuple") (U := "int") (by decide) ⟨_, ho, rfl⟩ (fun s' => typeIs_int s' 1 t) noFill_tuple_mul F.fills_int_mul F.slot_int_rmul repeat_tuple F.slot_int_index.lookup
    (call_meets F.slot_int_rmul (typeIs_int s 1 t) F.entry_int_rmul (F.args_int_rmul_2 _ _) (int_rmul_tuple 1 t l its.toArray n dd sl)
      ⟨ho, rfl, ⟨_, ho, rfl⟩, call_meets F.slot_tuple_mul ⟨_, ho, rfl⟩ F.entry_tuple_mul (F.args_tuple_mul_2 _ _) (tuple_mul1 l its.toArray n dd sl t) ⟨ho, ?_⟩⟩)
  exact ⟨.ref l, H, I, rfl, q⟩
/-- a tuple's new object, seen whole -/
def tObj (us : List Value) : Obj := { cls := .type "tuple", data := .seq us.toArray }
theorem tNew {pins : List (Addr × Obj)} {σ : L2.St} {H : Hp} {s : Shared} {us : List Value} {vs : List V} (I : L2.Inv X pins σ H s) (r : Vals vs us) (hz : vs.length ≤ sizeLine) :
    L2.Inv X pins σ (upd H s.heap.objs.size (.frz (tObj us) (.tup vs))) { s with heap := s.heap.push (tObj us) } ∧ H s.heap.objs.size = none := by
  have hg : (s.heap.push (tObj us)).get? s.heap.objs.size = some (tObj us) := Heap.get?_push_size _ rfl
  refine ⟨I.laid (t' := s.toks) (fun b ob q => Heap.get?_push_of_some _ q) (Nat.le_refl _) ⟨hg, hz, us, r, ⟨_, hg, rfl, _, rfl⟩⟩, I.hok.fresh (Nat.le_refl _)⟩
def rCatN (K : PySem.W.Frag) : R2 := fun x y H Q => ∃ a b xs ys, x = .ref a ∧ y = .ref b ∧ SqT K H a xs ∧ SqT K H b ys ∧ xs.length + ys.length ≤ sizeLine ∧
  (xs = [] → Q (.ref b) H) ∧ (xs ≠ [] → ys = [] → Q (.ref a) H) ∧ ∀ (p : Addr) (o : Obj), H p = none → o.dict = none → Q (.ref p) (upd H p (.frz o (.tup (xs ++ ys))))
theorem op_catN : OpR X (binaryOp .Add) (rCatN X.K) := by
  intro pins s σ H x y v u Q I rx ry ⟨a, b, xs, ys, ex, ey, ha, hb, hz, q0, q1, q2⟩
  subst ex ey
  cases rx; cases ry
  obtain ⟨its, w1, p1, _⟩ := I.tuple ha
  obtain ⟨its2, w2, p2, _⟩ := I.tuple hb
  by_cases hx : xs = []
  · subst hx
    cases w1
    exact cat_tup0 p1 p2 ⟨.ref b, H, I, rfl, q0 rfl⟩
  · refine HT.cat_tup p1 p2 (fun z => hx (w1.nil_iff.mp z)) (fun z => ⟨.ref a, H, I, rfl, q1 hx (w2.nil_iff.mp z)⟩) (fun z => ?_) (by rw [← w1.length, ← w2.length]; exact hz)
    obtain ⟨I2, hf⟩ := tNew I (w1.append w2) (by rw [List.length_append]; exact hz)
    exact ⟨.ref _, _, I2, rfl, q2 _ _ hf rfl⟩
def rRepN (K : PySem.W.Frag) : R2 := fun x y H Q => ∃ l k xs, x = .ref l ∧ y = .int k ∧ SqT K H l xs ∧ xs ≠ [] ∧ 2 ≤ k ∧ k ≤ 1000 ∧ xs.length ≤ 1000 ∧
  ∀ (p : Addr) (o : Obj), H p = none → o.dict = none → Q (.ref p) (upd H p (.frz o (.tup (List.replicate k.toNat xs).flatten)))
theorem op_repN : OpR X (binaryOp .Mult) (rRepN X.K) := by
  intro pins s σ H x y v u Q I rx ry ⟨l, k, xs, ex, ey, hT, hne, k1, k2, hz, q⟩
  subst ex ey
  cases rx
  obtain ⟨t, rfl⟩ := ry
  obtain ⟨its, w, ⟨⟨cls, dd, data, sl⟩, ho, hc, n, hd⟩, hs⟩ := I.tuple hT
  simp only at hc hd
  subst hc hd
  have hle := w.length
  have ie : its.toArray.isEmpty = false := by
    cases its with
    | nil => exact absurd (List.eq_nil_of_length_eq_zero hle) hne
    | cons a b => rfl
  have kp : k.toNat * xs.length ≤ 1000 * 1000 := Nat.mul_le_mul (by omega) hz
  have fl : (List.replicate k.toNat its).flatten.length ≤ sizeLine := by rw [PyProof.Rows.lm_len_rep_flat, ← hle, sizeLine_eq]; omega
  have sz : ((its.toArray.size : Nat) : Int) * k ≤ 1000000 := by
    rw [List.size_toArray, ← hle]
    have : ((xs.length : Nat) : Int) * k ≤ 1000 * k := Int.mul_le_mul_of_nonneg_right (by omega) (by omega)
    omega
  have d0 : (decide (k < -(2 ^ 63)) || decide (k ≥ 2 ^ 63)) = false := by simp only [Bool.or_eq_false_iff, decide_eq_false_iff_not]; omega
  have d1 : (its.toArray.isEmpty || k == 1) = false := by rw [ie]; exact beq_eq_false_iff_ne.mpr (by omega)
  have d2 : (decide (k ≤ 0) || its.toArray.isEmpty) = false := by rw [ie, Bool.or_false]; exact decide_eq_false (by omega)
  have d4 : Builtin.Tuple.tupleTooMany (((its.toArray.size : Nat) : Int) * k) = false := by
    unfold Builtin.Tuple.tupleTooMany
    rw [sizeLine_eq]; exact decide_eq_false (by omega)
  have mw := tuple_mulW l its.toArray n dd sl k t d0 d1 d2 (by omega) d4 (by rw [size_rep, List.size_toArray]; exact fl)
  refine wpAny_binaryOp_repeat_ref (T := "tuple") (U := "int") (by decide) ⟨_, ho, rfl⟩ (fun s' => typeIs_int s' k t) noFill_tuple_mul F.fills_int_mul F.slot_int_rmul repeat_tuple F.slot_int_index.lookup
    (call_meets F.slot_int_rmul (typeIs_int s k t) F.entry_int_rmul (F.args_int_rmul_2 _ _) (int_rmul_tuple k t l its.toArray n dd sl)
      ⟨ho, rfl, ⟨_, ho, rfl⟩, call_meets F.slot_tuple_mul ⟨_, ho, rfl⟩ F.entry_tuple_mul (F.args_tuple_mul_2 _ _) mw ⟨ho, ?_⟩⟩)
  rw [size_rep]
  obtain ⟨I2, hf⟩ := tNew I (w.rep k.toNat) (by rw [PyProof.Rows.lm_len_rep_flat, sizeLine_eq]; omega)
  exact ⟨.ref _, _, I2, rfl, q _ _ hf rfl⟩
/-- all binary operators -/
theorem op_bin (o : Bop) : OpR X (binaryOp (bOp o)) (rI2 X.K cm (binI o)) := by
  intro pins s σ H x y v u Q I rx ry h
  obtain ⟨ι, S, a, b, rl, ra, rb, q⟩ := h
  unfold binI at q
  split at q
  · simp only [RV] at ra rb; subst ra rb
    exact op_add pins s σ H _ _ v u Q I rx ry ⟨_, _, rfl, rfl, q.here rl (by simp only [RV])⟩
  · simp only [RV] at ra rb; subst ra rb
    exact op_sub pins s σ H _ _ v u Q I rx ry ⟨_, _, rfl, rfl, q.here rl (by simp only [RV])⟩
  · simp only [RV] at ra rb; subst ra rb
    split at q
    · rename_i hm
      simp only [mulOk, Bool.or_eq_true, decide_eq_true_eq] at hm
      rcases hm with (hm | hm) | hm
      · exact op_mulW pins s σ H _ _ v u Q I rx ry ⟨_, _, rfl, rfl, by simpa [CMulW] using hm, q.here rl (by simp only [RV])⟩
      · exact op_mul pins s σ H _ _ v u Q I rx ry ⟨_, _, rfl, rfl, .inl ⟨by omega, by omega⟩, q.here rl (by simp only [RV])⟩
      · exact op_mul pins s σ H _ _ v u Q I rx ry ⟨_, _, rfl, rfl, .inr ⟨by omega, by omega⟩, q.here rl (by simp only [RV])⟩
    · exact q.elim
  · simp only [RV] at ra rb; subst ra rb
    split at q
    · rename_i hm
      exact op_fdivA pins s σ H _ _ v u Q I rx ry ⟨_, _, rfl, rfl, by simpa [divOk] using hm, q.here rl (by simp only [RV])⟩
    · exact q.elim
  · simp only [RV] at ra rb; subst ra rb
    split at q
    · exact q.elim
    · rename_i hm
      exact op_modN pins s σ H _ _ v u Q I rx ry ⟨_, _, rfl, rfl, hm, q.here rl (by simp only [RV])⟩
  · simp only [RV] at ra rb; subst ra rb
    split at q
    · rename_i hm
      exact op_pow pins s σ H _ _ v u Q I rx ry ⟨_, _, rfl, rfl, by simpa [powOk, CPow, and_assoc] using hm, q.here rl (by simp only [RV])⟩
    · exact q.elim
  · simp only [RV] at ra rb; subst ra rb
    split at q
    · rename_i hm
      exact op_add_str pins s σ H _ _ v u Q I rx ry ⟨_, _, rfl, rfl, sz_le hm, q.here rl (by simp only [RV])⟩
    · exact q.elim
  · simp only [RV] at ra rb
    obtain ⟨p, vs, rfl, h1, h2⟩ := ra
    obtain ⟨p', ws, rfl, h3, h4⟩ := rb
    split at q
    · rename_i x1 y1 hm
      refine op_catN pins s σ H _ _ v u Q I rx ry ⟨_, _, vs, ws, rfl, rfl, h1.toT, h3.toT, by rw [h2.length, h4.length]; exact sz_le hm, fun e => ?_, fun e e' => ?_, q.tup rl (h2.append h4)⟩
      · have : x1 = [] := List.length_eq_zero_iff.mp (by rw [← h2.length, e]; rfl)
        subst this
        exact q.here rl (by simp only [RV, List.nil_append]; exact ⟨_, _, rfl, h3, h4⟩)
      · have : y1 = [] := List.length_eq_zero_iff.mp (by rw [← h4.length, e']; rfl)
        subst this
        exact q.here rl (by simp only [RV, List.append_nil]; exact ⟨_, _, rfl, h1, h2⟩)
    · exact q.elim
  · split at q
    · rename_i m n x1 y1 e1 e2
      obtain ⟨vs, rfl, h1, h2⟩ := lst_ok rl ra e1
      obtain ⟨ws, rfl, h3, h4⟩ := lst_ok rl rb e2
      split at q
      · rename_i hm
        exact op_cat pins s σ H _ _ v u Q I rx ry ⟨_, _, vs, ws, rfl, rfl, h1, h3, by rw [h2.length, h4.length]; exact sz_le hm, q.lst rl (h2.append h4)⟩
      · exact q.elim
    · exact q.elim
  · split at q
    · rename_i m j x1 e1
      obtain ⟨vs, rfl, h1, h2⟩ := lst_ok rl ra e1
      simp only [RV] at rb; subst rb
      split at q
      · rename_i hm
        simp only [Bool.and_eq_true, decide_eq_true_eq] at hm
        obtain ⟨⟨hm1, hm2⟩, hm3⟩ := hm
        exact op_rep pins s σ H _ _ v u Q I rx ry ⟨_, _, vs, rfl, rfl, h1, by omega, by omega, by rw [h2.length]; exact sz_le hm3, q.lst rl (h2.rep _)⟩
      · exact q.elim
    · exact q.elim
  · simp only [RV] at ra rb; subst ra rb
    split at q
    · rename_i hm
      simp only [Bool.and_eq_true, decide_eq_true_eq] at hm
      exact op_mulS pins s σ H _ _ v u Q I rx ry ⟨_, _, rfl, rfl, hm.1.1, hm.1.2, hm.2, q.here rl (by simp only [RV])⟩
    · exact q.elim
  · rename_i xs j
    split at q
    · rename_i hm
      simp only [Bool.and_eq_true, decide_eq_true_eq, Bool.not_eq_true'] at hm
      obtain ⟨⟨⟨hm1, hm2⟩, hm3⟩, hm4⟩ := hm
      simp only [RV] at ra rb
      subst rb
      obtain ⟨p, vs, rfl, h1, h2⟩ := ra
      by_cases hj : j = 1
      · subst hj
        refine op_rep1 pins s σ H _ _ v u Q I rx ry ⟨p, vs, rfl, rfl, h1.toT, q.here rl ?_⟩
        have : repL xs (1 : Int).toNat = xs := by simp [repL]
        rw [this]
        simp only [RV]
        exact ⟨p, vs, rfl, h1, h2⟩
      · refine op_repN pins s σ H _ _ v u Q I rx ry ⟨p, j, vs, rfl, rfl, h1.toT, fun e => ?_, by omega, hm2, by rw [h2.length]; exact hm3, q.tup rl (h2.rep _)⟩
        have := h2.length
        rw [e] at this
        cases xs with
        | nil => simp at hm4
        | cons => simp at this
    · exact q.elim
  · exact q.elim
theorem op_neg : UnR X (unaryOp .USub) (rI1 X.K cm negI) := by
  intro pins s σ H x v Q I rx h
  obtain ⟨ι, S, a, rl, ra, q⟩ := h
  unfold negI at q
  split at q
  · simp only [RV] at ra; subst ra
    exact un_neg pins s σ H _ v Q I rx ⟨_, rfl, q.here rl (by simp only [RV])⟩
  · exact q.elim
end
end Wg
/-! WgE: data that is read whole; comparisons, subscripts, built-ins by values. -/
namespace Wg
open PySem PySem.Spec PyProof.Rows L2
/-! ### a value as data of the heap -/
section
variable {X : Cx} {cm : Cm} {pins : List (Addr × Obj)} {σ : L2.St} {H : Hp} {s : Shared} {ι : Nat → Addr} {S : Sto}
/-- what a reference gives -/
def RefOk (s : Shared) (ι : Nat → Addr) (n : Nat) (r : Nat → Option PyData) : Prop := ∀ k d, k < n → r k = some d → ∃ as, Reads s.heap (.ref (ι k)) d as ∧ (hasL d = false → sysModules ∉ as)
mutual
theorem goD_reads (I : Inv X pins σ H s) {r : Nat → Option PyData} (hr : RefOk s ι S.length r) : ∀ (a : IV) (x : V) (u : Value) (d : PyData), RV X.K ι S.length H a x → RelV x u → goD r a = some d → ∃ as, Reads s.heap u d as ∧ (hasL d = false → sysModules ∉ as)
  | .non, x, u, d, h, q, e => by
    simp only [RV] at h; subst h; simp only [goD, Option.some.injEq] at e; subst e
    cases (show u = Value.none from q)
    exact ⟨_, Reads.none, by simp⟩
  | .bl b, x, u, d, h, q, e => by
    simp only [RV] at h; subst h; simp only [goD, Option.some.injEq] at e; subst e
    cases (show u = Value.bool b from q)
    exact ⟨_, Reads.bool b, by simp⟩
  | .int i, x, u, d, h, q, e => by
    simp only [RV] at h; subst h; simp only [goD, Option.some.injEq] at e; subst e
    obtain ⟨t, rfl⟩ := (show ∃ t, u = Value.int i t from q)
    exact ⟨_, Reads.int i t, by simp⟩
  | .str z, x, u, d, h, q, e => by
    simp only [RV] at h; subst h; simp only [goD, Option.some.injEq] at e; subst e
    obtain ⟨t, rfl⟩ := (show ∃ t, u = Value.str z t from q)
    exact ⟨_, Reads.str z t, by simp⟩
  | .tup xs, x, u, d, h, q, e => by
    simp only [RV] at h
    obtain ⟨p, vs, rfl, h1, h2⟩ := h
    cases (show u = Value.ref p from q)
    simp only [goD] at e
    cases q2 : goDs r xs with
    | none => rw [q2] at e; cases e
    | some ds =>
      rw [q2] at e; cases e
      obtain ⟨its, rv, ⟨o, ho, hc, n, hd⟩, _⟩ := I.tuple h1.toT
      obtain ⟨as, hr2, hn⟩ := goDs_reads I hr xs vs its ds h2 rv q2
      exact ⟨as, Reads.tuple ho hc hd hr2, fun z => hn (by simpa only [hasL] using z)⟩
  | .cls k, x, u, d, h, q, e => by simp [goD] at e
  | .ref k, x, u, d, h, q, e => by
    simp only [RV] at h
    obtain ⟨hk, rfl⟩ := h
    cases (show u = Value.ref (ι k) from q)
    exact hr k d hk (by simpa only [goD] using e)
theorem goDs_reads (I : Inv X pins σ H s) {r : Nat → Option PyData} (hr : RefOk s ι S.length r) : ∀ (xs : List IV) (vs : List V) (us : List Value) (ds : List PyData), RVs X.K ι S.length H xs vs → Vals vs us → goDs r xs = some ds → ∃ as, ReadsAll s.heap us ds as ∧ (hasLs ds = false → sysModules ∉ as)
  | [], vs, us, ds, h, q, e => by
    simp only [RVs] at h; subst h
    cases q
    simp only [goDs, Option.some.injEq] at e; subst e
    exact ⟨_, ReadsAll.nil, by simp⟩
  | x :: xs, vs, us, ds, h, q, e => by
    obtain ⟨v, w, rfl, h1, h2⟩ := h.uncons
    cases q with
    | cons q1 q2 =>
      simp only [goDs] at e
      cases e1 : goD r x with
      | none => rw [e1] at e; cases e
      | some d =>
        rw [e1] at e
        cases e2 : goDs r xs with
        | none => rw [e2] at e; cases e
        | some es =>
          rw [e2] at e; cases e
          obtain ⟨as, r1, n1⟩ := goD_reads I hr x v _ d h1 q1 e1
          obtain ⟨bs, r2, n2⟩ := goDs_reads I hr xs w _ es h2 q2 e2
          refine ⟨_, ReadsAll.cons r1 r2, fun z => ?_⟩
          simp only [hasLs, Bool.or_eq_false_iff] at z
          rw [List.mem_append]; exact fun y => y.elim (n1 z.1) (n2 z.2)
end
theorem keys_reads {P : Program} {w : World} {h : Heap} : ∀ {es : List DictEntry} {ps : List (Key × Value)}, Pairs (mixKind P w) es ps → ReadsAll h (es.map (·.key)) (ps.map fun p => kD p.1) [] ∧ es.map (·.val) = ps.map (·.2)
  | [], [], .nil => ⟨ReadsAll.nil, rfl⟩
  | e :: es, p :: ps, .cons h1 h2 h3 => by
    obtain ⟨r, q⟩ := keys_reads (h := h) h3
    refine ⟨?_, by simp [h2, q]⟩
    rcases keyIs_shape (k := p.1) (v := e.key) h1 with ⟨i, t, e1, e2⟩ | ⟨x, t, e1, e2⟩
    · simp only [List.map_cons, e1, e2, kD]
      exact ReadsAll.cons (as := []) (bs := []) (Reads.int i t) r
    · simp only [List.map_cons, e1, e2, kD]
      exact ReadsAll.cons (as := []) (bs := []) (Reads.str x t) r
theorem kv_vals : ∀ {kvs : List (Key × V)} {ws : List (Key × Value)}, KV kvs ws → Vals (kvs.map (·.2)) (ws.map (·.2)) ∧ ws.map (·.1) = kvs.map (·.1)
  | [], [], .nil => ⟨.nil, rfl⟩
  | p :: kvs, q :: ws, .cons h t => by
    obtain ⟨a, b⟩ := kv_vals t
    exact ⟨.cons h.2 a, by simp [h.1, b]⟩
theorem zip_two {α β : Type} : ∀ (a : List α) (b : List β), a.length = b.length → (a.zip b).map (·.1) = a ∧ (a.zip b).map (·.2) = b
  | [], [], _ => ⟨rfl, rfl⟩
  | x :: a, y :: b, h => by
    obtain ⟨h1, h2⟩ := zip_two a b (by simpa using h)
    exact ⟨by simp [h1], by simp [h2]⟩
theorem goDs_length {r : Nat → Option PyData} : ∀ {xs : List IV} {ds : List PyData}, goDs r xs = some ds → ds.length = xs.length
  | [], ds, e => by simp only [goDs, Option.some.injEq] at e; subst e; rfl
  | x :: xs, ds, e => by
    simp only [goDs] at e
    cases e1 : goD r x with
    | none => rw [e1] at e; cases e
    | some d =>
      rw [e1] at e
      cases e2 : goDs r xs with
      | none => rw [e2] at e; cases e
      | some es => rw [e2] at e; cases e; simp [goDs_length e2]
theorem hasLk_eq : ∀ kvs : List (PyData × PyData), hasLk kvs = hasLs (kvs.map (·.2))
  | [] => rfl
  | (k, v) :: r => by simp only [hasLk, List.map_cons, hasLs, hasLk_eq r]
theorem refs_ok (I : Inv X pins σ H s) (rl : Rel X.K cm ι S H) : ∀ d : Nat, RefOk s ι S.length (refs d S)
  | 0 => fun k e _ q => by simp [refs] at q
  | d + 1 => fun k e hk q => by
    have ih := refs_ok I rl d
    simp only [refs, refD] at q
    split at q
    · rename_i xs hc
      obtain ⟨vs, e1, e2⟩ := rl.cell k _ hc
      cases q2 : goDs (refs d S) xs with
      | none => rw [q2] at q; cases q
      | some ds =>
        rw [q2] at q; cases q
        obtain ⟨its, rv, ⟨o, n, ho, hcl, _, hd⟩, _⟩ := I.list (.inl (.inl e1))
        obtain ⟨as, hr2, hn⟩ := goDs_reads I ih xs vs its ds e2 rv q2
        exact ⟨_, Reads.list ho hcl hd hr2, fun z => by simp [hasL] at z⟩
    · rename_i xs hc
      obtain ⟨ob, vs, e1, e2⟩ := rl.cell k _ hc
      cases q2 : goDs (refs d S) xs with
      | none => rw [q2] at q; cases q
      | some ds =>
        rw [q2] at q; cases q
        obtain ⟨its, rv, ⟨o, n, ho, hcl, _, hd⟩, _⟩ := I.list (.inl (.inr ⟨ob, e1⟩))
        obtain ⟨as, hr2, hn⟩ := goDs_reads I ih xs vs its ds e2 rv q2
        exact ⟨_, Reads.list ho hcl hd hr2, fun z => by simp [hasL] at z⟩
    · rename_i kvs hc
      obtain ⟨ps, e1, ek, e2⟩ := rl.cell k _ hc
      cases q2 : goDs (refs d S) (kvs.map (·.2)) with
      | none => rw [q2] at q; cases q
      | some ds =>
        rw [q2] at q; cases q
        obtain ⟨_, ns, ws, kv, o, es, ep, ho, hx, hd, _, hp, _⟩ := (show ObjOk X.prog X.w H s.heap (ι k) (.dK ps) from I.hok _ _ e1)
        obtain ⟨vv, kk⟩ := kv_vals kv
        obtain ⟨kr, vr⟩ := keys_reads (h := s.heap) hp
        obtain ⟨bs, hr2, hn⟩ := goDs_reads I ih _ _ _ ds e2 vv q2
        have el : (kvs.map fun p => kD p.1).length = ds.length := by rw [goDs_length q2]; simp
        obtain ⟨z1, z2⟩ := zip_two _ _ el
        have ke : ws.map (fun p => kD p.1) = kvs.map fun p => kD p.1 := by
          have : ws.map (fun p => kD p.1) = (ws.map (·.1)).map kD := by simp
          rw [this, kk, ek]; simp
        refine ⟨_, Reads.dict (as := []) (bs := bs) ho hx.1 hd (by rw [z1, ← ke]; exact kr) (by rw [z2, vr]; exact hr2), fun z => ?_⟩
        simp only [hasL, hasLk_eq] at z
        rw [z2] at z
        simp only [List.append_nil, List.mem_append, List.mem_cons, not_or, List.cons_append]
        exact ⟨fun y => by rw [← y] at ns; simp at ns, by simpa using hn z⟩
    · cases q
theorem toD_reads (I : Inv X pins σ H s) (rl : Rel X.K cm ι S H) {a : IV} {x : V} {u : Value} {d : PyData} (rv : RV X.K ι S.length H a x) (r : RelV x u) (e : toD S a = some d) : ∃ as, Reads s.heap u d as ∧ (hasL d = false → sysModules ∉ as) :=
  goD_reads I (refs_ok I rl 6) a x u d rv r e
end
end Wg
/-! WgEq: an instance of a class without __eq__ against a text. -/
namespace HT
open PySem PySem.Spec PyProof.Rows PySem.SeqAt HN
theorem str_eq_inst (b : Str) (u : Tok) (l : Addr) (C dx : Addr) :
    Meets (Builtin.«str.__eq__» ⟨[.str b u, .ref l], []⟩) (fun _ R s => s.heap.get? l = some (PySem.W.instObj C dx) ∧ R (.ok (.ret .notImplemented)) s) :=
  .of_wp fun prog w A R s h => by obtain ⟨hp, g, d, tk, os⟩ := s; obtain ⟨hl, h⟩ := h; wp_walk using wpAny_loadPart' hl, wpAny_load hl; exact ⟨_, rfl, h⟩
theorem str_ne_inst (b : Str) (u : Tok) (l : Addr) (C dx : Addr) :
    Meets (Builtin.«str.__ne__» ⟨[.str b u, .ref l], []⟩) (fun _ R s => s.heap.get? l = some (PySem.W.instObj C dx) ∧ R (.ok (.ret .notImplemented)) s) :=
  .of_wp fun prog w A R s h => by obtain ⟨hp, g, d, tk, os⟩ := s; obtain ⟨hl, h⟩ := h; wp_walk using wpAny_loadPart' hl, wpAny_load hl; exact ⟨_, rfl, h⟩
section
variable {M : Model} {prog : Program} {w : World} {A : Around} {E : Value → Shared → Prop} {s : Shared} {K : PySem.W.Frag} {x C dx : Addr} {od : Option Obj} {b : Str} {u : Tok}
theorem isSame_str {R : Bool → Shared → Prop} (h : R false s) : wpAny M A (isSame (.ref x) (.str b u)) R E s := wpAny_of_eq (rfl : isSame (.ref x) (.str b u) = pure false) h
theorem entry_str {Q : Fin → Shared → Prop} (hq : Q (.done (.ret .notImplemented)) s) : wpAny M A (Builtin.«object.__eq__» ⟨[.ref x, .str b u], []⟩) Q E s := by
  unfold Builtin.«object.__eq__»
  repeat (first | with_reducible refine isSame_str ?_ | wp_step)
  exact hq
theorem call_str {Q : Value → Shared → Prop} (X : K.In s.heap) (I : PySem.W.InstAt s.heap x (PySem.W.instObj C dx) C od) (hm : PySem.W.mroIn K C (.type "object") = some true) (hq : Q .notImplemented s) :
    wpAny (model prog w) A (call (.builtin "object.__eq__") [.ref x, .str b u]) Q E s :=
  wpAny_call (codeAny_call_builtin F.cmp_object.eq.plain F.cmpEntry_eq (PySem.W.check_slot F.cmpKind_eq F.cmpSplit_eq (I.type.andThen (PySem.W.looks_mroIn X hm)) (F.cmpArgs_eq _ _) (entry_str hq)))
theorem ifBound_ne {args : List Value} {Q : Option Value → Shared → Prop} (X : K.In s.heap) (I : PySem.W.InstAt s.heap x (PySem.W.instObj C dx) C od) (hs : PySem.W.findIn K (.ref C) "__ne__" = some (some (.builtin "object.__ne__")))
    (h : wpAny M A (call (.builtin "object.__ne__") (.ref x :: args)) (fun v => Q (some v)) E s) : wpAny M A (callSpecialIfBound? (.ref x) "__ne__" args) Q E s := by
  simp only [callSpecialIfBound?, bindSpecialIfBound?]
  refine wpAny_holding (wpAny_bind (wpAny_bind (wpAny_bind (I.type.here ((PySem.W.looks_findIn X hs).here ?_)))))
  refine wpAny_bind (wpAny_askSetting (wpAny_ite ?_))
  have fin : wpAny M A (call (.builtin "object.__ne__") ([.ref x] ++ args) >>= fun v => pure (some v)) Q E s := wpAny_bind (wpAny_mono h (fun v s' h' => wpAny_pure h') fun _ _ h' => h')
  split
  · exact wpAny_bind (wpAny_of_eq (F.cmp_object.ne.bind _) (wpAny_pure (by exact fin)))
  · exact wpAny_tryCatch (wpAny_bind (wpAny_of_eq (F.cmp_object.ne.bind _) (wpAny_pure (by exact fin))))
theorem special_str {Q : Option Value → Shared → Prop} (X : K.In s.heap) (I : PySem.W.InstAt s.heap x (PySem.W.instObj C dx) C od) (hm : PySem.W.mroIn K C (.type "object") = some true) (hs : PySem.W.findIn K (.ref C) "__eq__" = some (some (.builtin "object.__eq__"))) (hq : Q (some .notImplemented) s) :
    wpAny (model prog w) A (callSpecialIfBound? (.ref x) "__eq__" [.str b u]) Q E s := ifBound_objEq X I hs (call_str X I hm hq)
theorem entryN_str (hu : A.units < cLine) {Q : Fin → Shared → Prop} (X : K.In s.heap) (I : PySem.W.InstAt s.heap x (PySem.W.instObj C dx) C od) (hm : PySem.W.mroIn K C (.type "object") = some true) (hs : PySem.W.findIn K (.ref C) "__eq__" = some (some (.builtin "object.__eq__"))) (hq : Q (.done (.ret .notImplemented)) s) : wpAny (model prog w) A (Builtin.«object.__ne__» ⟨[.ref x, .str b u], []⟩) Q E s := by
  unfold Builtin.«object.__ne__»
  repeat (first | with_reducible refine wpAny_cRoomFor hu ?_ | with_reducible refine special_str X I hm hs ?_ | wp_step)
  exact hq
theorem callN_str (hu : A.units + 1 < cLine) {Q : Value → Shared → Prop} (X : K.In s.heap) (I : PySem.W.InstAt s.heap x (PySem.W.instObj C dx) C od) (hm : PySem.W.mroIn K C (.type "object") = some true) (hs : PySem.W.findIn K (.ref C) "__eq__" = some (some (.builtin "object.__eq__"))) (hq : Q .notImplemented s) :
    wpAny (model prog w) A (call (.builtin "object.__ne__") [.ref x, .str b u]) Q E s :=
  wpAny_call (codeAny_call_builtin F.cmp_object.ne.plain F.cmpEntry_ne (PySem.W.check_slot F.cmpKind_ne F.cmpSplit_ne (I.type.andThen (PySem.W.looks_mroIn X hm)) (F.cmpArgs_ne _ _) (entryN_str (A := A.in1) hu X I hm hs hq)))
theorem sub_str : PySem.W.subIn K (.type "str") (.ref C) = some false := by
  have e : fastBuiltinMro "str" = some [.type "str", .type "object"] := by decide +kernel
  show (fastBuiltinMro "str").map (·.contains (.ref C)) = some false
  rw [e]
  first
    | rfl
    | simp
theorem eq_str (hu : A.units < cLine) (X : K.In s.heap) (I : PySem.W.InstAt s.heap x (PySem.W.instObj C dx) C od) (hm : PySem.W.mroIn K C (.type "object") = some true) (hs : PySem.W.findIn K (.ref C) "__eq__" = some (some (.builtin "object.__eq__"))) {Q : Value → Shared → Prop} (h : Q (.bool false) s) :
    wpAny (model prog w) A (compareOp .Eq (.ref x) (.str b u)) Q E s := by
  have one : wpAny (model prog w) A (tryCompare (.ref x) "__eq__" (.str b u)) (fun r s' => r = none ∧ s' = s) E s := by
    unfold tryCompare
    exact wpAny_bind (special_str X I hm hs (wpAny_pure ⟨rfl, rfl⟩))
  have two : wpAny (model prog w) A (tryCompare (.str b u) "__eq__" (.ref x)) (fun r s' => r = none ∧ s' = s) E s :=
    wpAny_tryCompare_declines (typeIs_str s b u) F.slot_str_eq_refl (call_meets F.slot_str_eq_refl (typeIs_str s b u) F.entry_str_eq (F.args_str_eq_2 _ _) (str_eq_inst b u x C dx) ⟨I.at_, rfl, rfl, rfl⟩)
  show wpAny _ A (richCompare .Eq _ _) Q E s
  simp only [richCompare, cmpInfo_Eq, oneThing_ref]
  refine wpAny_holding (wpAny_bind (wpAny_cRoomFor hu ?_))
  refine wpAny_bind (I.type.here ?_)
  refine wpAny_bind (wpAny_typeOf (typeIs_str s b u) ?_)
  split
  · refine wpAny_bind ((PySem.W.looks_subIn X sub_str).here ?_)
    simp only [Bool.false_eq_true, if_false, Bool.not_false, if_true]
    refine wpAny_bind (m := tryCompare (.ref x) _ (.str b u)) (wpAny_mono one (fun r s1 z => ?_) fun _ _ e => e)
    obtain ⟨z1, z2⟩ := z
    subst z1
    subst z2
    refine wpAny_bind (m := tryCompare (.str b u) _ (.ref x)) (wpAny_mono two (fun r s2 z => ?_) fun _ _ e => e)
    obtain ⟨z1, z2⟩ := z
    subst z1
    subst z2
    exact wpAny_bind (wpAny_rule (wpAny_bind (wpAny_of_eq (rfl : isSame (.ref x) (.str b u) = pure false) (wpAny_pure h))))
  · rename_i q
    exact absurd (by simp) q
theorem ne_str (hu : A.units + 1 < cLine) (X : K.In s.heap) (I : PySem.W.InstAt s.heap x (PySem.W.instObj C dx) C od) (hm : PySem.W.mroIn K C (.type "object") = some true) (hs : PySem.W.findIn K (.ref C) "__eq__" = some (some (.builtin "object.__eq__"))) (hn : PySem.W.findIn K (.ref C) "__ne__" = some (some (.builtin "object.__ne__"))) {Q : Value → Shared → Prop} (h : Q (.bool true) s) :
    wpAny (model prog w) A (compareOp .NotEq (.ref x) (.str b u)) Q E s := by
  have one : wpAny (model prog w) A (tryCompare (.ref x) "__ne__" (.str b u)) (fun r s' => r = none ∧ s' = s) E s := by
    unfold tryCompare
    exact wpAny_bind (ifBound_ne X I hn (callN_str hu X I hm hs (wpAny_pure ⟨rfl, rfl⟩)))
  have two : wpAny (model prog w) A (tryCompare (.str b u) "__ne__" (.ref x)) (fun r s' => r = none ∧ s' = s) E s :=
    wpAny_tryCompare_declines (typeIs_str s b u) F.slot_str_ne_refl (call_meets F.slot_str_ne_refl (typeIs_str s b u) F.entry_str_ne (F.args_str_ne_2 _ _) (str_ne_inst b u x C dx) ⟨I.at_, rfl, rfl, rfl⟩)
  show wpAny _ A (richCompare .NotEq _ _) Q E s
  simp only [richCompare, cmpInfo_NotEq, oneThing_ref]
  refine wpAny_holding (wpAny_bind (wpAny_cRoomFor (by omega) ?_))
  refine wpAny_bind (I.type.here ?_)
  refine wpAny_bind (wpAny_typeOf (typeIs_str s b u) ?_)
  split
  · refine wpAny_bind ((PySem.W.looks_subIn X sub_str).here ?_)
    simp only [Bool.false_eq_true, if_false, Bool.not_false, if_true]
    refine wpAny_bind (m := tryCompare (.ref x) _ (.str b u)) (wpAny_mono one (fun r s1 z => ?_) fun _ _ e => e)
    obtain ⟨z1, z2⟩ := z
    subst z1
    subst z2
    refine wpAny_bind (m := tryCompare (.str b u) _ (.ref x)) (wpAny_mono two (fun r s2 z => ?_) fun _ _ e => e)
    obtain ⟨z1, z2⟩ := z
    subst z1
    subst z2
    exact wpAny_bind (wpAny_rule (wpAny_bind (wpAny_of_eq (rfl : isSame (.ref x) (.str b u) = pure false) (wpAny_pure h))))
  · rename_i q
    exact absurd (by simp) q
end
end HT
/-! WgF: comparisons, subscripts, built-ins by values. -/
namespace Wg
open PySem PySem.Spec PyProof.Rows L2
def cOp : Cop → CmpOp
  | .eq => .Eq
  | .ne => .NotEq
  | .lt => .Lt
  | .le => .LtE
  | .gt => .Gt
  | .ge => .GtE
  | .isin => .In
  | .notin => .NotIn
  | .is => .Is
  | .isnot => .IsNot
section
variable {X : Cx} {cm : Cm} {pins : List (Addr × Obj)} {σ : L2.St} {H : Hp} {s : Shared} {ι : Nat → Addr} {S : Sto}
theorem scal_eq {a b : IV} {x y : V} {k : Bool} (e : eqS a b = some k) (ra : RV X.K ι S.length H a x) (rb : RV X.K ι S.length H b y) : scal x y = true ∧ decide (x = y) = k := by
  unfold eqS at e
  split at e
  · simp only [RV] at ra rb; subst ra rb; cases e; exact ⟨rfl, by simp⟩
  · simp only [RV] at ra rb; subst ra rb; cases e; exact ⟨rfl, by simp⟩
  · simp only [RV] at ra rb; subst ra rb; cases e; exact ⟨rfl, by simp⟩
  · cases e
theorem flat_ok {a : IV} {x : V} (h : flatI a = true) (ra : RV X.K ι S.length H a x) : flatV x = true := by
  cases a with
  | non => simp only [RV] at ra; subst ra; rfl
  | bl b => simp only [RV] at ra; subst ra; rfl
  | int b => simp only [RV] at ra; subst ra; rfl
  | str b => simp only [RV] at ra; subst ra; rfl
  | tup xs => simp [flatI] at h
  | ref k => simp [flatI] at h
  | cls k => simp [flatI] at h
theorem eqF_ok {a b : IV} {x y : V} (h : flatI a = true) (h' : flatI b = true) (ra : RV X.K ι S.length H a x) (rb : RV X.K ι S.length H b y) : eqV x y = eqF a b := by
  cases a <;> cases b <;> first | (simp [flatI] at h; done) | (simp [flatI] at h'; done) | (simp only [RV] at ra rb; subst ra rb; first | rfl | simp [eqV, eqF])
theorem flats_ok : ∀ {xs : List IV} {vs : List V}, xs.all flatI = true → RVs X.K ι S.length H xs vs → vs.all flatV = true
  | [], vs, _, h => by simp only [RVs] at h; subst h; rfl
  | x :: xs, vs, e, h => by
    obtain ⟨v, r, rfl, h1, h2⟩ := h.uncons
    simp only [List.all_cons, Bool.and_eq_true] at e ⊢
    exact ⟨flat_ok e.1 h1, flats_ok e.2 h2⟩
theorem any_ok {a : IV} {x : V} (ha : flatI a = true) (ra : RV X.K ι S.length H a x) : ∀ {xs : List IV} {vs : List V}, xs.all flatI = true → RVs X.K ι S.length H xs vs → inV x vs = xs.any fun z => eqF z a
  | [], vs, _, h => by simp only [RVs] at h; subst h; rfl
  | z :: xs, vs, e, h => by
    obtain ⟨v, r, rfl, h1, h2⟩ := h.uncons
    simp only [List.all_cons, Bool.and_eq_true] at e
    have ih := any_ok ha ra e.2 h2
    unfold inV at ih ⊢
    rw [List.any_cons, List.any_cons, ih, eqF_ok e.1 ha h1 ra]
end
section
variable {X : Cx} {cm : Cm}
theorem seqD_cases {o : Option PyData} {ds : List PyData} (h : seqD o = some ds) : o = some (.list ds) ∨ o = some (.tuple ds) := by
  unfold seqD at h
  split at h
  · cases h; exact .inl rfl
  · cases h; exact .inr rfl
  · cases h
theorem room_in {A : Around} {d : PyData} {ds : List PyData} (hd : SeqAt.shaped d = true) (hu : A.units + 70 < cLine) : A.units + 1 + min (PyData.depthAll ds) d.depth < cLine := by
  have h : d.depth ≤ 64 := by
    unfold SeqAt.shaped at hd
    rw [Bool.and_eq_true] at hd
    simpa using hd.2
  have := Nat.min_le_right (PyData.depthAll ds) d.depth
  omega
/-! ### dicts -/
theorem dct_ok {y : IV} {x : V} {kvs : List (Key × IV)} (rl : Rel X.K cm ι S H) (ry : RV X.K ι S.length H y x) (e : dctOf y S = some kvs) :
    ∃ k ps, y = .ref k ∧ k < S.length ∧ S[k]? = some (.dct kvs) ∧ x = .ref (ι k) ∧ H (ι k) = some (.dK ps) ∧ ps.map (·.1) = kvs.map (·.1) ∧ RVs X.K ι S.length H (kvs.map (·.2)) (ps.map (·.2)) := by
  unfold dctOf at e
  split at e
  · rename_i n
    split at e
    · rename_i kvs' e1
      cases e
      simp only [RV] at ry
      obtain ⟨ps, h1, h2, h3⟩ := rl.cell n _ e1
      exact ⟨n, ps, rfl, ry.1, e1, ry.2, h1, h2, h3⟩
    · cases e
  · cases e
theorem key_ok {S : Sto} {x : IV} {v : V} {k : Key} (e : keyOf x = some k) (rx : RV X.K ι S.length H x v) : v = kV k := by
  cases x <;> simp only [keyOf] at e <;> cases e <;> (simp only [RV] at rx; exact rx)
theorem dVal_ok {S : Sto} {k : Key} : ∀ {kvs : List (Key × IV)} {ps : List (Key × V)}, ps.map (·.1) = kvs.map (·.1) → RVs X.K ι S.length H (kvs.map (·.2)) (ps.map (·.2)) →
    (∀ v, dVal kvs k = some v → ∃ w, valV ps k = some w ∧ RV X.K ι S.length H v w) ∧ (dVal kvs k = none → valV ps k = none)
  | [], [], _, _ => ⟨fun v h => (nomatch h), fun _ => rfl⟩
  | [], p :: ps, h, _ => by simp at h
  | q :: kvs, [], h, _ => by simp at h
  | (k0, v0) :: kvs, (k1, w0) :: ps, h, r => by
    simp only [List.map_cons, List.cons.injEq] at h
    obtain ⟨h1, h2⟩ := h
    subst h1
    obtain ⟨w, rr, e, r1, r2⟩ := RVs.uncons r
    simp only [List.map_cons, List.cons.injEq] at e
    obtain ⟨rfl, rfl⟩ := e
    have ih := dVal_ok (k := k) h2 r2
    by_cases e : k1 = k
    · subst e
      refine ⟨fun v hv => ?_, fun hv => ?_⟩
      · simp [dVal] at hv
        subst hv
        exact ⟨w0, by simp [valV], r1⟩
      · simp [dVal] at hv
    · have e1 : dVal ((k1, v0) :: kvs) k = dVal kvs k := by simp [dVal, e]
      have e2 : valV ((k1, w0) :: ps) k = valV ps k := by simp [valV, e]
      rw [e1, e2]
      exact ih
theorem dVal_some {S : Sto} {k : Key} {kvs : List (Key × IV)} {ps : List (Key × V)} (h : ps.map (·.1) = kvs.map (·.1)) (r : RVs X.K ι S.length H (kvs.map (·.2)) (ps.map (·.2))) : (valV ps k).isSome = (dVal kvs k).isSome := by
  obtain ⟨a, b⟩ := dVal_ok (k := k) h r
  cases e : dVal kvs k with
  | none => rw [b e]; rfl
  | some v => obtain ⟨w, hw, _⟩ := a v e; rw [hw]; rfl
/-! ### dicts whose keys are tuples -/
theorem DtP.val {K : PySem.W.Frag} {ps : List (List Key × V)} {xs : List (List Key × Addr × Value)} (r : DtP K H ps xs) (k : List Key) : RelO (valV ps k) ((atKey xs k).map (·.2)) := by
  unfold DtP at r
  induction r with
  | nil => exact True.intro
  | @cons p q ps qs h t ih =>
    obtain ⟨h1, _, h2⟩ := h
    by_cases e : p.1 = k
    · have e' : q.1 = k := h1.symm.trans e
      have b : atKey (q :: qs) k = some q.2 := by simp [atKey, List.find?_cons, e']
      rw [valV_pos e, b]; exact h2
    · have e' : ¬ q.1 = k := fun z => e (h1.trans z)
      have b : atKey (q :: qs) k = atKey qs k := by simp [atKey, List.find?_cons, e']
      rw [valV_neg e, b]; exact ih
theorem DtP.repl {K : PySem.W.Frag} {ps : List (List Key × V)} {xs : List (List Key × Addr × Value)} (r : DtP K H ps xs) (k : List Key) {y : V} {u : Value} (ry : RelV y u) :
    DtP K H (ps.map fun kv => if kv.1 = k then (kv.1, y) else kv) (xs.map (putAt k u)) := by
  unfold DtP at r ⊢
  induction r with
  | nil => exact .nil
  | @cons p q ps qs h t ih =>
    rw [List.map_cons, List.map_cons]
    refine .cons ?_ ih
    obtain ⟨h1, h2, h3⟩ := h
    unfold putAt
    by_cases e : p.1 = k
    · rw [if_pos e, if_pos (h1.symm.trans e)]; exact ⟨h1, h2, ry⟩
    · rw [if_neg e, if_neg (fun z => e (h1.trans z))]; exact ⟨h1, h2, h3⟩
theorem DtP.put {K : PySem.W.Frag} {ps : List (List Key × V)} {xs : List (List Key × Addr × Value)} (r : DtP K H ps xs) (k : List Key) {b : Addr} {y : V} {u : Value} (hb : SqN K H b (k.map kV)) (ry : RelV y u) :
    DtP K H (putK ps k y) (storedH xs k b u) := by
  have e : (ps.any fun kv => decide (kv.1 = k)) = (atKey xs k).isSome := by
    rw [valV_any, (r.val k).isSome_eq, Option.isSome_map]
  unfold putK storedH
  rw [e]
  by_cases q : (atKey xs k).isSome = true
  · rw [if_pos q, if_pos q]; exact r.repl k ry
  · rw [if_neg q, if_neg q]; exact Paired.snoc r ⟨rfl, hb, ry⟩
section
variable {X : Cx} {pins : List (Addr × Obj)} {σ : L2.St} {H : Hp} {s : Shared} {a : Addr} {ps : List (List Key × V)} {A : Around} {E : Value → Shared → Prop}
theorem key_sq {b : Addr} {ks : List Key} (I : Inv X pins σ H s) (h : SqN X.K H b (ks.map kV)) : (tupleKind (mixKind X.prog X.w)).is s.heap ks b := by
  obtain ⟨its, r, ⟨o, h1, h2, n, h3⟩, _⟩ := I.tuple h.toT
  exact ⟨o, its.toArray, n, h1, h2, h3, by simpa using items_are r⟩
theorem DtP.keys {K : PySem.W.Frag} {xs : List (List Key × Addr × Value)} (r : DtP K H ps xs) : ∀ x ∈ xs, SqN K H x.2.1 (x.1.map kV) := by
  unfold DtP at r
  induction r with
  | nil => intro x hx; cases hx
  | @cons p q ps qs h t ih =>
    intro x hx
    rcases List.mem_cons.mp hx with e | e
    · subst e
      obtain ⟨h1, h2, _⟩ := h
      rw [← h1]; exact h2
    · exact ih x e
theorem dtO_heap (I : Inv X pins σ H s) (h : DtO X.K H a ps) : ∃ xs, DtP X.K H ps xs ∧ s.heap.DictOfH (tupleKind (mixKind X.prog X.w)) a xs ∧ (a == sysModules) = false ∧ ps.length ≤ sizeLine := by
  obtain ⟨o, es, ep, xs, h1, h2, h3, h4, h5, h6, h7, h8⟩ := h
  have ho : s.heap.get? a = some o := (show ObjOk X.prog X.w H s.heap a (dtx a o) from I.hok a _ h1).1
  exact ⟨xs, h8, ⟨o, es, ep, ho, h4, h5, h6 _ _, fun x hx => key_sq I (h8.keys x hx), h7⟩, h2, h3⟩
theorem dt_getItem {b : Addr} {k : List Key} {v : V} {Q : Value → Shared → Prop} (hu : A.units + 1 < cLine) (I : Inv X pins σ H s) (h : DtO X.K H a ps) (hb : SqN X.K H b (k.map kV)) (l : valV ps k = some v)
    (hq : ∀ w' s', Inv X pins σ H s' → RelV v w' → Q w' s') : wpAny (model X.prog X.w) A (getItem (.ref a) (.ref b)) Q E s := by
  obtain ⟨xs, rel, dd, _⟩ := dtO_heap I h
  obtain ⟨w', hw, rw'⟩ := RelO.some_of (v := v) (o := (atKey xs k).map (·.2)) (by rw [← l]; exact rel.val k)
  obtain ⟨p, hp, hp2⟩ := Option.map_eq_some_iff.mp hw
  refine wpAny_getItem_heap (tupleKind_room_in1 hu) (key_sq I hb) dd hp ?_
  rw [hp2]
  exact hq w' _ (I.tok _) rw'
theorem dt_in {b : Addr} {k : List Key} {Q : Value → Shared → Prop} (hu : A.units + 1 < cLine) (I : Inv X pins σ H s) (h : DtO X.K H a ps) (hb : SqN X.K H b (k.map kV)) (hq : ∀ s', Inv X pins σ H s' → Q (.bool (valV ps k).isSome) s') :
    wpAny (model X.prog X.w) A (compareOp .In (.ref b) (.ref a)) Q E s := by
  obtain ⟨xs, rel, dd, hd, _⟩ := dtO_heap I h
  refine wpAny_in_heap (tupleKind_room_in1 hu) (key_sq I hb) hd dd ?_
  have q := (rel.val k).isSome_eq
  rw [Option.isSome_map] at q
  rw [← q]
  exact hq _ (I.tok _)
theorem dt_notIn {b : Addr} {k : List Key} {Q : Value → Shared → Prop} (hu : A.units + 1 < cLine) (I : Inv X pins σ H s) (h : DtO X.K H a ps) (hb : SqN X.K H b (k.map kV)) (hq : ∀ s', Inv X pins σ H s' → Q (.bool (!(valV ps k).isSome)) s') :
    wpAny (model X.prog X.w) A (compareOp .NotIn (.ref b) (.ref a)) Q E s := by
  obtain ⟨xs, rel, dd, hd, _⟩ := dtO_heap I h
  refine wpAny_notIn_heap (tupleKind_room_in1 hu) (key_sq I hb) hd dd ?_
  have q := (rel.val k).isSome_eq
  rw [Option.isSome_map] at q
  rw [← q]
  exact hq _ (I.tok _)
theorem hash_int {P P' : Program} {w w' : World} {k : List Key} (hk : ∀ z ∈ k, ∃ i, z = Sum.inl i) : tupleKeyHash (mixKind P w) k = tupleKeyHash (mixKind P' w') k := by
  have : k.map (mixKind P w).hash = k.map (mixKind P' w').hash := List.map_congr_left fun z hz => by
    obtain ⟨i, rfl⟩ := hk z hz
    rfl
  unfold tupleKeyHash
  rw [this]
theorem put_ents {P : Program} {w : World} {k : List Key} {r : Value} : ∀ {xs : List (List Key × Addr × Value)}, (xs.map (putAt k r)).map (entryOfKey (tupleKind (mixKind P w))) = ((xs.map (entryOfKey (tupleKind (mixKind P w)))).zip (xs.map (·.1))).map fun p : DictEntry × List Key => if p.2 = k then (⟨p.1.hash, p.1.key, r⟩ : DictEntry) else p.1
  | [] => rfl
  | x :: xs => by
    simp only [List.map_cons, List.zip_cons_cons]
    rw [put_ents (xs := xs)]
    congr 1
    unfold putAt
    split <;> rfl
theorem dt_setItem {b : Addr} {k : List Key} {v : V} {r : Value} {Q : Unit → Shared → Prop} (hu : A.units + 1 < cLine) (I : Inv X pins σ H s) (h : DtO X.K H a ps) (hb : SqN X.K H b (k.map kV)) (hk : ∀ z ∈ k, ∃ i, z = Sum.inl i) (l : ps.length < sizeLine) (rv : RelV v r)
    (hq : ∀ o s', DtO X.K (upd H a (dtx a o)) a (putK ps k v) → Inv X pins σ (upd H a (dtx a o)) s' → Q () s') : wpAny (model X.prog X.w) A (setItem (.ref a) (.ref b) r) Q E s := by
  obtain ⟨o0, es0, ep0, xs, g1, hd, z, q2, q3, hxy, q6, rel⟩ := h
  have ho : s.heap.get? a = some o0 := (show ObjOk X.prog X.w H s.heap a (dtx a o0) from I.hok a _ g1).1
  have hz : xs.length ≤ sizeLine := by rw [← Paired.length rel]; exact z
  have hl : (putK ps k v).length ≤ sizeLine := by have := length_putK ps k v; omega
  refine wpAny_setItem_heap (hsz := hz) (tupleKind_room_in1 hu) (key_sq I hb) ⟨o0, es0, ep0, ho, q2, q3, hxy _ _, fun x hx => key_sq I (rel.keys x hx), q6⟩ fun h' dd' hs => ?_
  obtain ⟨q, es, ep, hq', r2, r3, r4, r5, r6⟩ := dd'
  have ht : ∀ c vs, SqN X.K H c vs → SqN X.K (upd H a (dtx a q)) c vs := fun _ _ x => x.upd_at fun _ _ z => by rw [g1] at z; cases z
  refine hq q _ ⟨q, es, ep, _, upd_same, hd, hl, r2, r3, fun P w => ?_, r6, (rel.put k hb rv).map ht⟩ (d_write I (by rw [g1]; exact True.intro) hs ⟨q, hq'⟩ ⟨hq', ⟨q, hq'⟩, fun h1 h2 e k => k _ e⟩)
  rw [r4]
  unfold storedH
  split
  · -- at a key that is there
    rw [put_ents, put_ents, ← hxy X.prog X.w, ← hxy P w]
  · rw [List.map_append, List.map_append, ← hxy X.prog X.w, ← hxy P w]
    congr 1
    simp only [List.map_cons, List.map_nil, entryOfKey]
    congr 2
    exact hash_int hk
end
theorem dtt_ok {y : IV} {x : V} {kvs : List (List Key × IV)} (rl : Rel X.K cm ι S H) (ry : RV X.K ι S.length H y x) (e : dttOf y S = some kvs) :
    ∃ k ps, y = .ref k ∧ k < S.length ∧ S[k]? = some (.dtt kvs) ∧ x = .ref (ι k) ∧ DtO X.K H (ι k) ps ∧ ps.map (·.1) = kvs.map (·.1) ∧ RVs X.K ι S.length H (kvs.map (·.2)) (ps.map (·.2)) := by
  unfold dttOf at e
  split at e
  · rename_i n
    split at e
    · rename_i kvs' e1
      cases e
      simp only [RV] at ry
      obtain ⟨ps, h1, h2, h3⟩ := rl.cell n _ e1
      exact ⟨n, ps, rfl, ry.1, e1, ry.2, h1, h2, h3⟩
    · cases e
  · cases e
theorem keyInts {K : PySem.W.Frag} {n : Nat} : ∀ {xs : List IV} {k : List Key} {vs : List V}, optAll keyInt xs = some k → RVs K ι n H xs vs → vs = k.map kV ∧ ∀ z ∈ k, ∃ i, z = Sum.inl i
  | [], k, vs, e, r => by
    simp only [optAll, Option.some.injEq] at e
    subst e
    simp only [RVs] at r
    subst r
    exact ⟨rfl, by simp⟩
  | x :: xs, k, vs, e, r => by
    obtain ⟨v, w, rfl, r1, r2⟩ := r.uncons
    simp only [optAll] at e
    cases e1 : keyInt x with
    | none => rw [e1] at e; cases e
    | some y =>
      rw [e1] at e
      cases e2 : optAll keyInt xs with
      | none => rw [e2] at e; cases e
      | some ys =>
        rw [e2] at e
        cases e
        obtain ⟨a, b⟩ := keyInts e2 r2
        cases x <;> simp only [keyInt] at e1 <;> cases e1
        simp only [RV] at r1
        subst r1 a
        exact ⟨rfl, fun z hz => by
          rcases List.mem_cons.mp hz with rfl | hz
          · exact ⟨_, rfl⟩
          · exact b z hz⟩
theorem keys_ok {K : PySem.W.Frag} {S : Sto} {x : IV} {v : V} {k : List Key} (e : keysOf x = some k) (rx : RV K ι S.length H x v) : ∃ b, v = .ref b ∧ SqN K H b (k.map kV) ∧ ∀ z ∈ k, ∃ i, z = Sum.inl i := by
  cases x <;> simp only [keysOf] at e <;> try cases e
  simp only [RV] at rx
  obtain ⟨b, vs, rfl, h1, h2⟩ := rx
  obtain ⟨rfl, h3⟩ := keyInts e h2
  exact ⟨b, rfl, h1, h3⟩
theorem dValT_ok {S : Sto} {k : List Key} : ∀ {kvs : List (List Key × IV)} {ps : List (List Key × V)}, ps.map (·.1) = kvs.map (·.1) → RVs X.K ι S.length H (kvs.map (·.2)) (ps.map (·.2)) →
    (∀ v, dVal kvs k = some v → ∃ w, valV ps k = some w ∧ RV X.K ι S.length H v w) ∧ (dVal kvs k = none → valV ps k = none)
  | [], [], _, _ => ⟨fun v h => (nomatch h), fun _ => rfl⟩
  | [], p :: ps, h, _ => by simp at h
  | q :: kvs, [], h, _ => by simp at h
  | (k0, v0) :: kvs, (k1, w0) :: ps, h, r => by
    simp only [List.map_cons, List.cons.injEq] at h
    obtain ⟨h1, h2⟩ := h
    subst h1
    obtain ⟨w, rr, e, r1, r2⟩ := RVs.uncons r
    simp only [List.map_cons, List.cons.injEq] at e
    obtain ⟨rfl, rfl⟩ := e
    have ih := dValT_ok (k := k) h2 r2
    by_cases e : k1 = k
    · subst e
      refine ⟨fun v hv => ?_, fun hv => ?_⟩
      · simp [dVal] at hv
        subst hv
        exact ⟨w0, by simp [valV], r1⟩
      · simp [dVal] at hv
    · have e1 : dVal ((k1, v0) :: kvs) k = dVal kvs k := by simp [dVal, e]
      have e2 : valV ((k1, w0) :: ps) k = valV ps k := by simp [valV, e]
      rw [e1, e2]
      exact ih
theorem dValT_some {S : Sto} {k : List Key} {kvs : List (List Key × IV)} {ps : List (List Key × V)} (h : ps.map (·.1) = kvs.map (·.1)) (r : RVs X.K ι S.length H (kvs.map (·.2)) (ps.map (·.2))) : (valV ps k).isSome = (dVal kvs k).isSome := by
  obtain ⟨a, b⟩ := dValT_ok (k := k) h r
  cases e : dVal kvs k with
  | none => rw [b e]; rfl
  | some v => obtain ⟨w, hw, _⟩ := a v e; rw [hw]; rfl
theorem ix_dtt (hu : X.A.units + 1 < cLine) : IxR X (fun x y H Q => ∃ a ps b k v, x = .ref a ∧ y = .ref b ∧ DtO X.K H a ps ∧ SqN X.K H b (k.map kV) ∧ valV ps k = some v ∧ Q v H) := by
  intro value slice pins s σ H x y v u Q I rx ry h hs
  obtain ⟨a, ps, b, k, z, rfl, rfl, g, gb, l, q⟩ := h
  cases rx
  cases ry
  have hT : s.TypeIs (.ref a) "dict" := by
    obtain ⟨xs, _, dd, _⟩ := dtO_heap I g
    exact dd.typeIs
  unfold subscriptTail
  refine wpAny_bind ?_
  rw [getitemInPython_of_ne hT.not_modules]
  refine wpAny_bind (wpAny_specialOf hT PySem.F.slot_dict_getitem.lookup ?_)
  have fin : wpAny (model X.prog X.w) X.A (subscripted slice false (.ref a) (.ref b)) (fun r s₃ => wpAny (model X.prog X.w) X.A (letTemporaryGo value (.ref a) r >>= fun _ => pure r) (EP X pins σ Q) X.xe s₃) X.xe s := by
    rw [hs]
    exact wpAny_operating (dt_getItem hu I g gb l fun w' s3 I3 rw' => wpAny_bind (wpAny_letTemporaryGo (wpAny_pure ⟨z, H, I3, rw', q⟩)))
  first
    | exact wpAny_pure (wpAny_bind fin)
    | exact wpAny_bind (wpAny_pure (wpAny_bind fin))
    | exact wpAny_bind fin
theorem ix_dct (hu : X.A.units + 1 < cLine) : IxR X (fun x y H Q => ∃ a v, x = .ref a ∧ DGet H a y (some v) ∧ Q v H) := by
  intro value slice pins s σ H x y v u Q I rx ry h hs
  obtain ⟨a, z, rfl, g, q⟩ := h
  cases rx
  have hT := dict_typeIs I g
  unfold subscriptTail
  refine wpAny_bind ?_
  rw [getitemInPython_of_ne hT.not_modules]
  refine wpAny_bind (wpAny_specialOf hT PySem.F.slot_dict_getitem.lookup ?_)
  have fin : wpAny (model X.prog X.w) X.A (subscripted slice false (.ref a) u) (fun r s₃ => wpAny (model X.prog X.w) X.A (letTemporaryGo value (.ref a) r >>= fun _ => pure r) (EP X pins σ Q) X.xe s₃) X.xe s := by
    rw [hs]
    exact wpAny_operating (d_getItem hu I g ry fun w' s3 I3 rw' => wpAny_bind (wpAny_letTemporaryGo (wpAny_pure ⟨z, H, I3, rw', q⟩)))
  first
    | exact wpAny_pure (wpAny_bind fin)
    | exact wpAny_bind (wpAny_pure (wpAny_bind fin))
    | exact wpAny_bind fin
/-- no class has an __eq__ or __ne__ of its own -/
def NoEq (K : PySem.W.Frag) (cm : Cm) : Prop := ∀ c C, cm.ins c = some C → PySem.W.mroIn K C (.type "object") = some true ∧ PySem.W.findIn K (.ref C) "__eq__" = some (some (.builtin "object.__eq__")) ∧ PySem.W.findIn K (.ref C) "__ne__" = some (some (.builtin "object.__ne__"))
theorem eqO_inv {a b : IV} {k : Bool} {S : Sto} (e : eqO a b S = some k) : ∃ n t c fs, a = .ref n ∧ b = .str t ∧ S[n]? = some (.ins c fs) ∧ k = false := by
  unfold eqO at e
  split at e
  · rename_i n t
    split at e
    · rename_i c fs q
      cases e
      exact ⟨_, _, _, _, rfl, rfl, q, rfl⟩
    · cases e
  · cases e
theorem eqO_ok {k : Bool} {ι : Nat → Addr} {S : Sto} {H : Hp} {a b : IV} {x y : V} {v u : Value} {pins : List (Addr × Obj)} {s : Shared} {σ : L2.St} {E : Value → Shared → Prop} (hu : X.A.units < cLine) (I : Inv X pins σ H s) (e : eqO a b S = some k) (hc : NoEq X.K cm) (rl : Rel X.K cm ι S H) (ra : RV X.K ι S.length H a x) (rb : RV X.K ι S.length H b y) (rx : RelV x v) (ry : RelV y u) {Q : Value → Shared → Prop} (h : Q (.bool k) s) : wpAny (model X.prog X.w) X.A (compareOp .Eq v u) Q E s := by
  obtain ⟨n, t, c, fs, rfl, rfl, q, rfl⟩ := eqO_inv e
  simp only [RV] at ra rb
  subst rb
  obtain ⟨hn, rfl⟩ := ra
  cases rx
  obtain ⟨tk, rfl⟩ := ry
  obtain ⟨C, dx, ps, h1, h2, _, _⟩ := rl.cell n _ q
  obtain ⟨e1, e2, e3⟩ := hc c C h2
  obtain ⟨mA, O, _⟩ := ins_get I.hok h1
  obtain ⟨od, J, _⟩ := O.look
  exact HT.eq_str hu I.kIn J e1 e2 h
theorem neO_ok {k : Bool} {ι : Nat → Addr} {S : Sto} {H : Hp} {a b : IV} {x y : V} {v u : Value} {pins : List (Addr × Obj)} {s : Shared} {σ : L2.St} {E : Value → Shared → Prop} (hu : X.A.units + 1 < cLine) (I : Inv X pins σ H s) (e : eqO a b S = some k) (hc : NoEq X.K cm) (rl : Rel X.K cm ι S H) (ra : RV X.K ι S.length H a x) (rb : RV X.K ι S.length H b y) (rx : RelV x v) (ry : RelV y u) {Q : Value → Shared → Prop} (h : Q (.bool (!k)) s) : wpAny (model X.prog X.w) X.A (compareOp .NotEq v u) Q E s := by
  obtain ⟨n, t, c, fs, rfl, rfl, q, rfl⟩ := eqO_inv e
  simp only [RV] at ra rb
  subst rb
  obtain ⟨hn, rfl⟩ := ra
  cases rx
  obtain ⟨tk, rfl⟩ := ry
  obtain ⟨C, dx, ps, h1, h2, _, _⟩ := rl.cell n _ q
  obtain ⟨e1, e2, e3⟩ := hc c C h2
  obtain ⟨mA, O, _⟩ := ins_get I.hok h1
  obtain ⟨od, J, _⟩ := O.look
  exact HT.ne_str hu I.kIn J e1 e2 e3 h
theorem eqE_ok {k : Bool} {ι : Nat → Addr} {S : Sto} {H : Hp} {a b : IV} {x y : V} {v u : Value} {pins : List (Addr × Obj)} {s : Shared} {σ : L2.St} {E : Value → Shared → Prop} (hu : X.A.units < cLine) (I : Inv X pins σ H s) (e : eqE a b S = some k) (hc : NoEq X.K cm) (rl : Rel X.K cm ι S H) (ra : RV X.K ι S.length H a x) (rb : RV X.K ι S.length H b y) (rx : RelV x v) (ry : RelV y u) {Q : Value → Shared → Prop} (h : Q (.bool k) s) : wpAny (model X.prog X.w) X.A (compareOp .Eq v u) Q E s := by
  unfold eqE at e
  split at e
  · rename_i xs
    cases e
    simp only [RV] at ra rb
    obtain ⟨p, vs, rfl, h1, h2⟩ := ra
    obtain ⟨p', vs', rfl, h1', h2'⟩ := rb
    cases rx; cases ry
    obtain ⟨its, rv, hl, _⟩ := I.tuple h1.toT
    obtain ⟨its', rv', hl', _⟩ := I.tuple h1'.toT
    have n1 := rv.length
    have n2 := rv'.length
    have m1 : vs.length = xs.length := by have := h2.length; omega
    have m2 : vs'.length = 0 := by have := h2'.length; simp only [List.length_nil] at this; omega
    have s1 : its.toArray.size = its.length := by simp
    have s2 : its'.toArray.size = its'.length := by simp
    refine SeqAt.eq_tupleAt (e := fun _ => true) hl hl' hu (fun j q1 q2 => ?_) ?_
    · omega
    · have z2 : its'.toArray.size = 0 := by omega
      rw [z2]
      cases xs with
      | nil =>
        have z1 : its.toArray.size = 0 := by simp only [List.length_nil] at m1; omega
        rw [z1]
        simpa using h
      | cons a l =>
        have z1 : (its.toArray.size == 0) = false := by simp only [List.length_cons] at m1; exact beq_false_of_ne (by omega)
        rw [z1]
        simpa using h
  · rename_i n m
    split at e
    · rename_i xs g1 g2
      cases e
      simp only [RV] at ra rb
      obtain ⟨_, rfl⟩ := ra
      obtain ⟨_, rfl⟩ := rb
      cases rx; cases ry
      obtain ⟨vs, e1, e2⟩ := rl.cell n _ g1
      obtain ⟨vs', e1', e2'⟩ := rl.cell m _ g2
      obtain ⟨its, rv, hl, _⟩ := I.list (.inl (.inl e1))
      obtain ⟨its', rv', hl', _⟩ := I.list (.inl (.inl e1'))
      have n1 := rv.length
      have n2 := rv'.length
      have m1 : vs.length = xs.length := by have := e2.length; omega
      have m2 : vs'.length = 0 := by have := e2'.length; simp only [List.length_nil] at this; omega
      have s1 : its.toArray.size = its.length := by simp
      have s2 : its'.toArray.size = its'.length := by simp
      cases xs with
      | nil =>
        have z1 : its.toArray.size = 0 := by simp only [List.length_nil] at m1; omega
        refine SeqAt.eq_listAt (e := fun _ => true) hl.isList hl'.isList (by omega) hu (fun j q1 q2 => by omega) ?_
        rw [z1]
        exact h
      | cons a l =>
        exact SeqAt.eq_list_lengthsAt hl.isList hl'.isList (by simp only [List.length_cons] at m1; exact bne_iff_ne.mpr (by omega)) hu h
    · cases e
  · exact eqO_ok hu I e hc rl ra rb rx ry h
theorem op_cmpA (hu : X.A.units + 70 < cLine) (hc : NoEq X.K cm) (o : Cop) : OpR X (compareOp (cOp o)) (rI2 X.K cm (cmpI o)) := by
  intro pins s σ H x y v u Q I rx ry h
  obtain ⟨ι, S, a, b, rl, ra, rb, q⟩ := h
  have here : ∀ {k : Bool}, OutV X.K cm ι S H (.ok (.bl k) S) Q → Q (.bl k) H := fun h => h.here rl (by simp only [RV])
  cases o with
  | eq =>
    have fall : ∀ {o : Option Bool}, o = none → OutV X.K cm ι S H (boolR (eqT a b S o) S) Q → wpAny (model X.prog X.w) X.A (compareOp .Eq v u) (EP X pins σ Q) X.xe s := fun {o} ho h => by
      subst ho
      simp only [eqT] at h
      cases e : eqE a b S with
      | none => rw [e] at h; exact h.elim
      | some k =>
        rw [e] at h
        exact eqE_ok (by omega) I e hc rl ra rb rx ry ⟨.bl k, H, I, rfl, here h⟩
    simp only [cmpI, eqI] at q
    cases e : eqS a b with
    | some k =>
      rw [e] at q
      obtain ⟨h1, h2⟩ := scal_eq e ra rb
      exact op_eq pins s σ H x y v u Q I rx ry ⟨h1, by rw [h2]; exact here q⟩
    | none =>
      rw [e] at q
      simp only [] at q
      cases e1 : toD S a with
      | none => rw [e1] at q; exact fall rfl q
      | some d =>
        cases e2 : toD S b with
        | none => rw [e1, e2] at q; exact fall rfl q
        | some d' =>
          rw [e1, e2] at q
          simp only [] at q
          by_cases hs : (SeqAt.shaped d && SeqAt.shaped d') = true
          · rw [if_pos hs] at q
            rw [Bool.and_eq_true] at hs
            obtain ⟨as, r1, _⟩ := toD_reads I rl ra rx e1
            obtain ⟨bs, r2, _⟩ := toD_reads I rl rb ry e2
            exact SeqAt.compareEq_shaped r1 r2 hs.1 hs.2 (by omega) ⟨.bl _, H, I, rfl, here q⟩
          · rw [if_neg hs] at q
            exact fall rfl q
  | ne =>
    have fall : ∀ {o : Option Bool}, o = none → OutV X.K cm ι S H (boolN (neT a b S o) S) Q → wpAny (model X.prog X.w) X.A (compareOp .NotEq v u) (EP X pins σ Q) X.xe s := fun {o} ho h => by
      subst ho
      simp only [neT] at h
      cases e : eqO a b S with
      | none => rw [e] at h; exact h.elim
      | some k =>
        rw [e] at h
        exact neO_ok (by omega) I e hc rl ra rb rx ry ⟨.bl (!k), H, I, rfl, here h⟩
    simp only [cmpI, eqI] at q
    cases e : eqS a b with
    | some k =>
      rw [e] at q
      obtain ⟨h1, h2⟩ := scal_eq e ra rb
      exact op_ne pins s σ H x y v u Q I rx ry ⟨h1, by rw [h2]; exact here q⟩
    | none =>
      rw [e] at q
      simp only [] at q
      cases e1 : toD S a with
      | none => rw [e1] at q; exact fall rfl q
      | some d =>
        cases e2 : toD S b with
        | none => rw [e1, e2] at q; exact fall rfl q
        | some d' =>
          rw [e1, e2] at q
          simp only [] at q
          by_cases hs : (SeqAt.shaped d && SeqAt.shaped d') = true
          · rw [if_pos hs] at q
            rw [Bool.and_eq_true] at hs
            obtain ⟨as, r1, _⟩ := toD_reads I rl ra rx e1
            obtain ⟨bs, r2, _⟩ := toD_reads I rl rb ry e2
            exact SeqAt.compareNe_shaped r1 r2 hs.1 hs.2 (by omega) ⟨.bl _, H, I, rfl, here q⟩
          · rw [if_neg hs] at q
            exact fall rfl q
  | lt =>
    simp only [cmpI] at q
    split at q
    · simp only [RV] at ra rb; subst ra rb
      exact op_lt pins s σ H _ _ v u Q I rx ry ⟨_, _, rfl, rfl, here q⟩
    · exact q.elim
  | le =>
    simp only [cmpI] at q
    split at q
    · simp only [RV] at ra rb; subst ra rb
      exact op_le pins s σ H _ _ v u Q I rx ry ⟨_, _, rfl, rfl, here q⟩
    · exact q.elim
  | gt =>
    simp only [cmpI] at q
    split at q
    · simp only [RV] at ra rb; subst ra rb
      exact op_gt pins s σ H _ _ v u Q I rx ry ⟨_, _, rfl, rfl, here q⟩
    · exact q.elim
  | ge =>
    simp only [cmpI] at q
    split at q
    · simp only [RV] at ra rb; subst ra rb
      exact op_ge pins s σ H _ _ v u Q I rx ry ⟨_, _, rfl, rfl, here q⟩
    · exact q.elim
  | isin =>
    simp only [cmpI, inI] at q
    cases e : itemsI b S with
    | none =>
      rw [e] at q
      simp only [dinI] at q
      cases e1 : dctOf b S with
      | none =>
        rw [e1] at q
        simp only [dtIn] at q
        cases e3 : dttOf b S with
        | none =>
          rw [e3] at q
          simp only [] at q
          unfold strIn at q
          split at q
          · simp only [RV] at ra rb; subst ra rb
            exact op_in_str pins s σ H _ _ v u Q I rx ry ⟨_, _, rfl, rfl, here q⟩
          · exact q.elim
        | some kvs =>
          cases e4 : keysOf a with
          | none =>
            rw [e3, e4] at q
            simp only [] at q
            have z : strIn a b = none := by cases b <;> first | (simp [dttOf] at e3; done) | (cases a <;> rfl)
            rw [z] at q
            exact q.elim
          | some k =>
            rw [e3, e4] at q
            obtain ⟨n, ps, rfl, hn, hS, rfl, h1, h2, h3⟩ := dtt_ok rl rb e3
            obtain ⟨bb, rfl, hb, _⟩ := keys_ok e4 ra
            cases ry
            cases rx
            refine dt_in (by omega) I h1 hb fun s' I' => ⟨.bl _, H, I', rfl, ?_⟩
            rw [dValT_some h2 h3]
            exact here q
      | some kvs =>
        cases e2 : keyOf a with
        | none =>
          rw [e1, e2] at q
          simp only [dtIn] at q
          have z3 : dttOf b S = none := by
            cases b with
            | ref n =>
              simp only [dctOf] at e1
              simp only [dttOf]
              cases e5 : S[n]? with
              | none => rfl
              | some c => rw [e5] at e1; cases c <;> first | rfl | (cases e1)
            | _ => rfl
          rw [z3] at q
          simp only [] at q
          have z : strIn a b = none := by cases b <;> first | (simp [dctOf] at e1; done) | (cases a <;> rfl)
          rw [z] at q
          exact q.elim
        | some k =>
          rw [e1, e2] at q
          obtain ⟨n, ps, rfl, hn, hS, rfl, h1, h2, h3⟩ := dct_ok rl rb e1
          obtain rfl := key_ok e2 ra
          cases ry
          refine d_in (by omega) I (DGet.k h1) rx fun s' I' => ⟨.bl _, H, I', rfl, ?_⟩
          rw [dVal_some h2 h3]
          exact here q
    | some xs =>
      rw [e] at q
      simp only [] at q
      split at q
      · rename_i hf
        rw [Bool.and_eq_true] at hf
        obtain ⟨p, vs, rfl, hq, hv⟩ := items_ok rl rb e
        exact op_in_seq pins s σ H _ _ v u Q I rx ry ⟨p, vs, rfl, hq, flat_ok hf.1 ra, flats_ok hf.2 hv, by rw [any_ok hf.1 ra hf.2 hv]; exact here q⟩
      · cases e1 : seqD (toD S b) with
        | none => rw [e1] at q; exact q.elim
        | some ds =>
          cases e2 : toD S a with
          | none => rw [e1, e2] at q; exact q.elim
          | some d =>
            rw [e1, e2] at q
            simp only [] at q
            split at q
            · rename_i hs
              rw [Bool.and_eq_true] at hs
              obtain ⟨as, r1, _⟩ := toD_reads I rl ra rx e2
              rcases seqD_cases e1 with e3 | e3
              · obtain ⟨bs, r2, _⟩ := toD_reads I rl rb ry e3
                exact SeqAt.in_list_reads r2 r1 hs.2 (SeqAt.canLay_of_shaped hs.1) (room_in hs.1 hu) ⟨.bl _, H, I, rfl, here q⟩
              · obtain ⟨bs, r2, _⟩ := toD_reads I rl rb ry e3
                exact SeqAt.in_tuple_reads r2 r1 hs.2 (SeqAt.canLay_of_shaped hs.1) (room_in hs.1 hu) ⟨.bl _, H, I, rfl, here q⟩
            · exact q.elim
  | notin =>
    simp only [cmpI, inI] at q
    cases e : itemsI b S with
    | none =>
      rw [e] at q
      simp only [dinI] at q
      cases e1 : dctOf b S with
      | none =>
        rw [e1] at q
        simp only [dtIn] at q
        cases e3 : dttOf b S with
        | none =>
          rw [e3] at q
          simp only [] at q
          unfold strIn at q
          split at q
          · simp only [RV] at ra rb; subst ra rb
            exact op_notin_str pins s σ H _ _ v u Q I rx ry ⟨_, _, rfl, rfl, here q⟩
          · exact q.elim
        | some kvs =>
          cases e4 : keysOf a with
          | none =>
            rw [e3, e4] at q
            simp only [] at q
            have z : strIn a b = none := by cases b <;> first | (simp [dttOf] at e3; done) | (cases a <;> rfl)
            rw [z] at q
            exact q.elim
          | some k =>
            rw [e3, e4] at q
            obtain ⟨n, ps, rfl, hn, hS, rfl, h1, h2, h3⟩ := dtt_ok rl rb e3
            obtain ⟨bb, rfl, hb, _⟩ := keys_ok e4 ra
            cases ry
            cases rx
            refine dt_notIn (by omega) I h1 hb fun s' I' => ⟨.bl _, H, I', rfl, ?_⟩
            rw [dValT_some h2 h3]
            exact here q
      | some kvs =>
        cases e2 : keyOf a with
        | none =>
          rw [e1, e2] at q
          simp only [dtIn] at q
          have z3 : dttOf b S = none := by
            cases b with
            | ref n =>
              simp only [dctOf] at e1
              simp only [dttOf]
              cases e5 : S[n]? with
              | none => rfl
              | some c => rw [e5] at e1; cases c <;> first | rfl | (cases e1)
            | _ => rfl
          rw [z3] at q
          simp only [] at q
          have z : strIn a b = none := by cases b <;> first | (simp [dctOf] at e1; done) | (cases a <;> rfl)
          rw [z] at q
          exact q.elim
        | some k =>
          rw [e1, e2] at q
          obtain ⟨n, ps, rfl, hn, hS, rfl, h1, h2, h3⟩ := dct_ok rl rb e1
          obtain rfl := key_ok e2 ra
          cases ry
          refine d_notIn (by omega) I (DGet.k h1) rx fun s' I' => ⟨.bl _, H, I', rfl, ?_⟩
          rw [dVal_some h2 h3]
          exact here q
    | some xs =>
      rw [e] at q
      simp only [] at q
      split at q
      · rename_i hf
        rw [Bool.and_eq_true] at hf
        obtain ⟨p, vs, rfl, hq, hv⟩ := items_ok rl rb e
        exact op_notIn_seq pins s σ H _ _ v u Q I rx ry ⟨p, vs, rfl, hq, flat_ok hf.1 ra, flats_ok hf.2 hv, by rw [any_ok hf.1 ra hf.2 hv]; exact here q⟩
      · cases e1 : seqD (toD S b) with
        | none => rw [e1] at q; exact q.elim
        | some ds =>
          cases e2 : toD S a with
          | none => rw [e1, e2] at q; exact q.elim
          | some d =>
            rw [e1, e2] at q
            simp only [] at q
            split at q
            · rename_i hs
              rw [Bool.and_eq_true] at hs
              obtain ⟨as, r1, _⟩ := toD_reads I rl ra rx e2
              rcases seqD_cases e1 with e3 | e3
              · obtain ⟨bs, r2, _⟩ := toD_reads I rl rb ry e3
                exact SeqAt.notIn_list_reads r2 r1 hs.2 (SeqAt.canLay_of_shaped hs.1) (room_in hs.1 hu) ⟨.bl _, H, I, rfl, here q⟩
              · obtain ⟨bs, r2, _⟩ := toD_reads I rl rb ry e3
                exact SeqAt.notIn_tuple_reads r2 r1 hs.2 (SeqAt.canLay_of_shaped hs.1) (room_in hs.1 hu) ⟨.bl _, H, I, rfl, here q⟩
            · exact q.elim
  | is =>
    simp only [cmpI, isI] at q
    split at q
    · simp only [RV] at rb; subst rb
      refine op_isN pins s σ H _ _ v u Q I rx ry ⟨rfl, ?_⟩
      have e : decide (x = V.non) = nonI a := by
        cases a <;> simp only [RV] at ra <;> first | (subst ra; rfl) | (obtain ⟨_, rfl, _⟩ := ra; rfl) | (obtain ⟨_, _, rfl, _⟩ := ra; rfl) | (obtain ⟨_, rfl⟩ := ra; rfl)
      rw [e]; exact here q
    · simp only [RV] at rb; subst rb
      split at q
      · simp only [RV] at ra; subst ra
        exact op_is_bl pins s σ H _ _ v u Q I rx ry ⟨_, _, rfl, rfl, here q⟩
      · exact q.elim
    · exact q.elim
  | isnot =>
    simp only [cmpI, isI] at q
    split at q
    · simp only [RV] at rb; subst rb
      refine op_notN pins s σ H _ _ v u Q I rx ry ⟨rfl, ?_⟩
      have e : decide (x = V.non) = nonI a := by
        cases a <;> simp only [RV] at ra <;> first | (subst ra; rfl) | (obtain ⟨_, rfl, _⟩ := ra; rfl) | (obtain ⟨_, _, rfl, _⟩ := ra; rfl) | (obtain ⟨_, rfl⟩ := ra; rfl)
      rw [e]; exact here q
    · simp only [RV] at rb; subst rb
      split at q
      · simp only [RV] at ra; subst ra
        exact op_isnot_bl pins s σ H _ _ v u Q I rx ry ⟨_, _, rfl, rfl, here q⟩
      · exact q.elim
    · exact q.elim
/-- a[i] -/
theorem ix_any (hu : X.A.units + 70 < cLine) : IxR X (rI2 X.K cm ixI) := by
  intro value slice pins s σ H x y v u Q I rx ry h hs
  obtain ⟨ι, S, a, b, rl, ra, rb, q⟩ := h
  have dic : OutV X.K cm ι S H (dixI a b S) Q → wpAny (model X.prog X.w) X.A (subscriptTail value slice v u) (EP X pins σ Q) X.xe s := fun q0 => by
    unfold dixI at q0
    have dic2 : OutV X.K cm ι S H (dtIx a b S) Q → wpAny (model X.prog X.w) X.A (subscriptTail value slice v u) (EP X pins σ Q) X.xe s := fun q1 => by
      unfold dtIx at q1
      cases e1 : dttOf a S with
      | none => rw [e1] at q1; exact q1.elim
      | some kvs =>
        cases e2 : keysOf b with
        | none => rw [e1, e2] at q1; exact q1.elim
        | some k =>
          rw [e1, e2] at q1
          simp only [] at q1
          cases e3 : dVal kvs k with
          | none => rw [e3] at q1; exact q1.elim
          | some z =>
            rw [e3] at q1
            obtain ⟨n, ps, rfl, hn, hS, rfl, h1, h2, h3⟩ := dtt_ok rl ra e1
            obtain ⟨bb, rfl, hb, _⟩ := keys_ok e2 rb
            obtain ⟨w, hw, rw'⟩ := (dValT_ok (k := k) h2 h3).1 z e3
            exact ix_dtt (by omega) value slice pins s σ H _ _ v u Q I rx ry ⟨_, ps, bb, k, w, rfl, rfl, h1, hb, hw, q1.here rl rw'⟩ hs
    cases e1 : dctOf a S with
    | none => rw [e1] at q0; exact dic2 q0
    | some kvs =>
      cases e2 : keyOf b with
      | none => rw [e1, e2] at q0; exact dic2 q0
      | some k =>
        rw [e1, e2] at q0
        simp only [] at q0
        cases e3 : dVal kvs k with
        | none => rw [e3] at q0; exact q0.elim
        | some z =>
          rw [e3] at q0
          obtain ⟨n, ps, rfl, hn, hS, rfl, h1, h2, h3⟩ := dct_ok rl ra e1
          obtain rfl := key_ok e2 rb
          obtain ⟨w, hw, rw'⟩ := (dVal_ok (k := k) h2 h3).1 z e3
          exact ix_dct (by omega) value slice pins s σ H _ _ v u Q I rx ry ⟨_, w, rfl, by rw [← hw]; exact DGet.k h1, q0.here rl rw'⟩ hs
  unfold ixI at q
  split at q
  · rename_i i
    simp only [RV] at rb; subst rb
    cases e : itemsI a S with
    | some xs =>
      rw [e] at q
      simp only [] at q
      obtain ⟨p, vs, rfl, hq, hv⟩ := items_ok rl ra e
      cases e2 : atI xs i with
      | none => rw [e2] at q; exact q.elim
      | some z =>
        rw [e2] at q
        obtain ⟨w, h1, h2⟩ := hv.atI e2
        rcases hq with hq | hq
        · exact ix_list value slice pins s σ H _ _ v u Q I rx ry ⟨p, vs, i, w, rfl, rfl, hq, h1, q.here rl h2⟩ hs
        · exact ix_tup value slice pins s σ H _ _ v u Q I rx ry ⟨p, vs, i, w, rfl, rfl, hq, h1, q.here rl h2⟩ hs
    | none =>
      rw [e] at q
      simp only [] at q
      split at q
      · rename_i z
        simp only [RV] at ra; subst ra
        split at q
        · rename_i hz
          cases e2 : atI z.cps.toList i with
          | none => rw [e2] at q; exact q.elim
          | some c =>
            rw [e2] at q
            exact ix_str value slice pins s σ H _ _ v u Q I rx ry ⟨z, i, c, rfl, rfl, by rw [sizeLine_eq]; omega, e2, q.here rl (by simp only [RV])⟩ hs
        · exact q.elim
      · exact dic q
  · exact dic q
/-- a[lo:hi] -/
def rISl (K : PySem.W.Frag) (cm : Cm) : V → Option Int → Option Int → Hp → VK → Prop := fun x lo hi H Q => ∃ ι S a, Rel K cm ι S H ∧ RV K ι S.length H a x ∧ OutV K cm ι S H (slI a lo hi S) Q
theorem cut_whole {xs : List IV} {lo hi : Option Int} (h : HT.sIx xs.length 0 lo = 0 ∧ HT.sIx xs.length xs.length hi = xs.length) : cutI xs lo hi = xs := by
  unfold cutI
  rw [h.1, h.2, List.drop_zero, Nat.sub_zero, List.take_length]
def rSlN (K : PySem.W.Frag) : V → Option Int → Option Int → Hp → VK → Prop := fun x lo hi H Q => ∃ a xs, x = .ref a ∧ SqT K H a xs ∧
  (HT.sIx xs.length 0 lo = 0 ∧ HT.sIx xs.length xs.length hi = xs.length → Q (.ref a) H) ∧ ∀ (p : Addr) (o : Obj), H p = none → o.dict = none → Q (.ref p) (upd H p (.frz o (.tup (cutV xs lo hi))))
theorem sl_tupN : SlR X (rSlN X.K) := by
  intro pins s σ H x v vl vu lo hi sl Q I rx hs pl pu ⟨a, xs, ex, hx, q1, q2⟩
  subst ex
  cases rx
  obtain ⟨its, w, ht, hz⟩ := I.tuple hx
  have hn : its.toArray.size = xs.length := by rw [List.size_toArray]; exact w.length.symm
  refine ⟨"tuple", _, PyProof.Rows.slot_tuple_getitem.lookup, ht.typeIs, ?_⟩
  by_cases hw : HT.sIx xs.length 0 lo = 0 ∧ HT.sIx xs.length xs.length hi = xs.length
  · exact getItem_tuple_whole ht hs pl pu (by rw [hn]; exact hw) ⟨.ref a, H, I, rfl, q1 hw⟩
  · refine HT.getItem_tuple_cut ht hs pl pu (by rw [hn]; exact hw) ?_ (by rw [hn]; exact hz)
    rw [hn]
    obtain ⟨I2, hf⟩ := tNew I ((w.drop (HT.sIx xs.length 0 lo)).take (HT.sIx xs.length xs.length hi - HT.sIx xs.length 0 lo)) (Nat.le_trans (cutV_length xs lo hi) hz)
    exact ⟨.ref _, _, I2, rfl, q2 _ _ hf rfl⟩
theorem sl_any : SlR X (rISl X.K cm) := by
  intro pins s σ H x v vl vu lo hi sl Q I rx hs pl pu h
  obtain ⟨ι, S, a, rl, ra, q⟩ := h
  unfold slI at q
  split at q
  · rename_i xs
    simp only [RV] at ra
    obtain ⟨p, vs, rfl, h1, h2⟩ := ra
    refine sl_tupN pins s σ H _ v vl vu lo hi sl Q I rx hs pl pu ⟨p, vs, rfl, h1.toT, fun hw => ?_, q.tup rl (h2.cut lo hi)⟩
    rw [h2.length] at hw
    refine q.here rl ?_
    rw [cut_whole hw]
    simp only [RV]
    exact ⟨p, vs, rfl, h1, h2⟩
  · simp only [RV] at ra; subst ra
    split at q
    · rename_i hz
      exact C8.sl_txt pins s σ H _ v vl vu lo hi sl Q I rx hs pl pu ⟨_, rfl, by rw [sizeLine_eq]; omega, q.here rl (by simp only [RV])⟩
    · exact q.elim
  · split at q
    · rename_i n xs e
      obtain ⟨vs, rfl, h1, h2⟩ := lst_ok rl ra e
      exact sl_list pins s σ H _ v vl vu lo hi sl Q I rx hs pl pu ⟨_, vs, rfl, .inl (.inl h1), q.lst rl (h2.cut lo hi)⟩
    · rename_i xs e
      simp only [RV] at ra
      obtain ⟨hk, rfl⟩ := ra
      obtain ⟨o, vs, e1, e2⟩ := rl.cell _ _ e
      exact sl_list pins s σ H _ v vl vu lo hi sl Q I rx hs pl pu ⟨_, vs, rfl, .inl (.inr ⟨o, e1⟩), q.lst rl (e2.cut lo hi)⟩
    · exact q.elim
  · exact q.elim
/-- a[::-1] of a tuple -/
theorem sliceApplied_rev {prog : Program} {w : World} {A : Around} {E : Value → Shared → Prop} {s : Shared} {sl : Addr} {vl vu vs : Value} {n : Nat} {Q : Int × Int × Nat → Shared → Prop} (hs : s.heap.IsSliceOf sl vl vu vs) (pl : IsPart vl none) (pu : IsPart vu none) (ps : IsPart vs (some (-1)))
    (h : Q ((n : Int) - 1, -1, n) s) : wpAny (model prog w) A (Builtin.Slice.sliceApplied (.ref sl) (pure (n : Int))) Q E s := by
  obtain ⟨os, hos, hcs, hds⟩ := id hs
  unfold Builtin.Slice.sliceApplied Builtin.Slice.sliceFields
  refine wpAny_bind (wpAny_bind (wpAny_field hos hds (x := vl) rfl (wpAny_bind (wpAny_field hos hds (x := vu) rfl (wpAny_bind (wpAny_field hos hds (x := vs) rfl (wpAny_pure ?_)))))))
  refine wpAny_bind (HT.slicePart_ ps ?_)
  show wpAny _ _ (if ((-1 : Int) == 0) = true then _ else _) _ _ s
  rw [if_neg (by decide)]
  refine wpAny_bind (HT.slicePart_ pl (wpAny_bind (HT.slicePart_ pu (wpAny_bind (wpAny_pure ?_)))))
  have e1 : Builtin.Slice.sliceAdjust none none (-1) (n : Int) = ((n : Int) - 1, -1) := rfl
  have e2 : Builtin.Slice.slicePlaces ((n : Int) - 1) (-1) (-1) = n := by
    unfold Builtin.Slice.slicePlaces
    have h1 : ¬ ((-1 : Int) > 0) := by decide
    have h2 : (- -1 : Int) = 1 := by decide
    simp only [h1, if_false, h2, Int.ediv_one]
    split <;> omega
  show wpAny _ _ (match Builtin.Slice.sliceAdjust none none (-1) (n : Int) with | (lo, hi) => pure (lo, (-1 : Int), Builtin.Slice.slicePlaces lo hi (-1))) _ _ s
  rw [e1]
  show wpAny _ _ (pure ((n : Int) - 1, (-1 : Int), Builtin.Slice.slicePlaces ((n : Int) - 1) (-1) (-1))) _ _ s
  rw [e2]
  exact wpAny_pure h
theorem filterMap_cong {α β : Type} {f g : α → Option β} : ∀ {l : List α}, (∀ x ∈ l, f x = g x) → l.filterMap f = l.filterMap g
  | [], _ => rfl
  | x :: l, h => by
    rw [List.filterMap_cons, List.filterMap_cons, h x (by simp), filterMap_cong fun y hy => h y (by simp [hy])]
theorem RVs.reverse {K : PySem.W.Frag} {ι : Nat → Addr} {n : Nat} {H : Hp} : ∀ {xs : List IV} {vs : List V}, RVs K ι n H xs vs → RVs K ι n H xs.reverse vs.reverse
  | [], vs, h => by
    have := h.length
    cases vs with
    | nil => exact .nil
    | cons => simp at this
  | x :: xs, vs, h => by
    obtain ⟨v, r, rfl, h1, h2⟩ := h.uncons
    rw [List.reverse_cons, List.reverse_cons]
    exact (RVs.reverse h2).append (.cons h1 .nil)
theorem pick_rev (xs : Array Value) : ((List.range xs.size).filterMap fun (k : Nat) => xs[((xs.size : Int) - 1 + (k : Int) * -1).toNat]?) = xs.toList.reverse := by
  have e : (List.range xs.size).filterMap (fun (k : Nat) => xs[((xs.size : Int) - 1 + (k : Int) * -1).toNat]?) = ((List.range xs.size).map fun k => xs.size - 1 - k).filterMap (xs[·]?) := by
    rw [List.filterMap_map]
    apply filterMap_cong
    intro k hk
    have := List.mem_range.mp hk
    have q : ((xs.size : Int) - 1 + (k : Int) * -1).toNat = xs.size - 1 - k := by omega
    simp only [Function.comp, q]
  rw [e, PySem.W.krv_range, List.filterMap_reverse, PySem.W.krv_all]
theorem getItem_tuple_rev {prog : Program} {w : World} {A : Around} {E : Value → Shared → Prop} {s : Shared} {t sl : Addr} {items : Array Value} {vl vu vs : Value} {Q : Value → Shared → Prop} (ht : IsTup s.heap t items) (hs : s.heap.IsSliceOf sl vl vu vs) (pl : IsPart vl none) (pu : IsPart vu none) (ps : IsPart vs (some (-1)))
    (h : Q (.ref s.heap.objs.size) { s with heap := s.heap.push { cls := .type "tuple", data := .seq items.toList.reverse.toArray } })
    (hsz : items.size ≤ sizeLine) : wpAny (model prog w) A (getItem (.ref t) (.ref sl)) Q E s := by
  have htake : sizeOk (.seq items.toList.reverse.toArray) := by
    show items.toList.reverse.toArray.size ≤ sizeLine
    rw [List.size_toArray, List.length_reverse, Array.length_toList]
    omega
  obtain ⟨os, hos, hcs, hds⟩ := id hs
  have hTs : s.TypeIs (.ref sl) "slice" := ⟨os, hos, hcs⟩
  unfold getItem
  try with_reducible refine wpAny_holding ?_
  first | refine wpAny_bind (wpAny_pure ?_) | skip
  refine wpAny_bind (wpAny_sequenceKey ht.typeIs (by decide) ?_)
  refine wpAny_bind (wpAny_callSpecial?_slot (name := Str.ofString "__getitem__") ht.typeIs PyProof.Rows.slot_tuple_getitem
    (wpAny_call_entry PyProof.Rows.slot_tuple_getitem ht.typeIs PyProof.Rows.entry_tuple_getitem ?_ (PyProof.Rows.args_tuple_getitem _ _)))
  show wpAny _ _ (Builtin.Tuple.tupleItemsOf (.ref t) >>= _) _ _ s
  refine wpAny_bind (tupleItemsOf_ ht ?_)
  refine wpAny_bind (wpAny_typeOf hTs ?_)
  rw [if_pos (by decide)]
  refine wpAny_bind (sliceApplied_rev hs pl pu ps ?_)
  show wpAny _ _ (if (((items.size : Int) - 1 == 0 && (-1 : Int) == 1 && items.size == items.size) = true) then _ else _) _ _ s
  rw [if_neg (by simp), pick_rev]
  first
    | exact wpAny_bind (m := Builtin.Tuple.tupleExact _) (wpAny_newObj_type (wpAny_pure ⟨_, rfl, wpAny_pure h⟩) htake)
    | exact wpAny_bind (m := Builtin.Tuple.tupleExact _) (wpAny_newObj_type (wpAny_bind (wpAny_pure (wpAny_pure ⟨_, rfl, wpAny_pure h⟩))) htake)
    | exact wpAny_bind (wpAny_bind (m := Builtin.Tuple.tupleExact _) (wpAny_newObj_type (wpAny_pure (wpAny_pure ⟨_, rfl, wpAny_pure h⟩)) htake))
    | exact wpAny_bind (wpAny_bind (m := Builtin.Tuple.tupleExact _) (wpAny_newObj_type (wpAny_pure ⟨_, rfl, wpAny_pure h⟩) htake))
/-- what e[::-1] makes of a value -/
def RevR (X : Cx) (r : V → Hp → VK → Prop) : Prop := ∀ (pins : List (Addr × Obj)) (s : Shared) (σ : L2.St) (H : Hp) (x : V) (v vl vu vs : Value) (sl : Addr) (Q : VK), Inv X pins σ H s → RelV x v → s.heap.IsSliceOf sl vl vu vs → IsPart vl none → IsPart vu none → IsPart vs (some (-1)) → r x H Q →
  ∃ (T : String) (id : String), s.TypeIs v T ∧ typeLookup (.type T) "__getitem__" = pure (some (.builtin id)) ∧ wpAny (model X.prog X.w) X.A (getItem v (.ref sl)) (EP X pins σ Q) X.xe s
theorem pe_revA {e : Expr} {te : TE} {r : V → Hp → VK → Prop} {k : Nat} {p1 p2 p3 pos : Pos} (hr : RevR X r) (he : PE X e te) : PE X (.Subscript e (.Slice none none (some (.UnaryOp .USub (.Constant (.int 1) k p1) p2)) p3) pos) (tUn r te) := by
  refine ⟨fun pins s σ H Q I h => ?_⟩
  refine Subscript_ (thn (he.run pins s σ H _ I h) fun v s1 ⟨x, H1, I1, r1, q1⟩ => ?_)
  have hst : PO X (some (.UnaryOp .USub (.Constant (.int 1) k p1) p2)) (tPart (tUn (rU fun i => .int (-i)) (tC (.int 1)))) := po_some (pe_un un_neg pe_int)
  refine wpAny_Slice (thn (po_none.run pins s1 σ H1 (fun o H2 => o = none ∧ H2 = H1) I1 ⟨rfl, rfl⟩) fun vl s2 ⟨l, H2, I2, pl, el, e2⟩ => ?_)
  subst el e2
  refine thn (po_none.run pins s2 σ H2 (fun o H3 => o = none ∧ H3 = H2) I2 ⟨rfl, rfl⟩) fun vu s3 ⟨u, H3, I3, pu, eu, e3⟩ => ?_
  subst eu e3
  refine thn (hst.run pins s3 σ H3 (fun o H4 => o = some (-1) ∧ H4 = H3) I3 ⟨1, rfl, -1, rfl, rfl, rfl⟩) fun vs s4 ⟨o, H4, I4, ps, eo, e4⟩ => ?_
  subst eo e4
  have I5 : Inv X pins σ H4 { s4 with heap := s4.heap.push { cls := .type "slice", data := .fields #[vl, vu, vs] } } := I4.kept (t' := s4.toks) fun b ob q => Heap.get?_push_of_some _ q
  obtain ⟨T, id, hT, hl, hw⟩ := hr pins _ σ H4 x v vl vu vs _ Q I5 r1 (Heap.IsSliceOf.new _ vl vu vs) pl pu ps q1
  show wpAny (model X.prog X.w) X.A (subscriptTail e (.Slice none none (some (.UnaryOp .USub (.Constant (.int 1) k p1) p2)) p3) v (.ref s4.heap.objs.size)) (EP X pins σ Q) X.xe { s4 with heap := s4.heap.push { cls := .type "slice", data := .fields #[vl, vu, vs] } }
  exact tail_any (ops := [v, .ref s4.heap.objs.size]) hT hl hw (by with_unfolding_all rfl)
def rIRev (K : PySem.W.Frag) (cm : Cm) : V → Hp → VK → Prop := fun x H Q => ∃ ι S a, Rel K cm ι S H ∧ RV K ι S.length H a x ∧ OutV K cm ι S H (revI a S) Q
theorem rev_any : RevR X (rIRev X.K cm) := by
  intro pins s σ H x v vl vu vs sl Q I rx hs pl pu ps h
  obtain ⟨ι, S, a, rl, ra, q⟩ := h
  unfold revI at q
  split at q
  · rename_i xs
    simp only [RV] at ra
    obtain ⟨p, ws, rfl, h1, h2⟩ := ra
    cases rx
    obtain ⟨its, r, ht, hz⟩ := I.tuple h1.toT
    refine ⟨"tuple", _, ht.typeIs, PyProof.Rows.slot_tuple_getitem.lookup, ?_⟩
    have hlen := r.length
    refine getItem_tuple_rev ht hs pl pu ps ?_ (by rw [List.size_toArray]; omega)
    obtain ⟨I2, hf⟩ := tNew I r.reverse (by rw [List.length_reverse]; exact hz)
    exact ⟨.ref _, _, I2, rfl, q.tup rl h2.reverse _ _ hf rfl⟩
  · split at q
    · rename_i n xs e
      obtain ⟨ws, rfl, h1, h2⟩ := lst_ok rl ra e
      cases rx
      obtain ⟨its, r, ht, hz⟩ := I.list (.inl (.inl h1))
      refine ⟨"list", _, ht.isList.typeIs, PySem.slot_list_getitem.lookup, ?_⟩
      have hlen := r.length
      refine wpAny_getItem_list_slice ht.isList hs pl pu ps (by decide) ?_ (by rw [List.size_toArray]; omega)
      rw [PySem.W.krv_pick]
      refine ⟨.ref _, _, I.laid (t' := s.toks) (o := .lst ws.reverse) (fun b ob q => Heap.get?_push_of_some _ q) (Nat.le_refl _) ?_, rfl, q.lst rl h2.reverse _ (I.hok.fresh (Nat.le_refl _))⟩
      exact ⟨by rw [List.length_reverse]; exact hz, _, 0, r.reverse, Heap.get?_push_size _ rfl⟩
    · exact q.elim
  · exact q.elim
end
end Wg
/-! WgG: built-in functions and types that are called, isinstance, append. -/
namespace Wg
open PySem PySem.Spec PyProof.Rows L2
def bV : Bf → Value
  | .len => .builtin "len"
  | .abs => .builtin "abs"
  | .max => .builtin "max"
  | .min => .builtin "min"
  | .repr => .builtin "repr"
  | .str => .type "str"
  | .int => .type "int"
  | .list => .type "list"
  | .tuple => .type "tuple"
  | .sum => .builtin "sum"
  | .all => .builtin "all"
  | .any => .builtin "any"
  | .sorted => .builtin "sorted"
def bN : Bf → Str
  | .len => "len"
  | .abs => "abs"
  | .max => "max"
  | .min => "min"
  | .repr => "repr"
  | .str => "str"
  | .int => "int"
  | .list => "list"
  | .tuple => "tuple"
  | .sum => "sum"
  | .all => "all"
  | .any => "any"
  | .sorted => "sorted"
theorem bN_boot : ∀ f : Bf, bootBuiltins (bN f) = some (bV f)
  | .len => by decide +kernel
  | .abs => by decide +kernel
  | .max => by decide +kernel
  | .min => by decide +kernel
  | .repr => by decide +kernel
  | .str => by decide +kernel
  | .int => by decide +kernel
  | .list => by decide +kernel
  | .tuple => by decide +kernel
  | .sum => by decide +kernel
  | .all => by decide +kernel
  | .any => by decide +kernel
  | .sorted => by decide +kernel
section
variable {X : Cx} {cm : Cm} {pins : List (Addr × Obj)} {σ : L2.St} {H : Hp} {s : Shared} {ι : Nat → Addr} {S : Sto}
theorem RVs.one {a : IV} {xs : List V} (h : RVs X.K ι S.length H [a] xs) : ∃ x, xs = [x] ∧ RV X.K ι S.length H a x := by
  obtain ⟨v, r, rfl, h1, h2⟩ := h.uncons
  simp only [RVs] at h2; subst h2
  exact ⟨v, rfl, h1⟩
theorem RVs.two {a b : IV} {xs : List V} (h : RVs X.K ι S.length H [a, b] xs) : ∃ x y, xs = [x, y] ∧ RV X.K ι S.length H a x ∧ RV X.K ι S.length H b y := by
  obtain ⟨v, r, rfl, h1, h2⟩ := h.uncons
  obtain ⟨y, rfl, h3⟩ := h2.one
  exact ⟨v, y, rfl, h1, h3⟩
theorem ints_ok : ∀ {xs : List IV} {ns : List Int} {vs : List V}, optAll intOf xs = some ns → RVs X.K ι S.length H xs vs → vs = ns.map V.int
  | [], ns, vs, e, h => by simp only [optAll, Option.some.injEq] at e; subst e; simp only [RVs] at h; subst h; rfl
  | x :: xs, ns, vs, e, h => by
    obtain ⟨v, r, rfl, h1, h2⟩ := h.uncons
    simp only [optAll] at e
    cases e1 : intOf x with
    | none => rw [e1] at e; cases e
    | some i =>
      rw [e1] at e
      cases e2 : optAll intOf xs with
      | none => rw [e2] at e; cases e
      | some ms =>
        rw [e2] at e; cases e
        cases x <;> simp only [intOf, Option.some.injEq] at e1 <;> first | (cases e1; done) | skip
        subst e1
        simp only [RV] at h1
        rw [h1, ints_ok e2 h2]; rfl
theorem bls_ok : ∀ {xs : List IV} {ns : List Bool} {vs : List V}, optAll blOf xs = some ns → RVs X.K ι S.length H xs vs → vs = ns.map V.bl
  | [], ns, vs, e, h => by simp only [optAll, Option.some.injEq] at e; subst e; simp only [RVs] at h; subst h; rfl
  | x :: xs, ns, vs, e, h => by
    obtain ⟨v, r, rfl, h1, h2⟩ := h.uncons
    simp only [optAll] at e
    cases e1 : blOf x with
    | none => rw [e1] at e; cases e
    | some i =>
      rw [e1] at e
      cases e2 : optAll blOf xs with
      | none => rw [e2] at e; cases e
      | some ms =>
        rw [e2] at e; cases e
        cases x <;> simp only [blOf, Option.some.injEq] at e1 <;> first | (cases e1; done) | skip
        subst e1
        simp only [RV] at h1
        rw [h1, bls_ok e2 h2]; rfl
end
theorem reads_scal {h : Heap} {u : Value} {d : PyData} {as : List Addr} (r : Reads h u d as) : (∃ a, u = .ref a) ∨ (u = .none ∧ d = .none) ∨ (∃ b, u = .bool b ∧ d = .bool b) ∨ (∃ i t, u = .int i t ∧ d = .int i) ∨ (∃ x t, u = .str x t ∧ d = .str x) := by
  cases r with
  | none => exact .inr (.inl ⟨rfl, rfl⟩)
  | bool b => exact .inr (.inr (.inl ⟨b, rfl, rfl⟩))
  | int i t => exact .inr (.inr (.inr (.inl ⟨i, t, rfl, rfl⟩)))
  | str x t => exact .inr (.inr (.inr (.inr ⟨x, t, rfl, rfl⟩)))
  | list _ _ _ _ => exact .inl ⟨_, rfl⟩
  | tuple _ _ _ _ => exact .inl ⟨_, rfl⟩
  | dict _ _ _ _ _ => exact .inl ⟨_, rfl⟩
section
variable {X : Cx} {cm : Cm}
/-- repr of data -/
theorem call_reprD (hg : X.A.guards = some []) (hu : X.A.units + 64 < cLine) : CallR X (.builtin "repr") (rIl X.K cm (bltI .repr)) := by
  intro pins s σ H xs us Q I r h
  obtain ⟨ι, S, as, rl, ra, q⟩ := h
  unfold bltI at q
  split at q
  all_goals first | (rename_i h1; cases h1; done) | skip
  · rename_i a h1
    obtain ⟨x, rfl, rx⟩ := ra.one
    obtain ⟨u, rfl, ru⟩ := vals1 r
    cases e : toD S a with
    | none => rw [e] at q; exact q.elim
    | some d =>
      rw [e] at q
      simp only [] at q
      split at q
      · rename_i hs
        simp only [shownOk, Bool.and_eq_true, decide_eq_true_eq, Bool.or_eq_true, Bool.not_eq_true'] at hs
        obtain ⟨⟨⟨s1, s2⟩, s3⟩, s4⟩ := hs
        have hz : d.shown.length ≤ sizeLine := by rw [sizeLine_eq]; omega
        have qq := q.here (v := .str d.shown) rl (by simp only [RV])
        obtain ⟨ad, rd, hn⟩ := toD_reads I rl rx ru e
        rcases reads_scal rd with ⟨p, rfl⟩ | ⟨rfl, rfl⟩ | ⟨b, rfl, rfl⟩ | ⟨i, t, rfl, rfl⟩ | ⟨z, t, rfl, rfl⟩
        · refine repr_of_reads' rd s1 (fun hd => ?_) hg (by omega) (fun _ _ e => e) (fun h' t tk hk => ⟨.str d.shown, H, I.kept (t' := tk) hk, ⟨t, rfl⟩, qq⟩) hz
          rcases s2 with s2 | s2
          · rw [hd] at s2; cases s2
          · exact hn s2
        · exact PySem.P.repr_of_none ⟨.str _, H, I.tok _, ⟨_, rfl⟩, by simpa only [PyData.shown] using qq⟩
        · exact PySem.P.repr_of_bool ⟨.str _, H, I.tok _, ⟨_, rfl⟩, by simpa only [PyData.shown] using qq⟩
        · exact PySem.P.repr_of_int (by simpa [PyData.showable] using s1) ⟨.str _, H, I.tok _, ⟨_, rfl⟩, by simpa only [PyData.shown] using qq⟩
        · exact PySem.P.repr_of_str ⟨.str _, H, I.tok _, ⟨_, rfl⟩, by simpa only [PyData.shown] using qq⟩ (by simpa only [PyData.shown] using hz)
      · exact q.elim
  · exact q.elim
theorem foldl_max_le : ∀ (ns : List Int) (m : Int), m ≤ ns.foldl max m ∧ ∀ y ∈ ns, y ≤ ns.foldl max m
  | [], m => ⟨Int.le_refl _, fun _ h => by cases h⟩
  | n :: ns, m => by
    obtain ⟨h1, h2⟩ := foldl_max_le ns (max m n)
    simp only [List.foldl_cons]
    refine ⟨by omega, fun y hy => ?_⟩
    rcases List.mem_cons.mp hy with rfl | hy
    · omega
    · exact h2 y hy
theorem foldl_max_mem : ∀ (ns : List Int) (m : Int), ns.foldl max m ∈ m :: ns
  | [], m => by simp
  | n :: ns, m => by
    simp only [List.foldl_cons]
    rcases List.mem_cons.mp (foldl_max_mem ns (max m n)) with h | h
    · rw [h]
      by_cases q : m ≤ n
      · rw [Int.max_eq_right q]; simp
      · rw [Int.max_eq_left (by omega)]; simp
    · exact List.mem_cons_of_mem _ (List.mem_cons_of_mem _ h)
theorem foldl_max_eq {ns : List Int} {m k : Int} (hk : k ∈ m :: ns) (hle : ∀ y, y ∈ m :: ns → y ≤ k) : k = ns.foldl max m := by
  have h1 := hle _ (foldl_max_mem ns m)
  obtain ⟨h2, h3⟩ := foldl_max_le ns m
  rcases List.mem_cons.mp hk with h | h
  · omega
  · have := h3 k h; omega
theorem foldl_min_le : ∀ (ns : List Int) (m : Int), ns.foldl min m ≤ m ∧ ∀ y ∈ ns, ns.foldl min m ≤ y
  | [], m => ⟨Int.le_refl _, by simp⟩
  | n :: ns, m => by
    obtain ⟨h1, h2⟩ := foldl_min_le ns (min m n)
    refine ⟨by simp only [List.foldl_cons]; omega, fun y hy => ?_⟩
    simp only [List.foldl_cons]
    rcases List.mem_cons.mp hy with h | h
    · omega
    · exact h2 y h
theorem foldl_min_mem : ∀ (ns : List Int) (m : Int), ns.foldl min m ∈ m :: ns
  | [], m => by simp
  | n :: ns, m => by
    simp only [List.foldl_cons]
    rcases List.mem_cons.mp (foldl_min_mem ns (min m n)) with h | h
    · rw [h]
      by_cases q : m ≤ n
      · rw [Int.min_eq_left q]; simp
      · rw [Int.min_eq_right (by omega)]; simp
    · exact List.mem_cons_of_mem _ (List.mem_cons_of_mem _ h)
theorem foldl_min_eq {ns : List Int} {m k : Int} (hk : k ∈ m :: ns) (hle : ∀ y, y ∈ m :: ns → k ≤ y) : k = ns.foldl min m := by
  have h1 := hle _ (foldl_min_mem ns m)
  obtain ⟨h2, h3⟩ := foldl_min_le ns m
  rcases List.mem_cons.mp hk with h | h
  · omega
  · have := h3 k h; omega
theorem reads_ints {h : Heap} : ∀ {ns : List Int} {us : List Value}, Vals (ns.map V.int) us → ∃ as, ReadsAll h us (ns.map PyData.int) as
  | [], _, .nil => ⟨_, ReadsAll.nil⟩
  | n :: ns, _, .cons h1 h2 => by
    obtain ⟨t, rfl⟩ := h1
    obtain ⟨as, r⟩ := reads_ints (h := h) h2
    exact ⟨_, ReadsAll.cons (Reads.int n t) r⟩
theorem maxD_ints : ∀ (ns : List Int) (m : Int), PySem.W.maxD (.int m) (ns.map PyData.int) = .int (ns.foldl max m)
  | [], m => rfl
  | n :: ns, m => by
    have ih := maxD_ints ns (max m n)
    unfold PySem.W.maxD at ih ⊢
    rw [List.map_cons, List.foldl_cons, List.foldl_cons, ← ih, PySem.W.dataLt_int]
    congr 1
    by_cases h : m < n
    · rw [decide_eq_true h, if_pos rfl, Int.max_eq_right (by omega)]
    · rw [decide_eq_false h, if_neg (by simp), Int.max_eq_left (by omega)]
theorem alike_ints (ns : List Int) : PySem.W.AlikeAll (ns.map PyData.int) := by
  refine ⟨fun x hx y hy => ?_, fun x hx => ?_⟩
  · obtain ⟨a, _, rfl⟩ := List.mem_map.mp hx
    obtain ⟨b, _, rfl⟩ := List.mem_map.mp hy
    simp [PySem.W.alike]
  · obtain ⟨a, _, rfl⟩ := List.mem_map.mp hx
    simp
theorem depth_ints : ∀ ns : List Int, PyData.depthAll (ns.map PyData.int) = 0
  | [] => rfl
  | n :: ns => by simp [PyData.depthAll, PyData.depth, depth_ints ns]
/-- max, sum of a tuple of ints -/
theorem cr_maxT (hc : X.calm = true) (hu : X.A.units + 64 < cLine) : CallR X (.builtin "max") (fun vs H Q => ∃ (a : Addr) (m : Int) (ns : List Int), vs = [V.ref a] ∧ SqT X.K H a ((m :: ns).map V.int) ∧ Q (.int (ns.foldl max m)) H) := by
  intro pins s σ H vs us Q I r h
  obtain ⟨a, m, ns, rfl, hs, q⟩ := h
  obtain ⟨its, rv, hl, _⟩ := I.tuple hs
  rw [Vals.ref1 r]
  obtain ⟨as, hr⟩ := reads_ints (h := s.heap) rv
  refine PySem.W.max_tuple_data (x := .int m) (xs := ns.map PyData.int) (vs := its.toArray) (as := as) (I.ok.hd hc) hl hr (alike_ints (m :: ns)) ?_ fun i v h' tk bs hv hd hk => ?_
  · have := depth_ints (m :: ns)
    rw [List.map_cons] at this
    rw [this]; omega
  · rw [maxD_ints] at hd
    rcases reads_scal hd with ⟨p, e⟩ | ⟨_, e⟩ | ⟨b, _, e⟩ | ⟨i, t, rfl, e⟩ | ⟨z, t, _, e⟩
    · subst e; cases hd
    · cases e
    · cases e
    · cases e; exact ⟨.int _, H, I.kept hk, ⟨_, rfl⟩, q⟩
    · cases e
theorem cr_minT (hc : X.calm = true) (hu : X.A.units + 64 < cLine) : CallR X (.builtin "min") (fun vs H Q => ∃ (a : Addr) (m : Int) (ns : List Int), vs = [V.ref a] ∧ SqT X.K H a ((m :: ns).map V.int) ∧ Q (.int (ns.foldl min m)) H) := by
  intro pins s σ H vs us Q I r h
  obtain ⟨a, m, ns, rfl, hs, q⟩ := h
  obtain ⟨its, rv, hl, _⟩ := I.tuple hs
  rw [Vals.ref1 r]
  obtain ⟨as, hr⟩ := reads_ints (h := s.heap) rv
  refine PySem.W.min_tuple_data (x := .int m) (xs := ns.map PyData.int) (vs := its.toArray) (as := as) (I.ok.hd hc) hl hr (alike_ints (m :: ns)) ?_ fun i v h' tk bs hv hd hk => ?_
  · have := depth_ints (m :: ns)
    rw [List.map_cons] at this
    rw [this]; omega
  · rw [PySem.W.minD_ints] at hd
    rcases reads_scal hd with ⟨p, e⟩ | ⟨_, e⟩ | ⟨b, _, e⟩ | ⟨i, t, rfl, e⟩ | ⟨z, t, _, e⟩
    · subst e; cases hd
    · cases e
    · cases e
    · cases e; exact ⟨.int _, H, I.kept hk, ⟨_, rfl⟩, q⟩
    · cases e
theorem cr_sumT (hc : X.calm = true) : CallR X (.builtin "sum") (fun vs H Q => ∃ (a : Addr) (ns : List Int), vs = [V.ref a] ∧ SqT X.K H a (ns.map V.int) ∧ Q (.int ns.sum) H) := by
  intro pins s σ H vs us Q I r h
  obtain ⟨a, ns, rfl, hs, q⟩ := h
  obtain ⟨its, rv, hl, _⟩ := I.tuple hs
  rw [Vals.ref1 r]
  have hi := rv.ints
  obtain ⟨xs, e⟩ := hi.allInts.items
  have hn : numsOf (intItems xs).toList = ns := by rw [← e]; exact hi.numsOf
  rw [nums_intItems] at hn
  rw [e] at hl
  refine PySem.W.ktm_sumG (I.ok.hd hc) hl fun h' tk t' hk => ?_
  rw [preSum_eq, List.take_of_length_le (by simp), hn]
  exact ⟨.int _, H, I.kept hk, ⟨_, rfl⟩, q⟩
theorem sortI_eq {ns ns' : List Int} (h1 : ns'.Perm ns) (h2 : ns'.Pairwise (· ≤ ·)) : ns' = sortI ns := by
  have h3 : (sortI ns).Pairwise (· ≤ ·) := (List.pairwise_mergeSort (le := fun a b : Int => decide (a ≤ b)) (fun a b c h1 h2 => by simp only [decide_eq_true_eq] at *; omega) (fun a b => by simp only [Bool.or_eq_true, decide_eq_true_eq]; omega) ns).imp fun h => by simpa using h
  exact List.Perm.eq_of_pairwise (fun a b _ _ => Int.le_antisymm) h2 h3 (h1.trans (List.mergeSort_perm ns _).symm)
theorem rvs_ints {K : PySem.W.Frag} {n : Nat} : ∀ ns : List Int, RVs K ι n H (ns.map IV.int) (ns.map V.int)
  | [] => by simp only [List.map_nil, RVs]
  | x :: ns => RVs.cons (by simp only [RV]) (rvs_ints ns)
/-- tuple(a list) -/
theorem call_tupleN : CallR X (.type "tuple") (fun xs H Q => ∃ p ys, xs = [.ref p] ∧ SqL X.K H p ys ∧ ∀ (l : Addr) (o : Obj), H l = none → o.dict = none → Q (.ref l) (upd H l (.frz o (.tup ys)))) := by
  intro pins s σ H xs us Q I r ⟨p, ys, ex, hq, q⟩
  subst ex
  obtain ⟨u, rfl, rx⟩ := vals1 r
  cases rx
  obtain ⟨its, w, pl, hz⟩ := I.list hq
  have hl := w.length
  refine call_tuple_list pl.isList (fun h' kp => ?_) (by simp only [List.size_toArray] <;> omega)
  obtain ⟨I2, hf⟩ := tNew (I.kept (t' := s.toks) kp) w hz
  exact ⟨.ref _, _, I2, rfl, q _ _ hf rfl⟩
theorem blt_ok (hc : X.calm = true) (hg : X.A.guards = some []) (hu : X.A.units + 64 < cLine) (hdg : PySem.W.nsIn X.K cStatics "sys.int_max_str_digits" = some none) (f : Bf) : CallR X (bV f) (rIl X.K cm (bltI f)) := by
  by_cases hf : f = .repr
  · subst hf; exact call_reprD hg hu
  intro pins s σ H xs us Q I r h
  obtain ⟨ι, S, as, rl, ra, q⟩ := h
  unfold bltI at q
  split at q
  · -- len
    obtain ⟨x, rfl, rx⟩ := ra.one
    rename_i a
    unfold lenI at q
    cases e : itemsI a S with
    | some ys =>
      rw [e] at q
      obtain ⟨p, vs, rfl, hq, hv⟩ := items_ok rl rx e
      exact call_len_seq pins s σ H _ us Q I r ⟨p, vs, rfl, hq, by rw [hv.length]; exact q.here rl (by simp only [RV])⟩
    | none =>
      rw [e] at q
      simp only [] at q
      split at q
      · simp only [RV] at rx; subst rx
        split at q
        · exact call_len_str pins s σ H _ us Q I r ⟨_, rfl, by rw [sizeLine_eq]; omega, q.here rl (by simp only [RV])⟩
        · exact q.elim
      · cases e1 : dctOf a S with
        | none => rw [e1] at q; exact q.elim
        | some kvs =>
          rw [e1] at q
          obtain ⟨n, ps, rfl, hn, hS, rfl, h1, h2, h3⟩ := dct_ok rl rx e1
          have hl : ps.length = kvs.length := by simpa using congrArg List.length h2
          cases r with
          | cons r1 r2 =>
            cases r2
            cases r1
            exact d_len I (.inl h1) fun t s' I' => ⟨.int (ps.length : Nat), H, I', ⟨t, rfl⟩, by rw [hl]; exact q.here rl (by simp only [RV])⟩
  · obtain ⟨x, rfl, rx⟩ := ra.one
    simp only [RV] at rx; subst rx
    exact call_abs pins s σ H _ us Q I r ⟨_, rfl, q.here rl (by simp only [RV])⟩
  · obtain ⟨x, y, rfl, rx, ry⟩ := ra.two
    simp only [RV] at rx ry; subst rx ry
    exact call_max2 hc pins s σ H _ us Q I r ⟨_, _, rfl, q.here rl (by simp only [RV])⟩
  · obtain ⟨x, y, rfl, rx, ry⟩ := ra.two
    simp only [RV] at rx ry; subst rx ry
    exact call_min2 hc pins s σ H _ us Q I r ⟨_, _, rfl, q.here rl (by simp only [RV])⟩
  · exact absurd rfl hf
  · obtain ⟨x, rfl, rx⟩ := ra.one
    simp only [RV] at rx; subst rx
    split at q
    · rename_i hm
      exact call_str_int pins s σ H _ us Q I r ⟨_, rfl, hm, q.here rl (by simp only [RV])⟩
    · exact q.elim
  · obtain ⟨x, rfl, rx⟩ := ra.one
    simp only [RV] at rx; subst rx
    exact call_int1 pins s σ H _ us Q I r (.inl ⟨_, rfl, q.here rl (by simp only [RV])⟩)
  · obtain ⟨x, rfl, rx⟩ := ra.one
    simp only [RV] at rx; subst rx
    exact call_int1 pins s σ H _ us Q I r (.inr ⟨_, rfl, q.here rl (by simp only [RV])⟩)
  · obtain ⟨x, rfl, rx⟩ := ra.one
    simp only [RV] at rx; subst rx
    split at q
    · rename_i n hn
      split at q
      · rename_i hl
        exact call_int_any hdg pins s σ H _ us Q I r ⟨_, n, rfl, hn, by rw [sizeLine_eq]; omega, q.here rl (by simp only [RV])⟩
      · exact q.elim
    · exact q.elim
  · obtain ⟨x, rfl, rx⟩ := ra.one
    split at q
    · rename_i ys e
      obtain ⟨p, vs, rfl, hq, hv⟩ := items_ok rl rx e
      exact call_list_of pins s σ H _ us Q I r ⟨p, vs, rfl, hq, q.lst rl hv⟩
    · exact q.elim
  · obtain ⟨x, rfl, rx⟩ := ra.one
    split at q
    · rename_i ys e
      obtain ⟨p, vs, rfl, hq, hv⟩ := items_okN rl rx e
      rcases hq with hq | hq
      · exact call_tupleN pins s σ H _ us Q I r ⟨p, vs, rfl, hq, q.tup rl hv⟩
      · exact call_tuple_of pins s σ H _ us Q I r ⟨p, vs, rfl, .inr ⟨hq.toT, q.here rl (by simp only [RV]; exact ⟨p, vs, rfl, hq, hv⟩)⟩⟩
    · exact q.elim
  · obtain ⟨x, rfl, rx⟩ := ra.one
    split at q
    · rename_i ys e
      obtain ⟨p, vs, rfl, h1, h2⟩ := items_ok rl rx e
      split at q
      · rename_i ns e2
        have := ints_ok e2 h2
        subst this
        rcases h1 with h1 | h1
        · exact cr_sum hc pins s σ H _ us Q I r ⟨_, ns, rfl, h1, q.here rl (by simp only [RV])⟩
        · exact cr_sumT hc pins s σ H _ us Q I r ⟨_, ns, rfl, h1, q.here rl (by simp only [RV])⟩
      · exact q.elim
    · exact q.elim
  · obtain ⟨x, rfl, rx⟩ := ra.one
    split at q
    · rename_i ys e
      obtain ⟨vs, rfl, h1, h2⟩ := lst_ok rl rx e
      split at q
      · rename_i ns e2
        have := bls_ok e2 h2
        subst this
        exact cr_all hc pins s σ H _ us Q I r ⟨_, ns, rfl, .inl (.inl h1), q.here rl (by simp only [RV])⟩
      · exact q.elim
    · exact q.elim
  · obtain ⟨x, rfl, rx⟩ := ra.one
    split at q
    · rename_i ys e
      obtain ⟨vs, rfl, h1, h2⟩ := lst_ok rl rx e
      split at q
      · rename_i ns e2
        have := bls_ok e2 h2
        subst this
        exact cr_any hc pins s σ H _ us Q I r ⟨_, ns, rfl, .inl (.inl h1), q.here rl (by simp only [RV])⟩
      · exact q.elim
    · exact q.elim
  · obtain ⟨x, rfl, rx⟩ := ra.one
    split at q
    · rename_i ys e
      obtain ⟨p, vs, rfl, h1, h2⟩ := items_ok rl rx e
      split at q
      · rename_i m ns e2
        have := ints_ok e2 h2
        subst this
        rcases h1 with h1 | h1
        · refine cr_max hc pins s σ H _ us Q I r ⟨_, m :: ns, rfl, h1, by simp, fun k hk hle => ?_⟩
          rw [show k = ns.foldl max m from foldl_max_eq hk hle]
          exact q.here rl (by simp only [RV])
        · exact cr_maxT hc hu pins s σ H _ us Q I r ⟨_, m, ns, rfl, h1, q.here rl (by simp only [RV])⟩
      · exact q.elim
    · exact q.elim
  · obtain ⟨x, rfl, rx⟩ := ra.one
    split at q
    · rename_i ys e
      obtain ⟨p, vs, rfl, h1, h2⟩ := items_ok rl rx e
      split at q
      · rename_i m ns e2
        have := ints_ok e2 h2
        subst this
        rcases h1 with h1 | h1
        · refine cr_min hc pins s σ H _ us Q I r ⟨_, m :: ns, rfl, h1, by simp, fun k hk hle => ?_⟩
          rw [show k = ns.foldl min m from foldl_min_eq hk hle]
          exact q.here rl (by simp only [RV])
        · exact cr_minT hc hu pins s σ H _ us Q I r ⟨_, m, ns, rfl, h1, q.here rl (by simp only [RV])⟩
      · exact q.elim
    · exact q.elim
  · obtain ⟨x, rfl, rx⟩ := ra.one
    split at q
    · rename_i ys e
      obtain ⟨vs, rfl, h1, h2⟩ := lst_ok rl rx e
      split at q
      · rename_i ns e2
        have := ints_ok e2 h2
        subst this
        refine cr_sortedI pins s σ H _ us Q I r ⟨_, ns, rfl, .inl (.inl h1), fun ns' p hp hs hn => ?_⟩
        rw [sortI_eq hp hs]
        exact q.lst rl (rvs_ints _) p hn
      · exact q.elim
    · exact q.elim
  · exact q.elim
/-! ### isinstance -/
/-- the built-in types asked about -/
def tyN : Ty → String
  | .int => "int"
  | .bool => "bool"
  | .tuple => "tuple"
  | .str => "str"
  | .list => "list"
  | .dict => "dict"
  | .own _ => ""
def tyBlt : Ty → Bool
  | .own _ => false
  | _ => true
theorem sq_ty {K : PySem.W.Frag} {H : Hp} {p : Addr} {vs : List V} (h : SqT K H p vs) : TyX K H (.ref p) (.type "tuple") := by
  rcases h with (h | ⟨o, h⟩) | ⟨o, its, n, hk, hc, _⟩
  · exact .base (.tup h)
  · exact .fTuple h
  · exact .kTuple hk hc
theorem isi_ok (T : Ty) (hT : tyBlt T = true) : ∀ (H : Hp) (x : V) (Q : VK), rI1 X.K cm (fun a S => isiI a T S) x H Q → rIsi X.K [x, .ty (tyN T)] H Q := by
  intro H x Q h
  obtain ⟨ι, S, a, rl, ra, q⟩ := h
  have go : ∀ (t : String) (b : Bool), isiI a T S = .ok (.bl b) S → TyX X.K H x (.type t) → kitB t (tyN T) = some b → rIsi X.K [x, .ty (tyN T)] H Q := fun t b h0 h1 h2 => by
    refine ⟨x, _, .type t, .type (tyN T), b, rfl, .ty _, h1, kit_ty h2, ?_⟩
    have q' : OutV X.K cm ι S H (isiI a T S) Q := q
    rw [h0] at q'
    exact q'.here rl (by simp only [RV])
  cases a with
  | non =>
    simp only [RV] at ra; subst ra
    cases T <;> first | (simp [tyBlt] at hT; done) | exact go "NoneType" false rfl (.base .non) (by decide +kernel)
  | bl b =>
    simp only [RV] at ra; subst ra
    cases T <;> first | (simp [tyBlt] at hT; done) | exact go "bool" false rfl (.base (.bl b)) (by decide +kernel) | exact go "bool" true rfl (.base (.bl b)) (by decide +kernel)
  | int i =>
    simp only [RV] at ra; subst ra
    cases T <;> first | (simp [tyBlt] at hT; done) | exact go "int" false rfl (.base (.int i)) (by decide +kernel) | exact go "int" true rfl (.base (.int i)) (by decide +kernel)
  | str z =>
    simp only [RV] at ra; subst ra
    cases T <;> first | (simp [tyBlt] at hT; done) | exact go "str" false rfl (.base (.str z)) (by decide +kernel) | exact go "str" true rfl (.base (.str z)) (by decide +kernel)
  | tup xs =>
    simp only [RV] at ra
    obtain ⟨p, vs, rfl, h1, h2⟩ := ra
    cases T <;> first | (simp [tyBlt] at hT; done) | exact go "tuple" false rfl (sq_ty h1.toT) (by decide +kernel) | exact go "tuple" true rfl (sq_ty h1.toT) (by decide +kernel)
  | cls k => cases T <;> (simp only [isiI] at q; exact q.elim)
  | ref k =>
    simp only [RV] at ra
    obtain ⟨hk, rfl⟩ := ra
    cases e : S[k]? with
    | none => simp only [isiI, e] at q; exact q.elim
    | some c =>
      have hc := rl.cell k c e
      cases c with
      | lst ys =>
        obtain ⟨vs, e1, _⟩ := hc
        cases T <;> first | (simp [tyBlt] at hT; done) | exact go "list" false (by simp only [isiI, e]) (.base (.lst e1)) (by decide +kernel) | exact go "list" true (by simp only [isiI, e]) (.base (.lst e1)) (by decide +kernel)
      | frz ys =>
        obtain ⟨o, vs, e1, _⟩ := hc
        cases T <;> first | (simp [tyBlt] at hT; done) | exact go "list" false (by simp only [isiI, e]) (.base (.frz e1)) (by decide +kernel) | exact go "list" true (by simp only [isiI, e]) (.base (.frz e1)) (by decide +kernel)
      | dct ys =>
        obtain ⟨vs, e1, _⟩ := hc
        cases T <;> first | (simp [tyBlt] at hT; done) | exact go "dict" false (by simp only [isiI, e]) (.base (.dK e1)) (by decide +kernel) | exact go "dict" true (by simp only [isiI, e]) (.base (.dK e1)) (by decide +kernel)
      | ins c fs => simp only [isiI, e] at q; exact q.elim
      | dtt ys => cases T <;> (simp only [isiI, e] at q; exact q.elim)
/-! ### o.append(x) -/
theorem mth_append' {K : PySem.W.Frag} : ∀ (H : Hp) (x y : V) (Q : VK), (∃ ι S a b, Rel K cm ι S H ∧ RV K ι S.length H a x ∧ RV K ι S.length H b y ∧ OutV K cm ι S H (mthI "append" a [b] S) Q) → rAppend x [y] H Q := by
  intro H x y Q h
  obtain ⟨ι, S, a, b, rl, ra, rb, q⟩ := h
  unfold mthI at q
  split at q
  · rename_i n
    split at q
    · rename_i xs z e e2
      cases e2
      obtain ⟨vs, rfl, h1, h2⟩ := lst_ok rl ra e
      rw [if_pos rfl] at q
      split at q
      · rename_i hm
        simp only [szOk, decide_eq_true_eq] at hm
        have hk : n < S.length := (List.getElem?_eq_some_iff.mp e).1
        refine ⟨_, vs, y, rfl, rfl, h1, by rw [h2.length, sizeLine_eq]; omega, ?_⟩
        have ht : ∀ a vs', SqN K H a vs' → SqN K (upd H (ι n) (.lst (vs ++ [y]))) a vs' := fun _ _ hq => hq.upd_at fun _ _ z => by rw [h1] at z; cases z
        obtain ⟨r1, st⟩ := rl.put hk (o := .lst (vs ++ [y])) (c := .lst (xs ++ [b])) ⟨_, upd_same, (h2.append (RVs.cons rb .nil)).map ht (fun _ _ => rfl) (Nat.le_refl _)⟩
        exact q _ _ _ st r1 (by simp only [RV])
      · exact q.elim
    · exact q.elim
  · exact q.elim
theorem mth_extend' {K : PySem.W.Frag} : ∀ (H : Hp) (x y : V) (Q : VK), (∃ ι S a b, Rel K cm ι S H ∧ RV K ι S.length H a x ∧ RV K ι S.length H b y ∧ OutV K cm ι S H (mthI "extend" a [b] S) Q) → rExtend x [y] H Q := by
  intro H x y Q h
  obtain ⟨ι, S, a, b, rl, ra, rb, q⟩ := h
  unfold mthI at q
  split at q
  · rename_i n
    split at q
    · rename_i xs z e e2
      cases e2
      obtain ⟨vs, rfl, h1, h2⟩ := lst_ok rl ra e
      rw [if_neg (by decide), if_neg (by decide), if_pos rfl] at q
      split at q
      · rename_i m
        split at q
        · rename_i zs e3
          obtain ⟨ws, hy, h3, h4⟩ := lst_ok rl rb e3
          split at q
          · rename_i hm
            simp only [szOk, decide_eq_true_eq] at hm
            have hk : n < S.length := (List.getElem?_eq_some_iff.mp e).1
            refine ⟨_, _, vs, ws, rfl, by rw [hy], h1, h3, by rw [h2.length, h4.length, sizeLine_eq]; omega, ?_⟩
            have ht : ∀ a vs', SqN K H a vs' → SqN K (upd H (ι n) (.lst (vs ++ ws))) a vs' := fun _ _ hq => hq.upd_at fun _ _ z => by rw [h1] at z; cases z
            obtain ⟨r1, st⟩ := rl.put hk (o := .lst (vs ++ ws)) (c := .lst (xs ++ zs)) ⟨_, upd_same, (h2.append h4).map ht (fun _ _ => rfl) (Nat.le_refl _)⟩
            exact q _ _ _ st r1 (by simp only [RV])
          · exact q.elim
        · exact q.elim
      · exact q.elim
    · exact q.elim
  · exact q.elim
theorem mth_pop' {K : PySem.W.Frag} : ∀ (H : Hp) (x y : V) (Q : VK), (∃ ι S a b, Rel K cm ι S H ∧ RV K ι S.length H a x ∧ RV K ι S.length H b y ∧ OutV K cm ι S H (mthI "pop" a [b] S) Q) → rPopAt x [y] H Q := by
  intro H x y Q h
  obtain ⟨ι, S, a, b, rl, ra, rb, q⟩ := h
  unfold mthI at q
  split at q
  · rename_i n
    split at q
    · rename_i xs z e e2
      cases e2
      obtain ⟨vs, rfl, h1, h2⟩ := lst_ok rl ra e
      rw [if_neg (by decide), if_neg (by decide), if_neg (by decide), if_pos rfl] at q
      split at q
      · rename_i i
        simp only [RV] at rb
        subst rb
        split at q
        · rename_i hm
          simp only [Bool.and_eq_true, decide_eq_true_eq] at hm
          cases ej : seqIndex? i xs.length with
          | none => rw [ej] at q; exact q.elim
          | some j =>
            rw [ej] at q
            simp only [] at q
            cases ex : xs[j]? with
            | none => rw [ex] at q; exact q.elim
            | some z =>
              rw [ex] at q
              obtain ⟨w, hw, rw'⟩ := h2.get ex
              have hk : n < S.length := (List.getElem?_eq_some_iff.mp e).1
              refine ⟨_, vs, i, j, w, rfl, rfl, h1, by omega, by omega, by rw [h2.length]; exact ej, hw, ?_⟩
              have ht : ∀ a vs', SqN K H a vs' → SqN K (upd H (ι n) (.lst (vs.eraseIdx j))) a vs' := fun _ _ hq => hq.upd_at fun _ _ z => by rw [h1] at z; cases z
              have he : RVs K ι S.length H (xs.eraseIdx j) (vs.eraseIdx j) := by
                rw [List.eraseIdx_eq_take_drop_succ, List.eraseIdx_eq_take_drop_succ]
                exact (h2.take j).append (h2.drop (j + 1))
              obtain ⟨r1, st⟩ := rl.put hk (o := .lst (vs.eraseIdx j)) (c := .lst (xs.eraseIdx j)) ⟨_, upd_same, he.map ht (fun _ _ => rfl) (Nat.le_refl _)⟩
              exact q _ _ _ st r1 (by simpa using rw'.step rl st)
        · exact q.elim
      · exact q.elim
    · exact q.elim
  · exact q.elim
/-- t.index(x) of flat items -/
def rTidx (K : PySem.W.Frag) : V → List V → Hp → VK → Prop := fun x xs H Q => ∃ a ys y j z, x = .ref a ∧ xs = [y] ∧ SqT K H a ys ∧ flatV y = true ∧ ys.all flatV = true ∧ ys[j]? = some z ∧ eqV z y = true ∧ (∀ m z', m < j → ys[m]? = some z' → eqV z' y = false) ∧ Q (.int (j : Nat)) H
theorem mt_tidx {X : Cx} : MtR X "tuple.index" (rTidx X.K) := by
  intro pins s σ H x xs v us Q I rx rxs h
  obtain ⟨a, ys, y, j, z, rfl, rfl, hs, fy, fys, hz, hzj, hno, q⟩ := h
  cases rx
  cases rxs with
  | cons ry rt =>
    rename_i uy ut
    cases rt
    obtain ⟨its, rv, pl, hlen⟩ := I.tuple hs
    obtain ⟨⟨cls, dd, dt, sl⟩, ho, hc, n, hd⟩ := pl
    simp only at hc hd
    subst hc hd
    obtain ⟨u, hu, ru⟩ := rv.get hz
    obtain ⟨hjl, hje⟩ := List.getElem?_eq_some_iff.mp hu
    have hvl := rv.length
    have hj : j < its.toArray.size := by simpa using hjl
    have hsl := sizeLine_eq
    refine call_meets PySem.F.slot_tuple_index ⟨_, ho, rfl⟩ PySem.F.entry_tuple_index (PySem.F.args_tuple_index_2 _ _)
      (TI.tuple_indexAt a its.toArray n dd sl uy (eqU y) j hj ?_ ?_) ⟨ho, fun u' hu' => mem_eqAt ry fy rv fys u' (by simpa using hu'), ?_⟩
    · have e1 : its.toArray[j] = u := by simpa using hje
      rw [e1, eqU_of ru (flat_at fys hz)]
      exact hzj
    · intro m hm hmj
      have hml : m < its.length := by simpa using hm
      have hmy : m < ys.length := by omega
      have hy' : ys[m]? = some ys[m] := List.getElem?_eq_getElem hmy
      obtain ⟨u2, hu2, ru2⟩ := rv.get hy'
      obtain ⟨_, hme⟩ := List.getElem?_eq_some_iff.mp hu2
      have e1 : its.toArray[m] = u2 := by simpa using hme
      rw [e1, eqU_of ru2 (flat_at fys hy')]
      exact hno m _ hmj hy'
    · exact ⟨.int (j : Nat), H, I.tok _, ⟨_, rfl⟩, q⟩
theorem mt_tidxA {X : Cx} : MtR X "tuple.index" (fun x xs H Q => ∃ ι S ys bs, Rel X.K cm ι S H ∧ RV X.K ι S.length H (.tup ys) x ∧ RVs X.K ι S.length H bs xs ∧ OutV X.K cm ι S H (mth2 "index" (.tup ys) bs S) Q) := by
  intro pins s σ H x xs0 v us Q I rx rxs h
  obtain ⟨ι, S, ys, bs, rl, ra, rb, q⟩ := h
  unfold mth2 at q
  split at q
  · rename_i xs y e
    cases e
    obtain ⟨w, rfl, rw'⟩ := RVs.one rb
    rw [if_pos rfl] at q
    split at q
    · rename_i hf
      rw [Bool.and_eq_true] at hf
      split at q
      · rename_i j ej
        obtain ⟨hj, p1, p2⟩ := List.findIdx?_eq_some_iff_getElem.mp ej
        simp only [RV] at ra
        obtain ⟨a, vs, rfl, h1, h2⟩ := ra
        obtain ⟨v, hv, rv⟩ := h2.get (List.getElem?_eq_getElem hj)
        have fl : ∀ m (hm : m < ys.length), flatI ys[m] = true := fun m hm => List.all_eq_true.mp hf.2 _ (List.getElem_mem hm)
        refine mt_tidx pins s σ H _ _ _ us Q I rx rxs ⟨_, vs, w, j, v, rfl, rfl, h1.toT, flat_ok hf.1 rw', flats_ok hf.2 h2, hv, by rw [eqF_ok (fl j hj) hf.1 rv rw']; exact p1, fun m z' hm hz => ?_, q.here rl (by simp only [RV])⟩
        obtain ⟨v', hv', rv'⟩ := h2.get (List.getElem?_eq_getElem (show m < ys.length by omega))
        rw [hz] at hv'; cases hv'
        rw [eqF_ok (fl m (by omega)) hf.1 rv' rw']
        simpa using p2 m hm
      · exact q.elim
    · exact q.elim
  · exact q.elim
/-- l.index(x): of flat items, or by data -/
def rIdxA (K : PySem.W.Frag) (cm : Cm) : V → List V → Hp → VK → Prop := fun x xs H Q => ∃ ι S a b y, xs = [y] ∧ Rel K cm ι S H ∧ RV K ι S.length H a x ∧ RV K ι S.length H b y ∧ OutV K cm ι S H (mthI "index" a [b] S) Q
theorem mt_indexA {X : Cx} (hu : X.A.units + 70 < cLine) : MtR X "list.index" (rIdxA X.K cm) := by
  intro pins s σ H x xs0 v us Q I rx rxs h
  obtain ⟨ι, S, a, b, y, rfl, rl, ra, rb, q⟩ := h
  unfold mthI at q
  split at q
  · rename_i n
    split at q
    · rename_i xs z e e2
      cases e2
      have ra0 := ra
      obtain ⟨vs, rfl, h1, h2⟩ := lst_ok rl ra e
      rw [if_neg (by decide), if_pos rfl] at q
      split at q
      · rename_i hf
        rw [Bool.and_eq_true] at hf
        split at q
        · rename_i j ej
          obtain ⟨hj, p1, p2⟩ := List.findIdx?_eq_some_iff_getElem.mp ej
          obtain ⟨v, hv, rv⟩ := h2.get (List.getElem?_eq_getElem hj)
          have fl : ∀ m (hm : m < xs.length), flatI xs[m] = true := fun m hm => List.all_eq_true.mp hf.2 _ (List.getElem_mem hm)
          refine mt_index pins s σ H _ _ _ us Q I rx rxs ⟨_, vs, y, j, v, rfl, rfl, .inl (.inl h1), flat_ok hf.1 rb, flats_ok hf.2 h2, hv, by rw [eqF_ok (fl j hj) hf.1 rv rb]; exact p1, fun m z' hm hz => ?_, q.here rl (by simp only [RV])⟩
          obtain ⟨v', hv', rv'⟩ := h2.get (List.getElem?_eq_getElem (show m < xs.length by omega))
          rw [hz] at hv'; cases hv'
          rw [eqF_ok (fl m (by omega)) hf.1 rv' rb]
          simpa using p2 m hm
        · exact q.elim
      · cases e1 : seqD (toD S (.ref n)) with
        | none => rw [e1] at q; exact q.elim
        | some ds =>
          cases e2 : toD S b with
          | none => rw [e1, e2] at q; exact q.elim
          | some d =>
            rw [e1, e2] at q
            simp only [] at q
            split at q
            · rename_i hs
              rw [Bool.and_eq_true] at hs
              split at q
              · rename_i j ej
                obtain ⟨hj, p1, p2⟩ := List.findIdx?_eq_some_iff_getElem.mp ej
                cases rx
                cases rxs with
                | cons ry rt =>
                  cases rt
                  obtain ⟨bs, r1, _⟩ := toD_reads I rl rb ry e2
                  have hl : ∃ as, Reads s.heap (.ref (ι n)) (.list ds) as := by
                    rcases seqD_cases e1 with e3 | e3
                    · obtain ⟨as, r2, _⟩ := toD_reads I rl ra0 rfl e3
                      exact ⟨as, r2⟩
                    · simp only [toD, goD, refs, refD, e] at e3
                      split at e3 <;> cases e3
                  obtain ⟨as, r2⟩ := hl
                  have hroom := room_in (ds := ds) hs.1 hu
                  obtain ⟨its0, rv0, _, hlen0⟩ := I.list (.inl (.inl h1))
                  cases r2 with
                  | @list a' o' vs' n' ds' as' ho hc hdt h4 =>
                    obtain ⟨cls, dd, data, sls⟩ := o'
                    simp only at hc hdt
                    subst hc hdt
                    have hn : vs'.toList.length = ds.length := SeqAt.ReadsAll.length ds _ _ h4
                    have hmap : vs'.toList.map (SeqAt.readOf s.heap) = ds := SeqAt.readsAll_map ds _ _ hs.2 h4
                    have hj2 : j < vs'.size := by rw [← Array.length_toList, hn]; exact hj
                    have at_ : ∀ (m : Nat) (hm : m < vs'.size) (hm2 : m < ds.length), SeqAt.readOf s.heap vs'[m] = ds[m] := by
                      intro m hm hm2
                      have : (vs'.toList.map (SeqAt.readOf s.heap))[m]? = ds[m]? := by rw [hmap]
                      rw [List.getElem?_map, List.getElem?_eq_getElem (by rw [Array.length_toList]; exact hm), List.getElem?_eq_getElem hm2] at this
                      simpa using this
                    have hz : vs'.size ≤ sizeLine := by
                      have q2 := I.list (.inl (.inl h1))
                      obtain ⟨its, rv, ⟨o2, n2, ho2, _, _, hd2⟩, hz⟩ := q2
                      rw [ho] at ho2
                      cases ho2
                      simp only at hd2
                      cases hd2
                      rw [List.size_toArray, ← rv.length]; exact hz
                    refine call_meets PySem.F.slot_list_index ⟨_, ho, rfl⟩ PySem.F.entry_list_index (PySem.F.args_list_index_2 _ _)
                      (SeqAt.list_indexAt (ι n) vs' _ dd sls _ (fun u => PyData.eqv (SeqAt.readOf s.heap u) d) j hj2 (by rw [sizeLine_eq] at hz; omega) ?_ ?_) ⟨ho, SeqAt.items_eqAt h4 r1 hs.2 (SeqAt.canLay_of_shaped hs.1) hroom, ?_⟩
                    · show PyData.eqv (SeqAt.readOf s.heap vs'[j]) d = true
                      rw [at_ j hj2 hj]; exact p1
                    · intro m hm hmj
                      show PyData.eqv (SeqAt.readOf s.heap vs'[m]) d = false
                      rw [at_ m hm (by omega)]
                      simpa using p2 m hmj
                    · exact ⟨.int (j : Nat), H, I.tok _, ⟨_, rfl⟩, q.here rl (by simp only [RV])⟩
              · exact q.elim
            · exact q.elim
    · exact q.elim
  · exact q.elim
end
end Wg
/-! WgH: from the model's syntax to ours; calls of own defs. -/
namespace Wg
open PySem PySem.Spec PyProof.Rows L2
/-! ### the step from one syntax to the other -/
/-- hot: within an except suite -/
structure CC where
  N : List Str
  sc : Scope
  hot : Bool := false
structure GI where
  defs : List Str
  glob : List Str
  blt : List Str
  exc : List Str
  cls : List Str := []
  atts : List Str := []
  mets : List Str := []
  /-- an exception's class and what isinstance says yes to -/
  esup : List (Str × List Str) := []
  /-- locals that hold dicts whose keys are tuples -/
  tdn : List Str := []
  /-- the text's file; the methods that are called by super() -/
  file : Str := Str.empty
  sups : List Str := []
def visK (c : CC) (x : Str) : Bool := match c.sc.names.lookup x with
  | some .local => true
  | some .cell => true
  | some .free => true
  | _ => false
def isGl (c : CC) (x : Str) : Bool := match c.sc.names.lookup x with
  | some .globalImplicit => true
  | _ => false
def plainN (x : Str) : Bool := !(x == "__debug__") && !(x == "__classdict__") && decide (x ≠ "__name__")
def bfs : List Bf := [.len, .abs, .max, .min, .repr, .str, .int, .list, .tuple, .sum, .all, .any, .sorted]
def bfOf (x : Str) : Option Bf := bfs.find? fun f => decide (bN f = x)
def tys : List Ty := [.int, .bool, .tuple, .str, .list, .dict]
def tyOf (x : Str) : Option Ty := tys.find? fun T => decide (Str.ofString (tyN T) = x)
def opOf : Operator → Option Bop
  | .Add => some .add
  | .Sub => some .sub
  | .Mult => some .mul
  | .FloorDiv => some .fdiv
  | .Mod => some .mod
  | .Pow => some .pow
  | _ => none
def cpOf : CmpOp → Option Cop
  | .Eq => some .eq
  | .NotEq => some .ne
  | .Lt => some .lt
  | .LtE => some .le
  | .Gt => some .gt
  | .GtE => some .ge
  | .In => some .isin
  | .NotIn => some .notin
  | .Is => some .is
  | .IsNot => some .isnot
def ixOf (N : List Str) (x : Str) : Option Nat := N.findIdx? fun y => decide (y = x)
def andL : List PX → Option PX
  | [] => none
  | [p] => some p
  | p :: r => match andL r with | some q => some (.and p q) | none => none
def orL : List PX → Option PX
  | [] => none
  | [p] => some p
  | p :: r => match orL r with | some q => some (.or p q) | none => none
/-- a name as a target -/
def cpTn (c : CC) (x : Str) : Option Nat := match c.sc.names.lookup x with
  | some .local => ixOf c.N x
  | some .cell => ixOf c.N x
  | _ => none
def cpT : Nat → CC → Expr → Option Tg
  | 0, _, _ => none
  | n + 1, c, e => match e with
    | .Name x _ => (cpTn c x).map Tg.nm
    | .Tuple es _ _ => if c.hot then none else (optAll (cpT n c) es).map Tg.tp
    | _ => none
mutual
def Tg.ins : Tg → List Nat
  | .nm i => [i]
  | .tp ts => tgIns ts
def tgIns : List Tg → List Nat
  | [] => []
  | t :: ts => t.ins ++ tgIns ts
end
def ownOf (N : List Str) (scope : Scope) : List (Str × Nat) := scope.names.filterMap fun p => match p.2 with
  | .local => (ixOf N p.1).map fun i => (p.1, i)
  | .cell => (ixOf N p.1).map fun i => (p.1, i)
  | _ => none
def noIf : Expr → Bool
  | .IfExp _ _ _ _ => false
  | _ => true
def noSup : Expr → Bool
  | .Call (.Name _ _) [] [] _ => false
  | _ => true
def noFold : Expr → Bool
  | .Set _ _ _ => false
  | _ => true
/-- arguments whose last one is starred -/
def cpStar (f : Expr → Option PX) : List Expr → Option (List PX × PX)
  | [] => none
  | [.Starred e _] => (f e).map fun p => ([], p)
  | e :: es => match f e, cpStar f es with
    | some p, some (ps, q) => some (p :: ps, q)
    | _, _ => none
def isTup : Expr → Bool
  | .Tuple _ _ _ => true
  | _ => false
def isNm : Expr → Bool
  | .Name _ _ => true
  | _ => false
def cpIt (f : Expr → Option PX) (g : GI) (c : CC) (tg e : Expr) : Option PIt := match e with
  | .Call (.Name x _) [.Starred a _] [] _ => if x = "zip" then (if isGl c x && decide (x ∈ g.blt) && isNm tg then (f a).map .zips else none) else (f e).map .val
  | .Call (.Name x _) [a] [] _ => if x = "range" then (if isGl c x && decide (x ∈ g.blt) then (f a).map fun p => .rng [p] else none)
    else if x = "enumerate" then (if isGl c x && decide (x ∈ g.blt) && isTup tg then (f a).map .enum else none)
    else (f e).map .val
  | .Call (.Name x _) [a, b] [] _ => if x = "zip" then (if isGl c x && decide (x ∈ g.blt) && isTup tg then (match f a, f b with
      | some p, some q => some (.zip p q)
      | _, _ => none) else none) else if x = "range" then (if isGl c x && decide (x ∈ g.blt) then (match f a, f b with
      | some p, some q => some (.rng [p, q])
      | _, _ => none) else none) else (f e).map .val
  | e => (f e).map .val
/-- a list that nothing else can hold is made on the way -/
def isLc : PX → Bool
  | .lc _ _ _ _ _ => true
  | .gc e => isLc e
  | _ => false
def gcW (ps : List PX) (e : PX) : PX := if ps.any isLc then .gc e else e
/-- the argument of range(..), the only one of a call -/
def rgOf (g : GI) (c : CC) : List Expr → Option Expr
  | [.Call (.Name x _) [a] [] _] => if decide (x = "range") && isGl c x && decide (x ∈ g.blt) then some a else none
  | _ => none
/-- the argument of set(..), the only one of a call -/
def stOf (g : GI) (c : CC) : List Expr → Option Expr
  | [.Call (.Name x _) [a] [] _] => if decide (x = "set") && isGl c x && decide (x ∈ g.blt) then some a else none
  | _ => none
/-- a method of texts -/
def txM (m : Str) : Bool := decide (m = "split") || decide (m = "startswith") || decide (m = "removeprefix") || decide (m = "join")
/-- a part of an f-string -/
def cpPt (f : Expr → Option PX) : Expr → Option PX
  | .Constant (.str x) _ _ => some (.k (.str x))
  | .FormattedValue e k none _ => if k = -1 then f e else none
  | _ => none
/-- list, tuple -/
def isLT : Bf → Option Bool
  | .list => some false
  | .tuple => some true
  | _ => none
def cpE (g : GI) : Nat → CC → Expr → Option PX
  | 0, _, _ => none
  | n + 1, c, e => match e with
    | .Constant (.int i) _ _ => some (.k (.int i))
    | .Constant (.bool b) _ _ => some (.k (.bl b))
    | .Constant .none _ _ => some (.k .non)
    | .Constant (.str x) _ _ => some (.k (.str x))
    | .Name x _ => if plainN x then (if visK c x then (ixOf c.N x).map .loc else if isGl c x && decide (x ∈ g.glob) then some (.glb x) else if isGl c x && decide (x ∈ g.cls) then some (.k (.cls x)) else none) else none
    | .Attribute o f _ => if decide (f ∈ g.atts) && noSup o && !c.hot then (cpE g n c o).map (.att f) else none
    | .BinOp a op b _ => match opOf op, cpE g n c a, cpE g n c b with
      | some o, some p, some q => some (.bin o p q)
      | _, _, _ => none
    | .UnaryOp .USub a _ => (cpE g n c a).map .neg
    | .UnaryOp .Not a _ => if noIf a then (cpE g n c a).map .not else none
    | .Compare a [op] [b] _ => if behindInMarks op b then none else match cpOf op, cpE g n c a, cpE g n c b with
      | some o, some p, some q => some (gcW [p, q] (.cmp o p q))
      | _, _, _ => none
    | .Compare a [op, op'] [b, d] _ => if lastMarks [op, op'] [b, d] then none else match cpOf op, cpOf op', cpE g n c a, cpE g n c b, cpE g n c d with
      | some o, some o', some p, some q, some r => some (.chain o o' p q r)
      | _, _, _, _, _ => none
    | .BoolOp .And es _ => if es.all noIf = false then none else match optAll (cpE g n c) es with | some ps => andL ps | none => none
    | .BoolOp .Or es _ => if es.all noIf = false then none else match optAll (cpE g n c) es with | some ps => orL ps | none => none
    | .IfExp t a b _ => if noIf t = false then none else match cpE g n c t, cpE g n c a, cpE g n c b with
      | some p, some q, some r => some (.ite p q r)
      | _, _, _ => none
    | .Tuple es _ _ => (optAll (cpE g n c) es).map .tup
    | .List es _ => (optAll (cpE g n c) es).map .lst
    | .Dict [] [] _ => some (if c.N.any (fun x => decide (x ∈ g.tdn)) then .dnt else .dct [])
    | .Dict [some (.Constant (.int i) _ _)] [.Constant (.int j) _ _] _ => some (.dct [(.k (.int i), .k (.int j))])
    | .Dict [some a] [b] _ => match cpE g n c a, cpE g n c b with
      | some p, some q => some (.dc1 p q)
      | _, _ => none
    | .Subscript a (.Slice none none (some (.UnaryOp .USub (.Constant (.int 1) _ _) _)) _) _ => (cpE g n c a).map .rev
    | .Subscript a (.Slice lo hi none _) _ => match cpE g n c a, (match lo with | none => some none | some l => (cpE g n c l).map some), (match hi with | none => some none | some l => (cpE g n c l).map some) with
      | some p, some l, some h => some (.sl p l h)
      | _, _, _ => none
    | .Subscript a b _ => match cpE g n c a, cpE g n c b with
      | some p, some q => some (.ix p q)
      | _, _ => none
    | .Call (.Name f fp) args [] _ => if plainN f && isGl c f && !decide (f ∈ g.cls) then (if f ∈ g.defs then if c.hot then none else (match optAll (cpE g n c) args with
          | some ps => some (gcW ps (.call f ps))
          | none => (cpStar (cpE g n c) args).map fun q => .calls f q.1 q.2)
        else if f ∈ g.blt then (if f = "isinstance" then (match args with
          | [a, .Name T _] => if plainN T && isGl c T && decide (T ∈ g.blt) then (match tyOf T, cpE g n c a with | some ty, some p => some (.isi p ty) | _, _ => none)
            else if plainN T && isGl c T && decide (T ∈ g.cls) then (cpE g n c a).map fun p => .iso p T else none
          | _ => none) else if c.hot then none else match bfOf f, args with
            | some b, _ :: _ => (match optAll (cpE g n c) args with
              | some ps => some (.blt b ps)
              | none => match rgOf g c args, isLT b with
                | some a, some t => (cpE g n c a).map (.rgs t)
                | _, _ => match stOf g c args, b with
                  | some a, .len => (cpE g n c a).map .lset
                  | some a, .sorted => (cpE g n c a).map .sset
                  | _, _ => none)
            | _, _ => none) else none)
        else if c.hot then none else (match cpE g n c (.Name f fp) with
          | some q => (match optAll (cpE g n c) args with
            | some ps => some (gcW ps (.new q ps))
            | none => (cpStar (cpE g n c) args).map fun z => .news q z.1 z.2)
          | none => none)
    | .Call (.Attribute o m apos) args [] pos => if (apos.endLine == pos.line) && noSup o && decide (args.length < 20) then (if m ∈ g.mets ∧ m ∈ g.atts then if c.hot then none else (match cpE g n c o, optAll (cpE g n c) args with
        | some p, some ps => some (gcW ps (.met m p ps))
        | _, _ => none) else match args with
          | [a] => if decide (m = "append") || decide (m = "index") || decide (m = "extend") || decide (m = "pop") then (match cpE g n c o, cpE g n c a with
            | some p, some q => some (gcW [q] (.mth m p [q]))
            | _, _ => none) else if txM m then (match cpE g n c o, cpE g n c a with
            | some p, some q => some (gcW [q] (.smt m p q))
            | _, _ => none) else none
          | _ => none) else none
    | .JoinedStr (v1 :: v2 :: vs) _ => (optAll (cpPt (cpE g n c)) (v1 :: v2 :: vs)).map .fst
    | .ListComp elt [⟨tg, iter, ifs, 0⟩] scope _ => if blkC c.N c.sc scope (ownOf c.N scope) && noFold iter && !c.hot then (match cpT n ⟨c.N, scope, false⟩ tg, cpIt (cpE g n c) g c tg iter, optAll (cpE g n ⟨c.N, relS scope c.sc, false⟩) ifs, cpE g n ⟨c.N, relS scope c.sc, false⟩ elt with
        | some t, some it, some fs, some p => if fs.length ≤ 1 && ifs.all noIf && t.ins.all (fun i => decide (i ∈ (ownOf c.N scope).map (·.2))) then some (.lc ((ownOf c.N scope).map (·.2)) t it fs p) else none
        | _, _, _, _ => none) else none
    | _ => none
/-! ### defs that are called -/
section
variable (K : PySem.W.Frag) (cm : Cm)
def OutC (ι : Nat → Addr) (S : Sto) (H : Hp) (r : Rs IV) (Q : VK) (E : XK) : Prop := match r with
  | .ok a S' => ∀ ι' H' v, Step ι S H ι' S' H' → Rel K cm ι' S' H' → RV K ι' S'.length H' a v → Q v H'
  | .exc c S' => ∀ ι' H', Step ι S H ι' S' H' → Rel K cm ι' S' H' → ∀ C, cm c = some C → E (.ref C) none H'
  | .bad => False
/-- the promise of a def, by its evaluation -/
def spI (m : List IV → Sto → Rs IV) : Sp := fun vs H Q E => ∃ ι S ivs, Rel K cm ι S H ∧ RVs K ι S.length H ivs vs ∧ OutC K cm ι S H (m ivs S) Q E
end
/-- a def keeps a promise where no repr is under way -/
structure FnG (P : Program) (w : World) (K : PySem.W.Frag) (mg : Str → Option Value) (base : Heap) (k : Nat) (f : Addr) (sp : Sp) : Prop where
  run : ∀ (A : Around) (outer : List Env) (s : Shared) (H : Hp) (us : List Value) (vs : List V) (Q : VK) (E : XK), Room (2 * k + 1) A → A.guards = some [] → Env0 P w K mg base A outer s H → Vals vs us → sp vs H Q E →
    codeAny (model P w) A (.call (.ref f) ⟨us, []⟩) (CR (L2.CX P w) outer P w H s Q E) s
section
variable {X : Cx} {k : Nat} {f : Addr} {sp : Sp} {W : WX} {x : Str} {p pos : Pos} {e : Expr} {es : List Expr} {t : TA}
theorem run_fnG {pins : List (Addr × Obj)} {σ : L2.St} {H : Hp} {s : Shared} {Q : VK} {us : List Value} {vs : List V} (F : FnG X.prog X.w X.K X.mg X.base k f sp) (hr : Room (2 * k + 1) X.A) (hg : X.A.guards = some []) (tk : Takes X W)
    (I : Inv X pins σ H s) (r : Vals vs us) (h : sp vs H Q (WE W σ)) : wpAny (model X.prog X.w) X.A (call (.ref f) us) (EP X pins σ Q) X.xe s := by
  have key := F.run X.A X.stack s H us vs Q (WE W σ) hr hg I.env0 r h
  refine wpAny_call (codeAny_mono key fun r s' hq => ?_)
  match r, hq with
  | .error e, hq => exact passAt tk σ pins H s e s' I hq
  | .ok (.ret u), hq => exact I.after hq
theorem pe_callG (F : FnG X.prog X.w X.K X.mg X.base k f sp) (hr : Room (2 * k + 1) X.A) (hgd : X.A.guards = some []) (hg : Gl X x) (hm : X.mg x = some (.ref f)) (hk : PySem.W.keepIn X.K (.ref f) = true) (tk : Takes X W)
    (ha : PA X (e :: es) t) (hdb : (x == ("__debug__" : Str)) = false) (he : starEach (e :: es) X.env = (false, eval e X.env) :: starEach es X.env) (hpl : (backTo pos (starEach es X.env)).any (·.1) = false) :
    PE X (.Call (.Name x p) (e :: es) [] pos) (tCallS sp (WE W) t) := by
  refine ⟨fun pins s σ H Q I h => wpAny_Call_Name_kw (ld_glob I hg hm ?_ hdb)⟩
  have args := ha.run pos pins s σ H _ I h
  exact PySem.W.callWith_K (h₀ := X.base) I.ok.mod.kin hk (thn args fun us s1 ⟨vs, H1, I1, r, q⟩ => ⟨I1.kIn, run_fnG F hr hgd tk I1 r q⟩) he hpl
theorem pe_callG0 (F : FnG X.prog X.w X.K X.mg X.base k f sp) (hr : Room (2 * k + 1) X.A) (hgd : X.A.guards = some []) (hg : Gl X x) (hm : X.mg x = some (.ref f)) (hk : PySem.W.keepIn X.K (.ref f) = true) (tk : Takes X W) (hdb : (x == ("__debug__" : Str)) = false) :
    PE X (.Call (.Name x p) [] [] pos) (tCallS sp (WE W) tNil) := by
  refine ⟨fun pins s σ H Q I h => wpAny_Call_Name_kw (ld_glob I hg hm ?_ hdb)⟩
  exact PySem.W.callWith_K0 I.kIn hk (run_fnG (us := []) F hr hgd tk I .nil h)
end
end Wg
/-! WiA: starred calls, new instances, attributes, methods, by promises FnG. -/
namespace Wg
open PySem PySem.Spec PyProof.Rows L2 StX ClX
section
variable {X : Cx} {k : Nat} {f C : Addr} {sp : Sp} {W : WX} {x m : Str} {p pos sp_ apos : Pos} {e o fe : Expr} {es : List Expr} {te tf ta : TE} {t : TA}
/-- x(e, .., *y) -/
theorem pe_callGS2 (F : FnG X.prog X.w X.K X.mg X.base k f sp) (hr : Room (2 * k + 1) X.A) (hgd : X.A.guards = some []) (hg : Gl X x) (hm : X.mg x = some (.ref f)) (hk : PySem.W.keepIn X.K (.ref f) = true) (tk : Takes X W)
    (ha : PA X (e :: es) t) (hdb : (x == ("__debug__" : Str)) = false) (he : starEach (e :: es) X.env = (false, eval e X.env) :: starEach es X.env) (hst : (backTo pos (starEach es X.env)).any (·.1) = true) :
    PE X (.Call (.Name x p) (e :: es) [] pos) (tCallS sp (WE W) t) := by
  refine ⟨fun pins s σ H Q I h => wpAny_Call_Name_kw (ld_glob I hg hm ?_ hdb)⟩
  have args := ha.run pos pins s σ H _ I h
  exact PySem.W.callWith_S2 (h₀ := X.base) I.ok.mod.kin hk (thn args fun us s1 ⟨vs, H1, I1, r, q⟩ => ⟨I1.kIn, run_fnG F hr hgd tk I1 r q⟩) he hst
/-- x(*y) -/
theorem pe_callGS1 (F : FnG X.prog X.w X.K X.mg X.base k f sp) (hr : Room (2 * k + 1) X.A) (hgd : X.A.guards = some []) (hg : Gl X x) (hm : X.mg x = some (.ref f)) (hk : PySem.W.keepIn X.K (.ref f) = true) (tk : Takes X W)
    (he : PE X e te) (hdb : (x == ("__debug__" : Str)) = false) (hst : starEach [.Starred e sp_] X.env = [(true, eval e X.env)]) :
    PE X (.Call (.Name x p) [.Starred e sp_] [] pos) (fun σ H Q => te σ H fun y H1 => ∃ a xs, y = V.ref a ∧ (SqT X.K H1 a xs ∨ SqL X.K H1 a xs) ∧ sp xs H1 Q (WE W σ)) := by
  refine ⟨fun pins s σ H Q I h => wpAny_Call_Name_kw (ld_glob I hg hm ?_ hdb)⟩
  refine PySem.W.callWith_S (h₀ := X.base) I.ok.mod.kin hk (thn (he.run pins s σ H _ I h) fun v s1 ⟨y, H1, I1, ry, a, xs, ey, hxs, q⟩ => ?_) hst
  subst ey
  obtain rfl : v = Value.ref a := ry
  exact star_any I1 hxs fun us s2 I2 rv => ⟨I2.kIn, run_fnG F hr hgd tk I2 rv q⟩
/-! ### a new instance -/
theorem under_guards {A : Around} {C : Addr} {us : List Value} {kw : List (Str × Value)} : (A.under (.builtin "type.__call__" ⟨.ref C :: us, kw⟩)).guards = A.guards := by
  first | rfl | simp [Around.under, Code.isGuard, guardIds]
theorem run_makeG {pins : List (Addr × Obj)} {σ : L2.St} {H : Hp} {s : Shared} {Q : VK} {us : List Value} {vs : List V} (M : Mk X.K C f) (F : FnG X.prog X.w X.K X.mg X.base k f sp) (hr : Room (2 * k + 2) X.A) (hgd : X.A.guards = some []) (tk : Takes X W) (I : Inv X pins σ H s) (r : Vals vs us)
    (h : ∀ x dx, H x = none → H dx = none → dx ≠ x → sp (V.ref x :: vs) (upd (upd H dx (.own x)) x (.ins C dx [])) (fun v H2 => v = .non ∧ Q (.ref x) H2) (WE W σ)) :
    wpAny (model X.prog X.w) X.A (call (.ref C) us) (EP X pins σ Q) X.xe s := by
  have hq := h (s.heap.objs.size + 1) s.heap.objs.size (I.hok.fresh (Nat.le_succ _)) (I.hok.fresh (Nat.le_refl _)) (Nat.ne_of_lt (Nat.lt_succ_self _))
  have I2 := Inv.made (C := C) I
  have r2 : Vals (V.ref (s.heap.objs.size + 1) :: vs) (Value.ref (s.heap.objs.size + 1) :: us) := .cons rfl r
  refine wpAny_call (make_map (f := f) I.kIn M.makes M.init (beq_iff_eq.mp M.fn) (codeAny_mono (F.run _ X.stack _ _ (Value.ref (s.heap.objs.size + 1) :: us) _ _ (WE W σ) (Room.make hr C us []) (under_guards.trans hgd) (I2.env0.make C us []) r2 hq) fun r s' hq' => ?_))
  match r, hq' with
  | .error e, hq' => exact passAt tk σ pins _ _ e s' I2 hq'
  | .ok (.ret u), hq' =>
    obtain ⟨v, H', I3, rv, ev, q3⟩ := I2.after hq'
    subst ev
    exact ⟨rv, ⟨V.ref (s.heap.objs.size + 1), H', I3, rfl, q3⟩⟩
/-- the class at C is made by an __init__ with a promise -/
def MkG (X : Cx) (k : Nat) (C : Addr) (sp : Sp) : Prop := ∃ f, Mk X.K C f ∧ FnG X.prog X.w X.K X.mg X.base k f sp
/-- the new instance, then __init__ -/
def NewQ (W : WX) (σ : L2.St) (C : Addr) (sp : Sp) (vs : List V) (H : Hp) (Q : VK) : Prop := ∀ x dx, H x = none → H dx = none → dx ≠ x → sp (V.ref x :: vs) (upd (upd H dx (.own x)) x (.ins C dx [])) (fun v H2 => v = .non ∧ Q (.ref x) H2) (WE W σ)
def tNewG (X : Cx) (k : Nat) (W : WX) (tf : TE) (t : TA) : TE := fun σ H Q => tf σ H fun y H1 => ∃ C sp, y = .ref C ∧ MkG X k C sp ∧ t σ H1 fun vs H2 => NewQ W σ C sp vs H2 Q
theorem pe_newG (hf : PE X (.Name x p) tf) (hr : Room (2 * k + 2) X.A) (hgd : X.A.guards = some []) (tk : Takes X W) (ha : PA X (e :: es) t) (he : starEach (e :: es) X.env = (false, eval e X.env) :: starEach es X.env) (hpl : (backTo pos (starEach es X.env)).any (·.1) = false) :
    PE X (.Call (.Name x p) (e :: es) [] pos) (tNewG X k W tf t) := by
  refine ⟨fun pins s σ H Q I h => wpAny_Call_Name_kw (thn (hf.run pins s σ H _ I h) fun u s1 ⟨y, H1, I1, ry, C, sp, ey, ⟨f, M, F⟩, q⟩ => ?_)⟩
  subst ey
  obtain rfl : u = Value.ref C := ry
  exact PySem.W.callWith_K (h₀ := X.base) I.ok.mod.kin M.kp (thn (ha.run pos pins s1 σ H1 _ I1 q) fun us s2 ⟨vs, H2, I2, r, q2⟩ => ⟨I2.kIn, run_makeG M F hr hgd tk I2 r q2⟩) he hpl
theorem pe_newG0 (hf : PE X (.Name x p) tf) (hr : Room (2 * k + 2) X.A) (hgd : X.A.guards = some []) (tk : Takes X W) : PE X (.Call (.Name x p) [] [] pos) (tNewG X k W tf tNil) := by
  refine ⟨fun pins s σ H Q I h => wpAny_Call_Name_kw (thn (hf.run pins s σ H _ I h) fun u s1 ⟨y, H1, I1, ry, C, sp, ey, ⟨f, M, F⟩, q⟩ => ?_)⟩
  subst ey
  obtain rfl : u = Value.ref C := ry
  exact PySem.W.callWith_K0 I1.kIn M.kp (run_makeG (us := []) M F hr hgd tk I1 .nil q)
theorem pe_newGS2 (hf : PE X (.Name x p) tf) (hr : Room (2 * k + 2) X.A) (hgd : X.A.guards = some []) (tk : Takes X W) (ha : PA X (e :: es) t) (he : starEach (e :: es) X.env = (false, eval e X.env) :: starEach es X.env) (hst : (backTo pos (starEach es X.env)).any (·.1) = true) :
    PE X (.Call (.Name x p) (e :: es) [] pos) (tNewG X k W tf t) := by
  refine ⟨fun pins s σ H Q I h => wpAny_Call_Name_kw (thn (hf.run pins s σ H _ I h) fun u s1 ⟨y, H1, I1, ry, C, sp, ey, ⟨f, M, F⟩, q⟩ => ?_)⟩
  subst ey
  obtain rfl : u = Value.ref C := ry
  exact PySem.W.callWith_S2 (h₀ := X.base) I.ok.mod.kin M.kp (thn (ha.run pos pins s1 σ H1 _ I1 q) fun us s2 ⟨vs, H2, I2, r, q2⟩ => ⟨I2.kIn, run_makeG M F hr hgd tk I2 r q2⟩) he hst
theorem pe_newGS1 (hf : PE X (.Name x p) tf) (hr : Room (2 * k + 2) X.A) (hgd : X.A.guards = some []) (tk : Takes X W) (he : PE X e te) (hst : starEach [.Starred e sp_] X.env = [(true, eval e X.env)]) :
    PE X (.Call (.Name x p) [.Starred e sp_] [] pos) (fun σ H Q => tf σ H fun y H1 => ∃ C sp, y = .ref C ∧ MkG X k C sp ∧ te σ H1 fun z H2 => ∃ a xs, z = V.ref a ∧ (SqT X.K H2 a xs ∨ SqL X.K H2 a xs) ∧ NewQ W σ C sp xs H2 Q) := by
  refine ⟨fun pins s σ H Q I h => wpAny_Call_Name_kw (thn (hf.run pins s σ H _ I h) fun u s1 ⟨y, H1, I1, ry, C, sp, ey, ⟨f, M, F⟩, q⟩ => ?_)⟩
  subst ey
  obtain rfl : u = Value.ref C := ry
  refine PySem.W.callWith_S (h₀ := X.base) I.ok.mod.kin M.kp (thn (he.run pins s1 σ H1 _ I1 q) fun v s2 ⟨z, H2, I2, rz, a, xs, ez, hxs, q2⟩ => ?_) hst
  subst ez
  obtain rfl : v = Value.ref a := rz
  exact star_any I2 hxs fun us s3 I3 rv => ⟨I3.kIn, run_makeG M F hr hgd tk I3 rv q2⟩
/-! ### attributes -/
theorem getpropG {pins : List (Addr × Obj)} {σ : L2.St} {H : Hp} {s : Shared} {Q : VK} {b : Bool} {E' : Value → Shared → Prop} {a dx q g : Addr} {fs : List (Str × V)} {fn : Str} (I : Inv X pins σ H s) (ea : H a = some (.ins C dx fs)) (c : Cls X.K C) (hp : PropOf X.K C fn q g)
    (F : FnG X.prog X.w X.K X.mg X.base k g sp) (hr : Room (2 * k + 2) X.A) (hgd : X.A.guards = some []) (h : sp [.ref a] H Q (fun _ _ _ => False)) :
    wpAny (model X.prog X.w) X.A (getAttr (.ref a) fn b) (EP X pins σ Q) E' s := by
  obtain ⟨mA, O, _, _, _, _⟩ := ins_get I.hok ea
  obtain ⟨od, J, _⟩ := O.look
  obtain ⟨rest, hrec⟩ := hp.rec_
  have I1 := I.tok (s.toks + 1)
  have hc : (PySem.W.clsIn X.K C).isSome = true := by
    obtain ⟨cd, hc, _⟩ := PySem.W.any_some c.hd
    rw [hc]
    rfl
  refine PySem.W.get_bind I.kIn J (PySem.W.plainGet_of (c.get fn)).1 (PySem.W.findObj_data hc hp.at_ hp.get hp.tak) (PySem.W.plainGet_of (c.get fn)).2 (wpAny_call (PySem.W.prop_get (s := { s with toks := s.toks + 1 }) I.kIn hrec ?_))
  refine codeAny_mono (F.run X.A.in1 X.stack { s with toks := s.toks + 1 } H [.ref a] [.ref a] Q (fun _ _ _ => False) (Room.in1 hr) hgd I1.env0.in1 (.cons rfl .nil) h) fun r s' hq => ?_
  match r, hq with
  | .error er, hq =>
    obtain ⟨_, _, _, _, _, _, _, _, _, _, _, _, z⟩ := hq
    exact z.elim
  | .ok (.ret u), hq =>
    obtain ⟨v, H', I3, rv, q3⟩ := I1.after hq
    show wpAny _ _ (handedOut u) _ _ _
    rw [PySem.W.handedOut_of (handed_of rv)]
    exact wpAny_pure ⟨v, H', I3, rv, q3⟩
/-- what e.f gives, by the value of e -/
def AttR (X : Cx) (k : Nat) (f : Str) (x : V) (H : Hp) (Q : VK) : Prop :=
  (∃ a C dx fs v, x = .ref a ∧ H a = some (.ins C dx fs) ∧ Cls X.K C ∧ NoAttr X.K C f ∧ fs.lookup f = some v ∧ Q v H) ∨
  (∃ a C dx fs v u, x = .ref a ∧ H a = some (.ins C dx fs) ∧ Cls X.K C ∧ Con X.K C f v u ∧ fs.lookup f = none ∧ Q v H) ∨
  (∃ a C dx fs q g sp, x = .ref a ∧ H a = some (.ins C dx fs) ∧ Cls X.K C ∧ PropOf X.K C f q g ∧ FnG X.prog X.w X.K X.mg X.base k g sp ∧ sp [.ref a] H Q (fun _ _ _ => False)) ∨
  (∃ C mc v u, x = .ref C ∧ CRead X.K C mc ∧ CVal X.K C mc f v u ∧ Q v H)
theorem pe_attG {fn : Str} (he : PE X e ta) (hr : Room (2 * k + 2) X.A) (hgd : X.A.guards = some []) (hb : attributeBase e fn X.env (eval e X.env) = eval e X.env) : PE X (.Attribute e fn pos) (fun σ H Q => ta σ H fun x H1 => AttR X k fn x H1 Q) := by
  refine ⟨fun pins s σ H Q I h => attr_of hb (thn (he.run pins s σ H _ I h) fun u s1 ⟨x, H1, I1, rx, q⟩ => ?_)⟩
  rcases q with ⟨a, C, dx, fs, v, rfl, ea, c, n, l, q⟩ | ⟨a, C, dx, fs, v, u0, rfl, ea, c, kk, l, q⟩ | ⟨a, C, dx, fs, q, g, sp, rfl, ea, c, hp, F, h⟩ | ⟨C, mc, v, w, rfl, r, kk, q⟩
  · obtain rfl : u = Value.ref a := rx
    exact getattr_ok I1 ea c n l fun u' s2 I2 ru => ⟨v, H1, I2, ru, q⟩
  · obtain rfl : u = Value.ref a := rx
    exact getcon_ok I1 ea c kk l fun s2 I2 => ⟨v, H1, I2, kk.rel, q⟩
  · obtain rfl : u = Value.ref a := rx
    exact getpropG I1 ea c hp F hr hgd h
  · obtain rfl : u = Value.ref C := rx
    exact getcval_ok I1 r kk fun s2 I2 => ⟨v, H1, I2, kk.rel, q⟩
/-! ### methods -/
theorem methcall_any {M : Model} {A : Around} {E : Value → Shared → Prop} {s : Shared} {env : Env} {args : List Expr} {Q : Value → Shared → Prop} (hbase : attributeBase o m env (eval o env) = eval o env)
    (hfew : ((backTo pos (starEach args env)).all (fun x => !x.1) && (backToKw pos (keywordEach [] env)).all (fun x => x.1.isSome) && decide (args.length + ([] : List Keyword).length + (if ([] : List Keyword).isEmpty then 0 else 1) < 30)) = true)
    (hline : (apos.endLine == pos.line) = true)
    (h : wpAny M A (eval o env) (fun ov s₁ => wpAny M A (getMethod ov m (do return (← importBound o env).getD true)) (fun fx s₂ => wpAny M A (callWith pos fx.1 fx.2 (backTo pos (starEach args env)) []) Q E s₂) E s₁) E s) :
    wpAny M A (eval (.Call (.Attribute o m apos) args [] pos) env) Q E s := by
  rw [arm_eval_Call, hbase]
  refine wpAny_bind (wpAny_mono h (fun ov s₁ h₁ => ?_) fun _ _ e => e)
  refine wpAny_bind (wpAny_standAt ?_)
  have hform : methodCallForm (args.length + ([] : List Keyword).length) (backTo pos (starEach args env)) (backToKw pos (keywordEach [] env)) = true := hfew
  have hpos : methodCallPos true o env apos pos = pure pos := by unfold methodCallPos; simp [hline]
  unfold methodCall
  rw [hform]
  refine wpAny_bind (wpAny_holding (wpAny_mono h₁ (fun fx s₂ h₂ => ?_) fun _ _ e => e))
  exact wpAny_bind (wpAny_of_eq hpos h₂)
/-- the def behind x.m(..), with the value that comes first -/
def MetR (X : Cx) (k : Nat) (m : Str) (x : V) (H : Hp) (sp : Sp) : Prop :=
  (∃ a C dx fs g, x = .ref a ∧ H a = some (.ins C dx fs) ∧ Cls X.K C ∧ Meth X.K C m g ∧ fs.lookup m = none ∧ FnG X.prog X.w X.K X.mg X.base k g sp) ∨
  (∃ C mc p g, x = .ref C ∧ CRead X.K C mc ∧ CMet X.K C mc m p g ∧ FnG X.prog X.w X.K X.mg X.base k g sp)
def tMetG (X : Cx) (k : Nat) (W : WX) (m : Str) (ta : TE) (t : TA) : TE := fun σ H Q => ta σ H fun x H1 => ∃ sp, MetR X k m x H1 sp ∧ t σ H1 fun vs H2 => sp (x :: vs) H2 Q (WE W σ)
theorem run_cmG {pins : List (Addr × Obj)} {σ : L2.St} {H : Hp} {s : Shared} {g q : Addr} {Q : VK} {us : List Value} {vs : List V} (F : FnG X.prog X.w X.K X.mg X.base k g sp) (hr : Room (2 * k + 1) X.A) (hgd : X.A.guards = some []) (tk : Takes X W) (I : Inv X ((q, PySem.W.methodObj (.ref g) (.ref C)) :: pins) σ H s)
    (r : Vals vs us) (h : sp (.ref C :: vs) H Q (WE W σ)) : wpAny (model X.prog X.w) X.A (call (.ref q) us) (EP X pins σ Q) X.xe s := by
  have key := F.run X.A X.stack s H (.ref C :: us) (.ref C :: vs) Q (WE W σ) hr hgd I.env0 (.cons rfl r) h
  have z : wpAny (model X.prog X.w) X.A (call (.ref q) us) (EP X ((q, PySem.W.methodObj (.ref g) (.ref C)) :: pins) σ Q) X.xe s := by
    refine wpAny_call (PySem.W.method_call (pin_at I) (codeAny_mono key fun r s' hq => ?_))
    match r, hq with
    | .error e, hq => exact passAt tk σ _ H s e s' I hq
    | .ok (.ret u), hq => exact I.after hq
  exact thn z fun _ _ y => unpinE y
theorem pe_metG (he : PE X o ta) (hr : Room (2 * k + 1) X.A) (hgd : X.A.guards = some []) (tk : Takes X W) (ha : PA X (e :: es) t) (hst : starEach (e :: es) X.env = (false, eval e X.env) :: starEach es X.env) (hpl : (backTo pos (starEach es X.env)).any (·.1) = false)
    (hb : attributeBase o m X.env (eval o X.env) = eval o X.env) (hlen : (e :: es).length < 20) (hline : (apos.endLine == pos.line) = true) : PE X (.Call (.Attribute o m apos) (e :: es) [] pos) (tMetG X k W m ta t) := by
  refine ⟨fun pins s σ H Q I h => ?_⟩
  refine methcall_any hb ?_ hline (thn (he.run pins s σ H _ I h) fun u s1 ⟨x, H1, I1, rx, sp, q, qq⟩ => ?_)
  · have h1 : (backTo pos (starEach (e :: es) X.env)).all (fun x => !x.1) = true := by
      rw [hst]
      have hpl' := List.any_eq_false.mp hpl
      refine List.all_eq_true.mpr fun y hy => ?_
      rcases List.mem_cons.mp hy with rfl | hy
      · rfl
      · have := hpl' y hy
        simpa using this
    have h2 : decide ((e :: es).length + ([] : List Keyword).length + (if ([] : List Keyword).isEmpty then 0 else 1) < 30) = true := by
      rw [decide_eq_true_eq]
      simp only [List.length_cons, List.length_nil, List.isEmpty_nil, if_true] at hlen ⊢
      omega
    rw [h1, h2]; rfl
  rcases q with ⟨a, C, dx, fs, g, rfl, ea, c, hm, l, F⟩ | ⟨C, mc, p, g, rfl, r, c, F⟩
  · obtain rfl : u = Value.ref a := rx
    refine getmeth_ok I1 ea c hm l ?_
    refine PySem.W.callWith_K (first := [.ref a]) (h₀ := X.base) I.ok.mod.kin hm.kp (thn (ha.run pos pins s1 σ H1 _ I1 qq) fun us s2 ⟨vs, H2, I2, r, q2⟩ => ⟨I2.kIn, ?_⟩) hst hpl
    exact run_fnG (us := .ref a :: us) (vs := .ref a :: vs) F hr hgd tk I2 (.cons rfl r) q2
  · obtain rfl : u = Value.ref C := rx
    refine getmethcm_ok I1 r c fun s2 I2 => ?_
    refine callwith_cm I2 (base_none I1 (Nat.le_refl _)) c.fi (thn (ha.run pos _ s2 σ H1 _ I2 qq) fun us s3 ⟨vs, H2, I3, rv, q2⟩ => ⟨⟨pin_at I3, I3.kIn⟩, ?_⟩) hst hpl
    exact run_cmG F hr hgd tk I3 rv q2
theorem pe_metG0 (he : PE X o ta) (hr : Room (2 * k + 1) X.A) (hgd : X.A.guards = some []) (tk : Takes X W)
    (hb : attributeBase o m X.env (eval o X.env) = eval o X.env) (hline : (apos.endLine == pos.line) = true) : PE X (.Call (.Attribute o m apos) [] [] pos) (fun σ H Q => ta σ H fun x H1 => ∃ a C dx fs g sp, x = .ref a ∧ H1 a = some (.ins C dx fs) ∧ Cls X.K C ∧ Meth X.K C m g ∧ fs.lookup m = none ∧ FnG X.prog X.w X.K X.mg X.base k g sp ∧ sp [x] H1 Q (WE W σ)) := by
  refine ⟨fun pins s σ H Q I h => ?_⟩
  refine methcall_any hb rfl hline (thn (he.run pins s σ H _ I h) fun u s1 ⟨x, H1, I1, rx, a, C, dx, fs, g, sp, ex, ea, c, hm, l, F, qq⟩ => ?_)
  subst ex
  obtain rfl : u = Value.ref a := rx
  refine getmeth_ok I1 ea c hm l ?_
  exact PySem.W.callWith_K0 (first := [.ref a]) I1.kIn hm.kp (run_fnG (us := [.ref a]) (vs := [.ref a]) F hr hgd tk I1 (.cons rfl .nil) qq)
end
end Wg
/-! WgI: what the evaluation of an expression gives, the model gives. -/
namespace Wg
open PySem PySem.Spec PyProof.Rows L2 StX ClX
/-! ### the facts of the module -/
/-- the setter of a property -/
structure PSet (K : PySem.W.Frag) (C : Addr) (f : Str) (p g : Addr) : Prop where
  taker : PySem.W.takerIn K C f = some (some (.ref p))
  typ : PySem.W.typeIn K (.ref p) = some (.type "property")
  rec_ : ∃ a rest, PySem.W.recIn K p "property" = some (a :: .ref g :: rest)
/-- what the class c at C has by the name f -/
def AtOk (K : PySem.W.Frag) (cm : Cm) (C : Addr) (f : Str) : Option At → Prop
  | none => NoAttr K C f
  | some (.meth q) => ∃ a, cm.fn q = some a ∧ Meth K C f a
  | some (.prop gq sq) => ∃ p a, cm.fn gq = some a ∧ PropOf K C f p a ∧ ∀ q, sq = some q → ∃ b, cm.fn q = some b ∧ PSet K C f p b
  | some (.con v) => ∃ z u, Con K C f z u ∧ (∀ ι n H, RV K ι n H v z) ∧ ∃ mc, CRead K C mc ∧ CVal K C mc f z u
  | some (.cmeth q) => ∃ a p mc, cm.fn q = some a ∧ CRead K C mc ∧ CMet K C mc f p a
def baseTys : List String := ["NoneType", "bool", "int", "str", "tuple", "list", "dict"]
structure ClsK (g : GI) (K : PySem.W.Frag) (mg : Str → Option Value) (cm : Cm) (att : Str → Str → Option At) (isub : Str → Str → Bool) (c : Str) (C : Addr) : Prop where
  ns : PySem.W.nsIn K mainGlobals c = some (some (.ref C))
  mg : mg c = some (.ref C)
  cl : Cls K C
  ha : PySem.W.findIn K (.ref C) "__class__" = some (some (.builtin "object.__class__"))
  hn : PySem.W.specialIn K (.builtin "object.__class__") "__get__" = some (some (.builtin "getset_descriptor.__get__"))
  htk : PySem.W.takesIn K (.builtin "object.__class__") = some true
  hm : PySem.W.mroIn K C (.type "object") = some true
  eqo : PySem.W.findIn K (.ref C) "__eq__" = some (some (.builtin "object.__eq__"))
  neo : PySem.W.findIn K (.ref C) "__ne__" = some (some (.builtin "object.__ne__"))
  isb : ∀ t ∈ baseTys, PySem.W.kitOne K (.type t) (.ref C) = some false
  iso : ∀ d D, cm.ins d = some D → PySem.W.kitOne K (.ref D) (.ref C) = some (isub d c)
  init : ∀ q, att c "__init__" = some (.meth q) → ∃ a, cm.fn q = some a ∧ Mk K C a
  at_ : ∀ f ∈ g.atts, AtOk K cm C f (att c f)
structure Wd (g : GI) (P : Program) (w : World) (K : PySem.W.Frag) (mg : Str → Option Value) (base : Heap) (cm : Cm) (Γ : Gam) (k : Nat) : Prop where
  blt : ∀ x ∈ g.blt, mg x = none
  cls : ∀ c ∈ g.cls, ∃ C, cm.ins c = some C ∧ ClsK g K mg cm Γ.att Γ.isub c C
  ins : ∀ c C, cm.ins c = some C → c ∈ g.cls
  attc : ∀ c f a, Γ.att c f = some a → c ∈ g.cls
  meth : ∀ q a, cm.fn q = some a → FnG P w K mg base k a (spI K cm (Γ.call q))
  glob : ∀ x v, x ∈ g.glob → Γ.glob x = some v → ∃ u z, mg x = some u ∧ RelV z u ∧ ∀ ι n H, RV K ι n H v z
  fn : ∀ f ∈ g.defs, ∃ a, mg f = some (.ref a) ∧ PySem.W.keepIn K (.ref a) = true ∧ FnG P w K mg base k a (spI K cm (Γ.call f))
  dig : PySem.W.nsIn K cStatics "sys.int_max_str_digits" = some none
structure CxE (g : GI) (c : CC) (cm : Cm) (Γ : Gam) (X : Cx) (W : WX) (k : Nat) : Prop where
  wd : Wd g X.prog X.w X.K X.mg X.base cm Γ k
  N : X.N = c.N
  nd : X.N.Nodup
  sc : X.env.scope = c.sc
  calm : c.hot = false → X.calm = true
  room : c.hot = false → Room (2 * k + 2) X.A
  un : X.A.units + 70 < cLine
  grd : X.A.guards = some []
  tk : Takes X W
theorem Wd.at {g : GI} {P : Program} {w : World} {K : PySem.W.Frag} {mg : Str → Option Value} {base : Heap} {cm : Cm} {Γ : Gam} {k : Nat} (D : Wd g P w K mg base cm Γ k) {c : Str} {C : Addr} (h : cm.ins c = some C) : ClsK g K mg cm Γ.att Γ.isub c C := by
  obtain ⟨C', h1, h2⟩ := D.cls c (D.ins c C h)
  rw [h] at h1; cases h1
  exact h2
theorem Wd.noEq {g : GI} {P : Program} {w : World} {K : PySem.W.Frag} {mg : Str → Option Value} {base : Heap} {cm : Cm} {Γ : Gam} {k : Nat} (D : Wd g P w K mg base cm Γ k) : NoEq K cm := fun c C h => ⟨(D.at h).hm, (D.at h).eqo, (D.at h).neo⟩
/-! ### small things -/
theorem ixOf_get {N : List Str} {x : Str} {i : Nat} (h : ixOf N x = some i) : N[i]? = some x := by
  unfold ixOf at h
  obtain ⟨hi, h1, _⟩ := List.findIdx?_eq_some_iff_getElem.mp h
  rw [List.getElem?_eq_getElem hi, of_decide_eq_true h1]
theorem plain_dbg {x : Str} (h : plainN x = true) : (x == ("__debug__" : Str)) = false ∧ (x == ("__classdict__" : Str)) = false ∧ x ≠ "__name__" := by
  simp only [plainN, Bool.and_eq_true, Bool.not_eq_true', decide_eq_true_eq] at h
  exact ⟨h.1.1, h.1.2, h.2⟩
section
variable {g : GI} {c : CC} {cm : Cm} {Γ : Gam} {X : Cx} {W : WX} {k : Nat}
theorem CxE.vis (C : CxE g c cm Γ X W k) {x : Str} (h : visK c x = true) : Vis X.env.scope x := by
  unfold Vis
  rw [C.sc]
  unfold visK at h
  split at h
  · exact .inl (by assumption)
  · exact .inr (.inl (by assumption))
  · exact .inr (.inr (by assumption))
  · cases h
theorem CxE.gl (C : CxE g c cm Γ X W k) {x : Str} (h : isGl c x = true) : Gl X x := by
  show X.env.scope.names.lookup x = _
  rw [C.sc]
  unfold isGl at h
  split at h
  · assumption
  · cases h
end
theorem bfOf_ok {x : Str} {f : Bf} (h : bfOf x = some f) : bN f = x := by simpa using List.find?_some h
theorem tyOf_ok {x : Str} {T : Ty} (h : tyOf x = some T) : Str.ofString (tyN T) = x ∧ tyBlt T = true := by
  refine ⟨by simpa using List.find?_some h, ?_⟩
  have := List.mem_of_find?_eq_some h
  simp only [tys, List.mem_cons, List.not_mem_nil, or_false] at this
  rcases this with rfl | rfl | rfl | rfl | rfl | rfl <;> rfl
theorem tyN_boot : ∀ T : Ty, tyBlt T = true → bootBuiltins (Str.ofString (tyN T)) = some (.type (tyN T))
  | .int, _ => by decide +kernel
  | .bool, _ => by decide +kernel
  | .tuple, _ => by decide +kernel
  | .str, _ => by decide +kernel
  | .list, _ => by decide +kernel
  | .dict, _ => by decide +kernel
  | .own _, h => by simp [tyBlt] at h
theorem opOf_ok {op : Operator} {o : Bop} (h : opOf op = some o) : bOp o = op := by cases op <;> simp only [opOf, Option.some.injEq] at h <;> first | (subst h; rfl) | cases h
theorem cpOf_ok {op : CmpOp} {o : Cop} (h : cpOf op = some o) : cOp o = op := by cases op <;> simp only [cpOf, Option.some.injEq] at h <;> (subst h; rfl)
theorem binI_ne {o : Bop} {a b : IV} {S : Sto} {c : Str} {S' : Sto} : binI o a b S ≠ .exc c S' := by
  intro h
  unfold binI at h
  repeat' split at h
  all_goals first | (simp [alloc] at h; done) | cases h
theorem boolR_ne {o : Option Bool} {S : Sto} {c : Str} {S' : Sto} : boolR o S ≠ .exc c S' := by cases o <;> simp [boolR]
theorem boolN_ne {o : Option Bool} {S : Sto} {c : Str} {S' : Sto} : boolN o S ≠ .exc c S' := by cases o <;> simp [boolN]
theorem cmpI_ne {o : Cop} {a b : IV} {S : Sto} {c : Str} {S' : Sto} : cmpI o a b S ≠ .exc c S' := by
  intro h
  cases o <;> simp only [cmpI] at h
  all_goals first | exact boolR_ne h | exact boolN_ne h | (split at h <;> cases h)
theorem dixI_ne {a b : IV} {S : Sto} {c : Str} {S' : Sto} : dixI a b S ≠ .exc c S' := by
  intro h
  unfold dixI at h
  unfold dtIx at h
  repeat' split at h
  all_goals cases h
theorem dc1I_ne {n : Nat} {a b : IV} {S : Sto} {c : Str} {S' : Sto} : dc1I n a b S ≠ .exc c S' := by
  intro h
  unfold dc1I at h
  repeat' split at h
  all_goals cases h
theorem mth2_ne {m : Str} {o : IV} {a : List IV} {S : Sto} {c : Str} {S' : Sto} : mth2 m o a S ≠ .exc c S' := by
  intro h
  unfold mth2 at h
  repeat' split at h
  all_goals cases h
theorem ixI_ne {a b : IV} {S : Sto} {c : Str} {S' : Sto} : ixI a b S ≠ .exc c S' := by
  intro h
  unfold ixI at h
  repeat' split at h
  all_goals first | exact dixI_ne h | cases h
theorem slI_ne {a : IV} {lo hi : Option Int} {S : Sto} {c : Str} {S' : Sto} : slI a lo hi S ≠ .exc c S' := by
  intro h
  unfold slI at h
  repeat' split at h
  all_goals first | (simp [alloc] at h; done) | cases h
theorem revI_ne {a : IV} {S : Sto} {c : Str} {S' : Sto} : revI a S ≠ .exc c S' := by
  intro h
  unfold revI at h
  repeat' split at h
  all_goals first | (simp [alloc] at h; done) | cases h
theorem negI_ne {a : IV} {S : Sto} {c : Str} {S' : Sto} : negI a S ≠ .exc c S' := by
  intro h
  unfold negI at h
  repeat' split at h
  all_goals cases h
theorem isiI_ne {a : IV} {T : Ty} {S : Sto} {c : Str} {S' : Sto} : isiI a T S ≠ .exc c S' := by
  intro h
  unfold isiI at h
  repeat' split at h
  all_goals cases h
theorem lenI_ne {a : IV} {S : Sto} {c : Str} {S' : Sto} : lenI a S ≠ .exc c S' := by
  intro h
  unfold lenI at h
  repeat' split at h
  all_goals cases h
theorem bltI_ne {f : Bf} {a : List IV} {S : Sto} {c : Str} {S' : Sto} : bltI f a S ≠ .exc c S' := by
  intro h
  unfold bltI at h
  repeat' split at h
  all_goals first | exact lenI_ne h | (simp [alloc] at h; done) | cases h
theorem mthI_ne {m : Str} {o : IV} {a : List IV} {S : Sto} {c : Str} {S' : Sto} : mthI m o a S ≠ .exc c S' := by
  intro h
  unfold mthI at h
  repeat' split at h
  all_goals cases h
/-! ### the readings put together -/
def asB (r : Rs IV) : Rs Bool := r.bind fun v S => match v with
  | .bl b => .ok b S
  | _ => .bad
abbrev tT (K : PySem.W.Frag) (cm : Cm) (W : WX) (m : Sl → Sto → Rs IV) : TT := tG K cm W RId fun τ S => asB (m τ S)
section
variable {K : PySem.W.Frag} {cm : Cm} {W : WX} {σ : L2.St} {H : Hp} {Q : VK} {ma mb mc : Sl → Sto → Rs IV}
theorem tOp_of {f : IV → IV → Sto → Rs IV} (hn : ∀ a b S c S', f a b S ≠ .exc c S') (h : tI K cm W (fun τ S => (ma τ S).bind fun x S1 => (mb τ S1).bind fun y S2 => f x y S2) σ H Q) : tOp (rI2 K cm f) (tI K cm W ma) (tI K cm W mb) σ H Q :=
  tG.bind (f := fun τ x S1 => (mb τ S1).bind fun y S2 => f x y S2) h fun ι1 S1 H1 τ a v r1 rs ra o1 => ⟨ι1, S1, τ, r1, rs, Out.bindR o1 fun b S2 ι2 H2 y _ st r2 rb o2 =>
    ⟨ι2, S2, a, b, r2, RV.step ra r1 st, rb, OutV.of o2 fun _ _ => hn _ _ _ _ _⟩⟩
theorem tUn_of {f : IV → Sto → Rs IV} (hn : ∀ a S c S', f a S ≠ .exc c S') (h : tI K cm W (fun τ S => (ma τ S).bind fun x S1 => f x S1) σ H Q) : tUn (rI1 K cm f) (tI K cm W ma) σ H Q :=
  tG.bind (f := fun τ x S1 => f x S1) h fun ι1 S1 H1 τ a v r1 rs ra o1 => ⟨ι1, S1, a, r1, ra, OutV.of o1 fun _ _ => hn _ _ _ _⟩
/-- a test by its value -/
theorem tT_val {Q : Bool → Hp → Prop} (h : tT K cm W ma σ H Q) : tB (tI K cm W ma) σ H Q := by
  refine tG.bind (RA := RVS K) (R := fun x H' => ∃ k, x = .bl k ∧ Q k H') (f := fun τ v S => match v with | .bl b => .ok b S | _ => .bad) h fun ι1 S1 H1 τ a v r1 rs ra o1 => ?_
  cases a with
  | bl b =>
    have : v = .bl b := by simpa only [RVS, RV] using ra
    exact ⟨b, this, o1 ι1 H1 b Step.refl r1 rfl⟩
  | non => exact o1.elim
  | int i => exact o1.elim
  | str i => exact o1.elim
  | tup i => exact o1.elim
  | ref i => exact o1.elim
  | cls i => exact o1.elim
/-- a truth that is asked, then what follows -/
theorem tT_bind {γ δ : Type} {RC : (Nat → Addr) → Sto → Hp → γ → δ → Prop} {f : Sl → Bool → Sto → Rs γ} {Q : δ → Hp → Prop} {R : Bool → Hp → Prop}
    (h : tG K cm W RC (fun τ S => (ma τ S).bind fun v S1 => match v with | .bl b => f τ b S1 | _ => .bad) σ H Q)
    (go : ∀ ι1 S1 H1 τ b, Rel K cm ι1 S1 H1 → RSl K ι1 S1.length H1 τ σ → Out K cm W ι1 S1 H1 σ RC (f τ b S1) Q → R b H1) : tT K cm W ma σ H R := by
  obtain ⟨ι, S, τ, rl, rs, o⟩ := h
  refine ⟨ι, S, τ, rl, rs, ?_⟩
  dsimp only at o ⊢
  unfold asB
  cases e : ma τ S with
  | bad => rw [e] at o; exact o
  | exc c S1 => rw [e] at o; exact o
  | ok a S1 =>
    rw [e] at o
    dsimp only [Rs.bind] at o ⊢
    cases a with
    | bl b => exact fun ι1 H1 b' st r1 eb => by cases eb; exact go ι1 S1 H1 τ b r1 (rs.step rl st) (Out.shift o r1 st)
    | non => exact o.elim
    | int i => exact o.elim
    | str i => exact o.elim
    | tup i => exact o.elim
    | ref i => exact o.elim
    | cls i => exact o.elim
end
end Wg
/-! WiB: enumerate of a tuple; zip of two. -/
namespace Wg
open PySem PySem.Spec PyProof.Rows L2
def IteT (K : PySem.W.Frag) (a : Addr) : It :=
  ⟨fun i H => ∃ (xs : List V) (x : V), SqT K H a xs ∧ xs[i]? = some x, fun i H v H' => ∃ T x, v = .ref T ∧ H T = none ∧ H' = upd H T (.tup [.int (i : Nat), x]) ∧ ∀ xs, SqT K H a xs → xs[i]? = some x, fun i H => ∃ xs : List V, SqT K H a xs ∧ xs.length ≤ i⟩
section
variable {prog : Program} {w : World} {A : Around} {E : Value → Shared → Prop} {s : Shared}
theorem pyNext_enumT_end {e it t : Addr} {i : Nat} {items : Array Value} {c : Int} {old : Value} {Q : Option Value → Shared → Prop} (hh : A.handled = none)
    (he : IsEnum s.heap e it c old) (hit : s.heap.IsTupleIter it t i) (ht : s.heap.IsTuple t items) (hx : items[i]? = none)
    (hQ : ∀ h', Heap.ExtBut it s.heap h' → Q none { s with heap := h' }) : wpAny (model prog w) A (pyNext (.ref e)) Q E s := by
  have hT : s.TypeIs (.ref e) "enumerate" := ⟨_, he, rfl⟩
  unfold pyNext
  refine wpAny_bind (wpAny_attempt (wpAny_callSpecial?_slot (name := Str.ofString "__next__") hT F.slot_enumerate_next
    (wpAny_call_entry F.slot_enumerate_next hT F.entry_enumerate_next ?_ (F.args_enumerate_next_1 _))))
  show wpAny _ _ (field (.ref e) 2 >>= _) _ _ _
  refine wpAny_bind (wpAny_field he rfl (x := .ref it) rfl ?_)
  refine wpAny_bind (wpAny_nextOf_tuple_end (A := A.in1) hh hit ht hx fun h' x he' hx' => ?_)
  obtain ⟨o, ho, hc⟩ := hx'
  refine wpAny_bind (wpAny_isInstance (T := "StopIteration") (b := true) ⟨o, ho, hc⟩ isSubtype_stop ?_)
  exact wpAny_pure (hQ _ he')
end
theorem turn_enumT {P : Program} {w : World} {K : PySem.W.Frag} {elts : List Expr} {kk : Nat} {tpos : Pos} (a e it : Addr) :
    Turn P w K (.Tuple elts kk tpos) (IteT K a) [e, it] e (fun i h => (∃ old, IsEnum h e it ((i : Nat) : Int) old) ∧ h.IsTupleIter it a i ∧ e ≠ it) where
  mem := by simp
  obj := fun i h st b hb => by
    obtain ⟨⟨old, he⟩, ⟨o, ho, hc, hd⟩, _⟩ := st
    have e' : b = e ∨ b = it := by simpa using hb
    rcases e' with z | z
    · rw [z]; exact ⟨_, he, fun v q => nomatch q⟩
    · rw [z]; exact ⟨o, ho, fun v q => by rw [hd] at q; cases q⟩
  keep := fun i h h' st k => let ⟨⟨old, he⟩, hi, hne⟩ := st; ⟨⟨old, k e (by simp) _ he⟩, hi.at fun o q => k it (by simp) o q, hne⟩
  item := by
    intro X hP hw hK hc i pins s σ H E I hf st hg
    subst hP hw hK
    obtain ⟨⟨old, he⟩, hit, hne⟩ := st
    obtain ⟨xs, x, hq, hx⟩ := hg
    obtain ⟨its, rv, p, hz⟩ := I.tuple hq
    obtain ⟨u, hu, ru⟩ := rv.get hx
    have hel : e < s.heap.objs.size := Heap.lt_size he
    have hil : it < s.heap.objs.size := by obtain ⟨_, q, _⟩ := hit; exact Heap.lt_size q
    have hlt : i < its.toArray.size := by
      have := (List.getElem?_eq_some_iff.mp hu).1
      simpa using this
    have hai : a ≠ it := fun z => by
      obtain ⟨o1, h1, c1, _⟩ := p
      obtain ⟨o2, h2, c2, _⟩ := hit
      rw [z, h2] at h1; cases h1
      rw [c2] at c1; simp at c1
    have hea : e ≠ a := fun z => by
      obtain ⟨o1, h1, c1, _⟩ := p
      have h2 := he
      unfold IsEnum at h2
      rw [z, h1] at h2; cases h2
      simp at c1
    refine wpAny_pyNext_enum_itemD (n := its.toArray.size) (Draws.tuple (A := X.A.in1) (I.ok.hd hc) it a hai its.toArray) he ⟨hit, p⟩ hlt hne (by simp [hne, hea]) fun u' h' tk hu' ho hst' hT hsz hk => ?_
    obtain ⟨hit', _⟩ := hst'
    have e3 : u' = u := by
      have : its.toArray[i]? = some u := by simpa using hu
      rw [this] at hu'; cases hu'; rfl
    subst e3
    refine ⟨_, rfl, wpAny_letOwnedTupleGo_enum (s := { s with heap := h', toks := tk + 1 }) ho fun h'' he' sb => ?_⟩
    have hT2 : h''.get? s.heap.objs.size = some { cls := .type "tuple", data := .seq #[.int i tk, u'] } := (sb.2 _ (Nat.ne_of_gt hel)).trans hT
    have new : ObjOk X.prog X.w (upd H s.heap.objs.size (.tup [.int (i : Nat), x])) h'' s.heap.objs.size (.tup [.int (i : Nat), x]) :=
      ⟨by show 2 ≤ sizeLine; decide, [.int i tk, u'], .cons ⟨_, rfl⟩ (.cons ru .nil), ⟨_, hT2, rfl, _, rfl⟩⟩
    have I1 : Inv X pins σ (upd H s.heap.objs.size (.tup [.int (i : Nat), x])) { s with heap := h'', toks := tk + 1 } :=
      I.turnedNew (ch := [e, it]) (fun b ob hb q => (sb.2 b (fun z => hb (by simp [z]))).trans (hk b ob (fun z => hb (by simp [z])) (fun z => hb (by simp [z])) q)) hf (Nat.le_refl _) new
    refine ⟨.ref s.heap.objs.size, _, I1, rfl, ⟨_, x, rfl, I.hok.fresh (Nat.le_refl _), rfl, fun ys hy => by rw [I.tuple_inj hy hq]; exact hx⟩, ⟨⟨u', ?_⟩, hit'.at fun o q => (sb.2 it (Ne.symm hne)).trans q, hne⟩, fun b hb => ?_⟩
    · have e1 : ((i + 1 : Nat) : Int) = (i : Int) + 1 := by omega
      rw [e1]; exact he'
    · have hb' : b < s.heap.objs.size := by
        have e' : b = e ∨ b = it := by simpa using hb
        rcases e' with z | z
        · rw [z]; exact hel
        · rw [z]; exact hil
      rw [upd_ne (Nat.ne_of_lt hb')]
      exact (hf b hb).1
  done := by
    intro X hP hw hK hc i pins s σ H E I hf st hg
    subst hP hw hK
    obtain ⟨⟨old, he⟩, hit, hne⟩ := st
    obtain ⟨xs, hq, hx⟩ := hg
    obtain ⟨its, rv, p, hz⟩ := I.tuple hq
    obtain ⟨f0, f1, f2, f3, f4, f5⟩ := hf it (by simp)
    have hl := rv.length
    exact pyNext_enumT_end (I.ok.hd hc) he hit p (by simp; omega) fun h' eb => ⟨rfl, I.turned (t' := s.toks) (fun b o hb q => eb b o hb q) f0 f1 f3 f4 f5⟩
  self := fun A i s Q E st h => let ⟨⟨_, he⟩, _⟩ := st; wpAny_pyIter_enum he h
set_option maxHeartbeats 1000000 in
set_option maxRecDepth 100000 in
theorem meets_enumerate_newB1 {v : Value} {o : Obj} {H : Heap → Prop} (B : Begins v o H) :
    Meets (Builtin.«enumerate.__new__» ⟨[.type "enumerate", v], []⟩) (fun _ R s => H s.heap ∧
      R (.ok (.ret (.ref (s.heap.push o).objs.size))) { s with heap := (s.heap.push o).push { cls := .type "enumerate", data := .fields #[.none, .bool false, .ref s.heap.objs.size, rawInt 0, .none, .none] } }) :=
  .of_wp fun prog w A R s h => by
    obtain ⟨hp, g, d, tk, os⟩ := s; obtain ⟨h1, h⟩ := h
    have hsub := sub_enumerate
    have q1 : ∀ {A' : Around} {E : Value → Shared → Prop} {Q : Value → Shared → Prop}, Q (.ref hp.objs.size) ⟨hp.push o, g, d, tk, os⟩ → wpAny (model prog w) A' (pyIter v) Q E ⟨hp, g, d, tk, os⟩ :=
      fun q => B.iter prog w _ _ ⟨hp, g, d, tk, os⟩ _ h1 q
    wp_walk using q1
    first
    | exact ⟨_, rfl, h⟩
    | (refine wpAny_stack_any fun st => wpAny_pure ?_
       split
       · rename_i c _ _ _ _ _
         cases (c == Value.type "enumerate")
         · wp_walk using q1
           exact ⟨_, rfl, h⟩
         · wp_walk using q1
           exact ⟨_, rfl, h⟩
       · wp_walk using q1
         exact ⟨_, rfl, h⟩)
theorem call_enumerate_tuple {prog : Program} {w : World} {A : Around} {E : Value → Shared → Prop} {s : Shared} {l : Addr} {items : Array Value} {Q : Value → Shared → Prop} (hL : s.heap.IsTuple l items)
    (h : ∀ h', IsEnum h' (s.heap.objs.size + 1) s.heap.objs.size 0 .none → h'.IsTupleIter s.heap.objs.size l 0 → h'.objs.size = s.heap.objs.size + 2 →
      (∀ b o, s.heap.get? b = some o → h'.get? b = some o) → Q (.ref (s.heap.objs.size + 1)) { s with heap := h' }) :
    wpAny (model prog w) A (call (.type "enumerate") [.ref l]) Q E s := by
  refine callType_new F.called_enumerate (by decide) (F.typeCall_enumerate_1 _) (F.newCall_enumerate_1 _) (fun obj => F.args_object_init_2 obj _) F.entry_enumerate_new
    (meets_enumerate_newB1 (begins_tuple l items)) ⟨hL, ?_⟩
  have hz : (s.heap.push { cls := .type "tuple_iterator", data := .fields #[.ref l, .int 0 0] }).objs.size = s.heap.objs.size + 1 := Heap.size_push ..
  show _ ∧ _
  rw [hz]
  have he : IsEnum ((s.heap.push { cls := .type "tuple_iterator", data := .fields #[.ref l, .int 0 0] }).push
      { cls := .type "enumerate", data := .fields #[.none, .bool false, .ref s.heap.objs.size, rawInt 0, .none, .none] }) (s.heap.objs.size + 1) s.heap.objs.size 0 .none := by
    have := Heap.get?_push_size (s.heap.push { cls := .type "tuple_iterator", data := .fields #[.ref l, .int 0 0] })
      (o := { cls := .type "enumerate", data := .fields #[.none, .bool false, .ref s.heap.objs.size, rawInt 0, .none, .none] }) rfl
    rw [hz] at this; exact this
  refine ⟨⟨_, he, rfl⟩, h _ he ⟨_, Heap.get?_push_of_some _ (Heap.get?_push_size _ rfl), rfl, rfl⟩ (by rw [Heap.size_push, hz]) fun b o x => Heap.get?_push_of_some _ (Heap.get?_push_of_some _ x)⟩
def iEnumA (K : PySem.W.Frag) (ta : TA) : TI := fun σ H R => ta σ H fun vs H1 => ∃ a xs, vs = [.ref a] ∧ ((SqL K H1 a xs ∧ R (Ite K a) H1) ∨ (SqT K H1 a xs ∧ R (IteT K a) H1))
theorem pi_enumA {X : Cx} {e : Expr} {ta : TA} {p pos tpos : Pos} {elts : List Expr} {kk : Nat} (hg : Gl X "enumerate") (hm : X.mg "enumerate" = none) (ha : PA X [e] ta) (hs : starEach [e] X.env = [(false, eval e X.env)]) :
    PI X (.Tuple elts kk tpos) (.Call (.Name "enumerate" p) [e] [] pos) (iEnumA X.K ta) := by
  refine ⟨fun pins s σ H R I h => ?_⟩
  refine Call_ (ld_blt I hg hm boot_enumerate (PyProof.Rows.callWith_type1 (thn (ha.run pos pins s σ H _ I h) fun us s1 ⟨vs, H1, I1, r1, q1⟩ => ?_) hs rfl))
  obtain ⟨a, xs, ex, q1⟩ := q1
  subst ex
  cases r1 with
  | cons r rr =>
    cases rr
    cases r
    rcases q1 with ⟨hq, q⟩ | ⟨hq, q⟩
    · obtain ⟨its, rv, p', hz⟩ := I1.list hq
      refine call_enumerate_list p'.isList fun h' he hit hsz hk => wpAny_pyIter_enum he ?_
      have I2 : Inv X pins σ H1 { s1 with heap := h' } := I1.kept (t' := s1.toks) hk
      refine ⟨s1.heap.objs.size + 1, [s1.heap.objs.size + 1, s1.heap.objs.size], _, _, H1, rfl, I2, turn_enum a (s1.heap.objs.size + 1) s1.heap.objs.size, ⟨⟨.none, he⟩, hit, Nat.succ_ne_self _⟩, fun b hb => ?_, q⟩
      have e' : b = s1.heap.objs.size + 1 ∨ b = s1.heap.objs.size := by simpa using hb
      have hle : s1.heap.objs.size ≤ b := by
        rcases e' with z | z
        · rw [z]; exact Nat.le_add_right _ _
        · rw [z]; exact Nat.le_refl _
      exact I1.fpOk hle (I1.hok.fresh hle)
    · obtain ⟨its, rv, p', hz⟩ := I1.tuple hq
      refine call_enumerate_tuple p' fun h' he hit hsz hk => wpAny_pyIter_enum he ?_
      have I2 : Inv X pins σ H1 { s1 with heap := h' } := I1.kept (t' := s1.toks) hk
      refine ⟨s1.heap.objs.size + 1, [s1.heap.objs.size + 1, s1.heap.objs.size], _, _, H1, rfl, I2, turn_enumT a (s1.heap.objs.size + 1) s1.heap.objs.size, ⟨⟨.none, he⟩, hit, Nat.succ_ne_self _⟩, fun b hb => ?_, q⟩
      have e' : b = s1.heap.objs.size + 1 ∨ b = s1.heap.objs.size := by simpa using hb
      have hle : s1.heap.objs.size ≤ b := by
        rcases e' with z | z
        · rw [z]; exact Nat.le_add_right _ _
        · rw [z]; exact Nat.le_refl _
      exact I1.fpOk hle (I1.hok.fresh hle)
end Wg
/-! WgJ: targets, walks, the list of a comprehension. -/
namespace Wg
open PySem PySem.Spec PyProof.Rows L2 RZ
/-! ### targets -/
mutual
def gTg (K : PySem.W.Frag) : Tg → TG
  | .nm i => gName i
  | .tp ts => gTup K ts.length (gTgs K ts)
def gTgs (K : PySem.W.Frag) : List Tg → TGs
  | [] => gNil
  | t :: ts => gCons (gTg K t) (gTgs K ts)
end
/-- the slots that a target sets -/
def OffT (js : List Nat) (σ σ' : L2.St) : Prop := σ'.length = σ.length ∧ ∀ i, i ∉ js → σ'[i]? = σ[i]?
section
variable {K : PySem.W.Frag} {ι : Nat → Addr} {n : Nat} {H : Hp}
mutual
theorem setT_ok : ∀ (t : Tg) (iv : IV) (v : V) (τ τ' : Sl) (σ : L2.St), setT t iv τ = some τ' → RV K ι n H iv v → RSl K ι n H τ σ → ∀ Q : L2.St → Hp → Prop, (∀ σ', RSl K ι n H τ' σ' → OffT t.ins σ σ' → Q σ' H) → gTg K t v σ H Q
  | .nm i, iv, v, τ, τ', σ, e, rv, rs, Q, go => by
    simp only [setT, Option.some.injEq] at e
    subst e
    simp only [gTg]
    exact go _ (rs.set i rv) ⟨by simp, fun j hj => by
      simp only [Tg.ins, List.mem_singleton] at hj
      rw [List.getElem?_set_ne (Ne.symm hj)]⟩
  | .tp ts, iv, v, τ, τ', σ, e, rv, rs, Q, go => by
    simp only [setT] at e
    cases iv with
    | tup xs =>
      simp only [] at e
      simp only [RV] at rv
      obtain ⟨a, vs, rfl, h1, h2⟩ := rv
      simp only [gTg]
      exact ⟨a, vs, rfl, h1.toT, by rw [h2.length]; exact (setTs_len e).symm, setTs_ok ts xs vs τ τ' σ e h2 rs Q fun σ' a b => go σ' a (by simpa only [Tg.ins] using b)⟩
    | non => cases e
    | bl b => cases e
    | int b => cases e
    | str b => cases e
    | ref b => cases e
    | cls b => cases e
theorem setTs_ok : ∀ (ts : List Tg) (xs : List IV) (vs : List V) (τ τ' : Sl) (σ : L2.St), setTs ts xs τ = some τ' → RVs K ι n H xs vs → RSl K ι n H τ σ → ∀ Q : L2.St → Hp → Prop, (∀ σ', RSl K ι n H τ' σ' → OffT (tgIns ts) σ σ' → Q σ' H) → gTgs K ts vs σ H Q
  | [], [], vs, τ, τ', σ, e, rv, rs, Q, go => by
    simp only [setTs, Option.some.injEq] at e
    subst e
    simp only [RVs] at rv; subst rv
    simp only [gTgs]
    exact ⟨rfl, go σ rs ⟨rfl, fun _ _ => rfl⟩⟩
  | t :: ts, x :: xs, vs, τ, τ', σ, e, rv, rs, Q, go => by
    obtain ⟨v, r, rfl, h1, h2⟩ := rv.uncons
    simp only [setTs] at e
    cases e1 : setT t x τ with
    | none => rw [e1] at e; cases e
    | some τ1 =>
      rw [e1] at e
      simp only [gTgs]
      refine ⟨v, r, rfl, setT_ok t x v τ τ1 σ e1 h1 rs _ fun σ1 rs1 o1 => ?_⟩
      refine setTs_ok ts xs r τ1 τ' σ1 e h2 rs1 Q fun σ2 rs2 o2 => go σ2 rs2 ⟨o2.1.trans o1.1, fun i hi => ?_⟩
      simp only [tgIns, List.mem_append, not_or] at hi
      rw [o2.2 i hi.2, o1.2 i hi.1]
  | [], _ :: _, _, _, _, _, e, _, _, _, _ => by simp [setTs] at e
  | _ :: _, [], _, _, _, _, e, _, _, _, _ => by simp [setTs] at e
theorem setTs_len : ∀ {ts : List Tg} {xs : List IV} {τ τ' : Sl}, setTs ts xs τ = some τ' → ts.length = xs.length
  | [], [], _, _, _ => rfl
  | t :: ts, x :: xs, τ, τ', e => by
    simp only [setTs] at e
    cases e1 : setT t x τ with
    | none => rw [e1] at e; cases e
    | some τ1 => rw [e1] at e; simp [setTs_len e]
  | [], _ :: _, _, _, e => by simp [setTs] at e
  | _ :: _, [], _, _, e => by simp [setTs] at e
end
end
/-- where names may be stored -/
structure PgOk (X : Cx) (c : CC) : Prop where
  N : X.N = c.N
  nd : X.N.Nodup
  calm : c.hot = false → X.calm = true
  loc : ∀ x, (c.sc.names.lookup x = some .local ∨ c.sc.names.lookup x = some .cell) → Loc X.env.scope x ∧ (X.fn x = true ∨ X.env.scope.names.lookup x = some .local)
theorem cpTn_ok {c : CC} {x : Str} {i : Nat} (h : cpTn c x = some i) : ixOf c.N x = some i ∧ (c.sc.names.lookup x = some .local ∨ c.sc.names.lookup x = some .cell) := by
  unfold cpTn at h
  split at h
  · exact ⟨h, .inl (by assumption)⟩
  · exact ⟨h, .inr (by assumption)⟩
  · cases h
theorem optAll_cons {α β : Type} {f : α → Option β} {x : α} {xs : List α} {ys : List β} (h : optAll f (x :: xs) = some ys) : ∃ y r, ys = y :: r ∧ f x = some y ∧ optAll f xs = some r := by
  simp only [optAll] at h
  cases e1 : f x with
  | none => rw [e1] at h; cases h
  | some y =>
    rw [e1] at h
    cases e2 : optAll f xs with
    | none => rw [e2] at h; cases h
    | some r => rw [e2] at h; cases h; exact ⟨y, r, rfl, rfl, rfl⟩
theorem optAll_nil {α β : Type} {f : α → Option β} {ys : List β} (h : optAll f [] = some ys) : ys = [] := by simp only [optAll, Option.some.injEq] at h; exact h.symm
theorem optAll_len {α β : Type} {f : α → Option β} : ∀ {xs : List α} {ys : List β}, optAll f xs = some ys → ys.length = xs.length
  | [], ys, h => by rw [optAll_nil h]; rfl
  | x :: xs, ys, h => by
    obtain ⟨y, r, rfl, _, h2⟩ := optAll_cons h
    simp [optAll_len h2]
section
variable {X : Cx} {c : CC}
theorem tg_shape {n : Nat} {e : Expr} {t : Tg} (h : cpT n c e = some t) : (∃ x p, e = .Name x p) ∨ ∃ es k p, e = .Tuple es k p := by
  cases n with
  | zero => simp [cpT] at h
  | succ n =>
    simp only [cpT] at h
    split at h
    · exact .inl ⟨_, _, rfl⟩
    · exact .inr ⟨_, _, _, rfl⟩
    · cases h
theorem assignEach_cons {e : Expr} {es : List Expr} {env : Env} (h : (∃ x p, e = .Name x p) ∨ ∃ es k p, e = .Tuple es k p) : assignEach (e :: es) env = (false, assign e env) :: assignEach es env := by
  rcases h with ⟨x, p, rfl⟩ | ⟨ts, k, p, rfl⟩ <;> rfl
theorem sound_T (G : PgOk X c) : ∀ (n : Nat) (e : Expr) (t : Tg), cpT n c e = some t → PG X e (gTg X.K t)
  | 0, e, t, h => by simp [cpT] at h
  | n + 1, e, t, h => by
    simp only [cpT] at h
    split at h
    · rename_i x p
      cases e1 : cpTn c x with
      | none => rw [e1] at h; cases h
      | some i =>
        rw [e1] at h; cases h
        obtain ⟨h1, h2⟩ := cpTn_ok e1
        obtain ⟨h3, h4⟩ := G.loc x h2
        simp only [gTg]
        exact pg_name G.nd (by rw [G.N]; exact ixOf_get h1) h3 h4
    · rename_i es k p
      split at h
      · cases h
      rename_i hot
      have hot' : c.hot = false := by simpa using hot
      cases e1 : optAll (cpT n c) es with
      | none => rw [e1] at h; cases h
      | some ts =>
        rw [e1] at h; cases h
        have all : ∀ (es : List Expr) (ts : List Tg), optAll (cpT n c) es = some ts → PGs X es (gTgs X.K ts) ∧ (assignEach es X.env).length = ts.length ∧ (assignEach es X.env).findIdx? (·.1) = none := by
          intro es
          induction es with
          | nil =>
            intro ts h
            rw [optAll_nil h]
            exact ⟨by simp only [gTgs]; exact pgs_nil, rfl, rfl⟩
          | cons e es ih =>
            intro ts h
            obtain ⟨t, r, rfl, h1, h2⟩ := optAll_cons h
            obtain ⟨i1, i2, i3⟩ := ih r h2
            have q := assignEach_cons (es := es) (env := X.env) (tg_shape h1)
            refine ⟨?_, by rw [q]; simp [i2], by rw [q]; simp [List.findIdx?_cons, i3]⟩
            simp only [gTgs]
            exact pgs_cons (sound_T G n e t h1) i1 (by rw [q]; rfl)
        obtain ⟨a1, a2, a3⟩ := all es ts e1
        simp only [gTg]
        exact pg_tup (G.calm hot') a1 a2 a3
    · cases h
end
/-! ### walks -/
/-- an item; b: it goes to a target of several names, so that its object need not be seen whole -/
def RVk (b : Bool) (K : PySem.W.Frag) (ι : Nat → Addr) (n : Nat) (H : Hp) (iv : IV) (x : V) : Prop :=
  RV K ι n H iv x ∨ (b = true ∧ ∃ xs a vs, iv = .tup xs ∧ x = .ref a ∧ SqT K H a vs ∧ RVs K ι n H xs vs)
theorem setT_okW {K : PySem.W.Frag} {ι : Nat → Addr} {n : Nat} {H : Hp} {b : Bool} (t : Tg) (hb : b = true → ∃ ts, t = .tp ts) (iv : IV) (v : V) (τ τ' : Sl) (σ : L2.St) (e : setT t iv τ = some τ') (rv : RVk b K ι n H iv v) (rs : RSl K ι n H τ σ) (Q : L2.St → Hp → Prop) (go : ∀ σ', RSl K ι n H τ' σ' → OffT t.ins σ σ' → Q σ' H) : gTg K t v σ H Q := by
  rcases rv with rv | ⟨hb', xs, a, vs, rfl, rfl, h1, h2⟩
  · exact setT_ok t iv v τ τ' σ e rv rs Q go
  · obtain ⟨ts, rfl⟩ := hb hb'
    simp only [setT] at e
    simp only [gTg]
    exact ⟨a, vs, rfl, h1, by rw [h2.length]; exact (setTs_len (K := K) (ι := ι) (n := n) (H := H) e).symm, setTs_ok ts xs vs τ τ' σ e h2 rs Q fun σ' a b => go σ' a (by simpa only [Tg.ins] using b)⟩
structure WkOk (b : Bool) (K : PySem.W.Frag) (cm : Cm) (ι0 : Nat → Addr) (S0 : Sto) (H0 : Hp) (wk : Walk) (J : It) : Prop where
  go : ∀ i ι S H, Step ι0 S0 H0 ι S H → Rel K cm ι S H → holds wk.held S = true → i < wk.items.length → J.go i H
  yld : ∀ i ι S H x H' iv, Step ι0 S0 H0 ι S H → Rel K cm ι S H → holds wk.held S = true → wk.items[i]? = some iv → J.yld i H x H' → Rel K cm ι S H' ∧ Step ι S H ι S H' ∧ RVk b K ι S.length H' iv x
  stop : ∀ i ι S H, Step ι0 S0 H0 ι S H → Rel K cm ι S H → holds wk.held S = true → wk.items.length ≤ i → J.stop i H
abbrev tW (b : Bool) (K : PySem.W.Frag) (cm : Cm) (W : WX) (m : Sl → Sto → Rs Walk) : TI := tG K cm W (WkOk b K cm) m
section
variable {K : PySem.W.Frag} {cm : Cm} {ι0 : Nat → Addr} {S0 : Sto} {H0 : Hp}
theorem held_cell {n : Nat} {c : Cell} {S : Sto} (h : holds (some (n, c)) S = true) : S[n]? = some c := by
  simp only [holds] at h
  cases e : S[n]? with
  | none => rw [e] at h; cases h
  | some d => rw [e] at h; rw [Cell.eq_of_eqb d c h]
theorem wk_list {bb : Bool} {n : Nat} {c : Cell} {xs : List IV} (hn : n < S0.length) (hc : c = .lst xs ∨ c = .frz xs) : WkOk bb K cm ι0 S0 H0 ⟨xs, some (n, c)⟩ (Itl K (ι0 n)) := by
  have key : ∀ ι S H, Step ι0 S0 H0 ι S H → Rel K cm ι S H → holds (some (n, c)) S = true → ∃ vs, SqL K H (ι0 n) vs ∧ RVs K ι S.length H xs vs := fun ι S H st r h => by
    have q := r.cell n c (held_cell h)
    rw [st.ext n hn] at q
    rcases hc with rfl | rfl
    · obtain ⟨vs, e1, e2⟩ := q; exact ⟨vs, .inl (.inl e1), e2⟩
    · obtain ⟨o, vs, e1, e2⟩ := q; exact ⟨vs, .inl (.inr ⟨o, e1⟩), e2⟩
  refine ⟨fun i ι S H st r h hi => ?_, fun i ι S H x H' iv st r h hi y => ?_, fun i ι S H st r h hi => ?_⟩
  · obtain ⟨vs, e1, e2⟩ := key ι S H st r h
    obtain ⟨v, hv, _⟩ := e2.get (i := i) (List.getElem?_eq_getElem hi)
    exact ⟨vs, v, e1, hv⟩
  · obtain ⟨vs, e1, e2⟩ := key ι S H st r h
    obtain ⟨rfl, y⟩ := y
    obtain ⟨v, hv, rv⟩ := e2.get hi
    have := y vs e1
    rw [hv] at this; cases this
    exact ⟨r, Step.refl, .inl rv⟩
  · obtain ⟨vs, e1, e2⟩ := key ι S H st r h
    exact ⟨vs, e1, by rw [e2.length]; exact hi⟩
theorem wk_tup {bb : Bool} {xs : List IV} {a : Addr} {vs : List V} (r0 : Rel K cm ι0 S0 H0) (h1 : SqT K H0 a vs) (h2 : RVs K ι0 S0.length H0 xs vs) : WkOk bb K cm ι0 S0 H0 ⟨xs, none⟩ (Itt K a) := by
  refine ⟨fun i ι S H st r h hi => ?_, fun i ι S H x H' iv st r h hi y => ?_, fun i ι S H st r h hi => ?_⟩
  · obtain ⟨v, hv, _⟩ := h2.get (i := i) (List.getElem?_eq_getElem hi)
    exact ⟨vs, v, SqT.step r0 st h1, hv⟩
  · obtain ⟨rfl, y⟩ := y
    obtain ⟨v, hv, rv⟩ := h2.get hi
    have := y vs (SqT.step r0 st h1)
    rw [hv] at this; cases this
    exact ⟨r, Step.refl, .inl (rv.step r0 st)⟩
  · exact ⟨vs, SqT.step r0 st h1, by rw [h2.length]; exact hi⟩
theorem wk_str {bb : Bool} {z : Str} : WkOk bb K cm ι0 S0 H0 ⟨signs z, none⟩ (Its z) := by
  refine ⟨fun i ι S H st r h hi => ?_, fun i ι S H x H' iv st r h hi y => ?_, fun i ι S H st r h hi => ?_⟩
  · show i < z.cps.size
    simpa [signs] using hi
  · obtain ⟨rfl, ch, hc, rfl⟩ := y
    refine ⟨r, Step.refl, .inl ?_⟩
    simp only [signs, List.getElem?_map, Array.getElem?_toList, hc, Option.map_some, Option.some.injEq] at hi
    subst hi
    simp only [RV]
  · show z.cps.size ≤ i
    simpa [signs] using hi
theorem wk_rng {bb : Bool} {n : Nat} : WkOk bb K cm ι0 S0 H0 ⟨rngI n, none⟩ (Itr 0 n) := by
  refine ⟨fun i ι S H st r h hi => ?_, fun i ι S H x H' iv st r h hi y => ?_, fun i ι S H st r h hi => ?_⟩
  · show i < n
    simpa [rngI] using hi
  · obtain ⟨rfl, rfl⟩ := y
    refine ⟨r, Step.refl, .inl ?_⟩
    have hl : i < n := by
      have := (List.getElem?_eq_some_iff.mp hi).1
      simpa [rngI] using this
    simp only [rngI, List.getElem?_map, List.getElem?_range hl, Option.map_some, Option.some.injEq] at hi
    subst hi
    simp only [RV]
    simp
  · show n ≤ i
    simpa [rngI] using hi
end
section
variable {K : PySem.W.Frag} {cm : Cm} {ι0 : Nat → Addr} {S0 : Sto} {H0 : Hp}
theorem wk_rngJ {bb : Bool} {a b : Int} : WkOk bb K cm ι0 S0 H0 ⟨rngJ a b, none⟩ (Itr a (b - a).toNat) := by
  refine ⟨fun i ι S H st r h hi => ?_, fun i ι S H x H' iv st r h hi y => ?_, fun i ι S H st r h hi => ?_⟩
  · show i < (b - a).toNat
    simpa [rngJ] using hi
  · obtain ⟨rfl, rfl⟩ := y
    refine ⟨r, Step.refl, .inl ?_⟩
    have hl : i < (b - a).toNat := by
      have := (List.getElem?_eq_some_iff.mp hi).1
      simpa [rngJ] using this
    simp only [rngJ, List.getElem?_map, List.getElem?_range hl, Option.map_some, Option.some.injEq] at hi
    subst hi
    simp only [RV]
  · show (b - a).toNat ≤ i
    simpa [rngJ] using hi
end
theorem PI.weak {X : Cx} {tg e : Expr} {t t' : TI} (h : PI X tg e t) (g : ∀ σ H Q, t' σ H Q → t σ H Q) : PI X tg e t' := ⟨fun pins s σ H Q I q => h.run pins s σ H Q I (g σ H Q q)⟩
theorem PI.or {X : Cx} {tg e : Expr} {t t' : TI} (h : PI X tg e t) (h' : PI X tg e t') : PI X tg e (fun σ H Q => t σ H Q ∨ t' σ H Q) := ⟨fun pins s σ H Q I q => by
  rcases q with q | q
  · exact h.run pins s σ H Q I q
  · exact h'.run pins s σ H Q I q⟩
section
variable {X : Cx} {cm : Cm} {W : WX} {Γ : Gam} {tg e : Expr} {p : PX}
theorem sound_val {bb : Bool} (h : PE X e (tI X.K cm W (evE Γ p))) : PI X tg e (tW bb X.K cm W (evI Γ (.val p))) := by
  refine PI.weak (PI.or (pi_list h) (PI.or (pi_tup h) (pi_str h))) fun σ H R q => ?_
  obtain ⟨ι, S, τ, rl, rs, o⟩ := q
  simp only [evI] at o
  cases e1 : evE Γ p τ S with
  | bad => rw [e1] at o; exact o.elim
  | exc c S1 =>
    rw [e1] at o
    exact .inl ⟨ι, S, τ, rl, rs, by rw [e1]; exact o⟩
  | ok a S1 =>
    rw [e1] at o
    simp only [Rs.bind] at o
    cases a with
    | tup xs =>
      simp only [walkV] at o
      refine .inr (.inl ⟨ι, S, τ, rl, rs, ?_⟩)
      rw [e1]
      intro ι1 H1 v st r1 rv
      simp only [RVS, RV] at rv
      obtain ⟨a, vs, rfl, h1, h2⟩ := rv
      exact ⟨a, rfl, ⟨vs, h1.toT⟩, o ι1 H1 _ st r1 (wk_tup r1 h1.toT h2)⟩
    | str z =>
      simp only [walkV] at o
      refine .inr (.inr ⟨ι, S, τ, rl, rs, ?_⟩)
      rw [e1]
      intro ι1 H1 v st r1 rv
      simp only [RVS, RV] at rv
      exact ⟨z, rv, o ι1 H1 _ st r1 wk_str⟩
    | ref n =>
      simp only [walkV] at o
      refine .inl ⟨ι, S, τ, rl, rs, ?_⟩
      rw [e1]
      intro ι1 H1 v st r1 rv
      simp only [RVS, RV] at rv
      obtain ⟨hn, rfl⟩ := rv
      cases e2 : S1[n]? with
      | none => rw [e2] at o; exact o.elim
      | some c =>
        rw [e2] at o
        have hc := r1.cell n c e2
        cases c with
        | lst xs => obtain ⟨vs, a1, a2⟩ := hc; exact ⟨_, rfl, ⟨vs, .inl (.inl a1)⟩, o ι1 H1 _ st r1 (wk_list hn (.inl rfl))⟩
        | frz xs => obtain ⟨ob, vs, a1, a2⟩ := hc; exact ⟨_, rfl, ⟨vs, .inl (.inr ⟨ob, a1⟩)⟩, o ι1 H1 _ st r1 (wk_list hn (.inr rfl))⟩
        | dct kvs => exact o.elim
        | ins c fs => exact o.elim
        | dtt kvs => exact o.elim
    | non => exact o.elim
    | bl b => exact o.elim
    | int i => exact o.elim
    | cls i => exact o.elim
theorem wk_enumL {n : Nat} {c : Cell} {xs : List IV} {K : PySem.W.Frag} {cm : Cm} {ι0 : Nat → Addr} {S0 : Sto} {H0 : Hp} (hn : n < S0.length) (hc : c = .lst xs ∨ c = .frz xs) : WkOk true K cm ι0 S0 H0 ⟨enumI xs, some (n, c)⟩ (Ite K (ι0 n)) := by
  have key : ∀ ι S H, Step ι0 S0 H0 ι S H → Rel K cm ι S H → holds (some (n, c)) S = true → ∃ vs, SqL K H (ι0 n) vs ∧ RVs K ι S.length H xs vs := fun ι S H st r h => by
    have q := r.cell n c (held_cell h)
    rw [st.ext n hn] at q
    rcases hc with rfl | rfl
    · obtain ⟨vs, e1, e2⟩ := q; exact ⟨vs, .inl (.inl e1), e2⟩
    · obtain ⟨o, vs, e1, e2⟩ := q; exact ⟨vs, .inl (.inr ⟨o, e1⟩), e2⟩
  refine ⟨fun i ι S H st r h hi => ?_, fun i ι S H x H' iv st r h hi y => ?_, fun i ι S H st r h hi => ?_⟩
  · obtain ⟨vs, e1, e2⟩ := key ι S H st r h
    have hi' : i < xs.length := by simpa [enumI] using hi
    obtain ⟨v, hv, _⟩ := e2.get (i := i) (List.getElem?_eq_getElem hi')
    exact ⟨vs, v, e1, hv⟩
  · obtain ⟨vs, e1, e2⟩ := key ι S H st r h
    obtain ⟨T, u, rfl, hT, rfl, y⟩ := y
    simp only [enumI, List.getElem?_map, List.getElem?_zipIdx] at hi
    cases q : xs[i]? with
    | none => rw [q] at hi; simp at hi
    | some z =>
      rw [q] at hi
      simp only [Option.map_some, Nat.zero_add, Option.some.injEq] at hi
      subst hi
      obtain ⟨v, hv, rv⟩ := e2.get q
      have := y vs e1
      rw [hv] at this; cases this
      obtain ⟨r1, st1⟩ := r.upd_new (o := .tup [.int (i : Nat), u]) hT
      exact ⟨r1, st1, .inr ⟨rfl, _, T, _, rfl, rfl, .inl (.inl upd_same), .cons (by simp only [RV]) (.cons (rv.step r st1) .nil)⟩⟩
  · obtain ⟨vs, e1, e2⟩ := key ι S H st r h
    exact ⟨vs, e1, by rw [e2.length]; simpa [enumI] using hi⟩
theorem wk_enumT {xs : List IV} {a : Addr} {vs : List V} {K : PySem.W.Frag} {cm : Cm} {ι0 : Nat → Addr} {S0 : Sto} {H0 : Hp} (r0 : Rel K cm ι0 S0 H0) (h1 : SqT K H0 a vs) (h2 : RVs K ι0 S0.length H0 xs vs) : WkOk true K cm ι0 S0 H0 ⟨enumI xs, none⟩ (IteT K a) := by
  refine ⟨fun i ι S H st r h hi => ?_, fun i ι S H x H' iv st r h hi y => ?_, fun i ι S H st r h hi => ?_⟩
  · have hi' : i < xs.length := by simpa [enumI] using hi
    obtain ⟨v, hv, _⟩ := h2.get (i := i) (List.getElem?_eq_getElem hi')
    exact ⟨vs, v, SqT.step r0 st h1, hv⟩
  · obtain ⟨T, u, rfl, hT, rfl, y⟩ := y
    simp only [enumI, List.getElem?_map, List.getElem?_zipIdx] at hi
    cases q : xs[i]? with
    | none => rw [q] at hi; simp at hi
    | some z =>
      rw [q] at hi
      simp only [Option.map_some, Nat.zero_add, Option.some.injEq] at hi
      subst hi
      obtain ⟨v, hv, rv⟩ := h2.get q
      have := y vs (SqT.step r0 st h1)
      rw [hv] at this; cases this
      obtain ⟨r1, st1⟩ := r.upd_new (o := .tup [.int (i : Nat), u]) hT
      exact ⟨r1, st1, .inr ⟨rfl, _, T, _, rfl, rfl, .inl (.inl upd_same), .cons (by simp only [RV]) (.cons ((rv.step r0 st).step r st1) .nil)⟩⟩
  · exact ⟨vs, SqT.step r0 st h1, by rw [h2.length]; simpa [enumI] using hi⟩
theorem wk_zipT {xs ys : List IV} {a b : Addr} {vs ws : List V} {K : PySem.W.Frag} {cm : Cm} {ι0 : Nat → Addr} {S0 : Sto} {H0 : Hp} (r0 : Rel K cm ι0 S0 H0) (h1 : SqT K H0 a vs) (h2 : RVs K ι0 S0.length H0 xs vs) (h3 : SqT K H0 b ws) (h4 : RVs K ι0 S0.length H0 ys ws) : WkOk true K cm ι0 S0 H0 ⟨zipI xs ys, none⟩ (ItzT K a b) := by
  have hlen : (zipI xs ys).length = min xs.length ys.length := by simp [zipI]
  refine ⟨fun i ι S H st r h hi => ?_, fun i ι S H x H' iv st r h hi y => ?_, fun i ι S H st r h hi => ?_⟩
  · rw [hlen] at hi
    obtain ⟨v, hv, _⟩ := h2.get (i := i) (List.getElem?_eq_getElem (by omega))
    obtain ⟨v', hv', _⟩ := h4.get (i := i) (List.getElem?_eq_getElem (by omega))
    exact ⟨vs, ws, v, v', SqT.step r0 st h1, SqT.step r0 st h3, hv, hv'⟩
  · obtain ⟨T, u, u', rfl, hT, rfl, y, y'⟩ := y
    have hl : i < min xs.length ys.length := by rw [← hlen]; exact (List.getElem?_eq_some_iff.mp hi).1
    have q1 : xs[i]? = some xs[i] := List.getElem?_eq_getElem (by omega)
    have q2 : ys[i]? = some ys[i] := List.getElem?_eq_getElem (by omega)
    have hi2 : iv = .tup [xs[i], ys[i]] := by
      simp only [zipI, List.getElem?_map, List.zip, List.getElem?_zipWith, q1, q2, Option.map_some, Option.some.injEq] at hi
      exact hi.symm
    subst hi2
    obtain ⟨v, hv, rv⟩ := h2.get q1
    obtain ⟨v', hv', rv'⟩ := h4.get q2
    have := y vs (SqT.step r0 st h1)
    rw [hv] at this; cases this
    have := y' ws (SqT.step r0 st h3)
    rw [hv'] at this; cases this
    obtain ⟨r1, st1⟩ := r.upd_new (o := .tup [u, u']) hT
    exact ⟨r1, st1, .inr ⟨rfl, _, T, _, rfl, rfl, .inl (.inl upd_same), .cons ((rv.step r0 st).step r st1) (.cons ((rv'.step r0 st).step r st1) .nil)⟩⟩
  · rw [hlen] at hi
    refine ⟨vs, ws, SqT.step r0 st h1, SqT.step r0 st h3, ?_⟩
    rw [h2.length, h4.length]
    rcases Nat.le_total xs.length ys.length with q | q
    · rw [Nat.min_eq_left q] at hi; exact .inl hi
    · rw [Nat.min_eq_right q] at hi; exact .inr hi
theorem sound_enum {pp pos tpos : Pos} {elts : List Expr} {kk : Nat} (hg : Gl X "enumerate") (hm : X.mg "enumerate" = none) (ha : PA X [e] (tIs X.K cm W (evEs Γ [p]))) (hs : starEach [e] X.env = [(false, eval e X.env)]) : PI X (.Tuple elts kk tpos) (.Call (.Name "enumerate" pp) [e] [] pos) (tW true X.K cm W (evI Γ (.enum p))) := by
  refine PI.weak (pi_enumA hg hm ha hs) fun σ H R q => ?_
  obtain ⟨ι, S, τ, rl, rs, o⟩ := q
  refine ⟨ι, S, τ, rl, rs, ?_⟩
  simp only [evI] at o
  simp only [evEs]
  cases e1 : evE Γ p τ S with
  | bad => rw [e1] at o; exact o.elim
  | exc c S1 => rw [e1] at o; exact o
  | ok a S1 =>
    rw [e1] at o
    simp only [Rs.bind] at o ⊢
    intro ι1 H1 vs st r1 rv
    obtain ⟨v, rfl, rx⟩ := RVs.one (S := S1) (X := X) (by exact rv)
    cases a with
    | tup xs =>
      simp only [enumV] at o
      simp only [RV] at rx
      obtain ⟨a, vs, rfl, h1, h2⟩ := rx
      exact ⟨a, vs, rfl, .inr ⟨h1.toT, o ι1 H1 _ st r1 (wk_enumT r1 h1.toT h2)⟩⟩
    | ref n =>
      simp only [enumV] at o
      simp only [RV] at rx
      obtain ⟨hn, rfl⟩ := rx
      cases e2 : S1[n]? with
      | none => rw [e2] at o; exact o.elim
      | some c =>
        rw [e2] at o
        have hc := r1.cell n c e2
        cases c with
        | lst xs => obtain ⟨vs, a1, a2⟩ := hc; exact ⟨_, vs, rfl, .inl ⟨.inl (.inl a1), o ι1 H1 _ st r1 (wk_enumL hn (.inl rfl))⟩⟩
        | frz xs => obtain ⟨ob, vs, a1, a2⟩ := hc; exact ⟨_, vs, rfl, .inl ⟨.inl (.inr ⟨ob, a1⟩), o ι1 H1 _ st r1 (wk_enumL hn (.inr rfl))⟩⟩
        | dct kvs => exact o.elim
        | ins c fs => exact o.elim
        | dtt kvs => exact o.elim
    | str z => exact o.elim
    | non => exact o.elim
    | bl b => exact o.elim
    | int i => exact o.elim
    | cls i => exact o.elim
theorem one_len {Γ : Gam} {p : PX} {τ : Sl} {S S1 : Sto} {a : List IV} (h : evEs Γ [p] τ S = .ok a S1) : a.length = 1 := by
  simp only [evEs] at h
  cases e : evE Γ p τ S with
  | bad => rw [e] at h; cases h
  | exc c S1 => rw [e] at h; cases h
  | ok x S2 => rw [e] at h; cases h; rfl
theorem two_len {Γ : Gam} {p p2 : PX} {τ : Sl} {S S1 : Sto} {a : List IV} (h : evEs Γ [p, p2] τ S = .ok a S1) : a.length = 2 := by
  simp only [evEs] at h
  cases e : evE Γ p τ S with
  | bad => rw [e] at h; cases h
  | exc c S1 => rw [e] at h; cases h
  | ok x S2 =>
    rw [e] at h
    simp only [Rs.bind] at h
    cases e2 : evE Γ p2 τ S2 with
    | bad => rw [e2] at h; cases h
    | exc c S1 => rw [e2] at h; cases h
    | ok y S3 => rw [e2] at h; cases h; rfl
theorem sound_rng {bb : Bool} {pp pos : Pos} (hg : Gl X "range") (hm : X.mg "range" = none) (ha : PA X [e] (tIs X.K cm W (evEs Γ [p]))) (hs : starEach [e] X.env = [(false, eval e X.env)]) : PI X tg (.Call (.Name "range" pp) [e] [] pos) (tW bb X.K cm W (evI Γ (.rng [p]))) := by
  refine PI.weak (pi_range1 hg hm ha hs) fun σ H R q => ?_
  obtain ⟨ι, S, τ, rl, rs, o⟩ := q
  refine ⟨ι, S, τ, rl, rs, ?_⟩
  simp only [evI] at o
  cases e1 : evEs Γ [p] τ S with
  | bad => rw [e1] at o; exact o.elim
  | exc c S1 => rw [e1] at o; exact o
  | ok a S1 =>
    rw [e1] at o
    simp only [Rs.bind] at o
    intro ι1 H1 v st r1 rv
    split at o
    · rename_i n
      split at o
      · rename_i hb
        simp only [Bool.and_eq_true, decide_eq_true_eq] at hb
        obtain ⟨x, rfl, rx⟩ := RVs.one (S := S1) (X := X) (by exact rv)
        simp only [RV] at rx; subst rx
        exact ⟨n, rfl, hb.1, hb.2, o ι1 H1 _ st r1 wk_rng⟩
      · exact o.elim
    · exact absurd (one_len e1) (by simp)
    · exact o.elim
theorem sound_rng2 {bb : Bool} {e2 : Expr} {p2 : PX} {pp pos : Pos} (hg : Gl X "range") (hm : X.mg "range" = none) (ha : PA X [e, e2] (tIs X.K cm W (evEs Γ [p, p2]))) (hs : starEach [e, e2] X.env = (false, eval e X.env) :: starEach [e2] X.env) (hs2 : starEach [e2] X.env = [(false, eval e2 X.env)]) : PI X tg (.Call (.Name "range" pp) [e, e2] [] pos) (tW bb X.K cm W (evI Γ (.rng [p, p2]))) := by
  refine PI.weak (pi_range2 hg hm ha (by rw [hs, hs2]) hs2) fun σ H R q => ?_
  obtain ⟨ι, S, τ, rl, rs, o⟩ := q
  refine ⟨ι, S, τ, rl, rs, ?_⟩
  simp only [evI] at o
  cases e1 : evEs Γ [p, p2] τ S with
  | bad => rw [e1] at o; exact o.elim
  | exc c S1 => rw [e1] at o; exact o
  | ok a S1 =>
    rw [e1] at o
    simp only [Rs.bind] at o
    intro ι1 H1 v st r1 rv
    split at o
    · exact absurd (two_len e1) (by simp)
    · rename_i n m
      split at o
      · rename_i hb
        simp only [Bool.and_eq_true, decide_eq_true_eq] at hb
        obtain ⟨x, y, rfl, rx, ry⟩ := RVs.two (S := S1) (X := X) (by exact rv)
        simp only [RV] at rx ry; subst rx ry
        exact ⟨n, m, rfl, ⟨by omega, by omega, by omega, by omega⟩, o ι1 H1 _ st r1 wk_rngJ⟩
      · exact o.elim
    · exact o.elim
end
end Wg
/-! WgK: comprehensions; all expressions. -/
namespace Wg
open PySem PySem.Spec PyProof.Rows L2
section
variable {K : PySem.W.Frag} {cm : Cm} {ι ι1 : Nat → Addr} {S S1 : Sto} {H H1 : Hp} {D : Addr} {vs ws : List V}
/-- a list that is tracked and no cell: it is changed -/
theorem Rel.side (r : Rel K cm ι S H) (hD : H D = some (.lst vs)) (hn : ∀ m, m < S.length → ι m ≠ D) : Rel K cm ι S (upd H D (.lst ws)) ∧ ∀ a us, SqN K H a us → SqN K (upd H D (.lst ws)) a us := by
  have ht : ∀ a us, SqN K H a us → SqN K (upd H D (.lst ws)) a us := fun a us h => h.upd_at fun _ _ z => by rw [hD] at z; cases z
  refine ⟨⟨fun i c e => ?_, r.inj⟩, ht⟩
  have hi : i < S.length := (List.getElem?_eq_some_iff.mp e).1
  exact (r.cell i c e).map (by rw [upd_ne (hn i hi)]) ht (fun _ _ => rfl) (Nat.le_refl _)
/-- .. it becomes a cell -/
theorem Rel.adopt {xs : List IV} (r : Rel K cm ι S H) (hD : H D = some (.lst vs)) (hn : ∀ m, m < S.length → ι m ≠ D) (rv : RVs K ι S.length H xs vs) : Rel K cm (more ι S.length D) (S ++ [.lst xs]) H := by
  have hl : (S ++ [Cell.lst xs]).length = S.length + 1 := by simp
  refine ⟨fun i d e => ?_, fun i j hi hj q => ?_⟩
  · rw [hl]
    by_cases hi : i < S.length
    · rw [List.getElem?_append_left hi] at e
      rw [more_lt hi]
      exact (r.cell i d e).map rfl (fun _ _ q => q) (fun m hm => more_lt hm) (Nat.le_succ _)
    · have hi2 : i = S.length := by
        have := (List.getElem?_eq_some_iff.mp e).1
        rw [hl] at this; omega
      subst hi2
      rw [List.getElem?_append_right (Nat.le_refl _), Nat.sub_self] at e
      cases e
      rw [more_eq]
      exact ⟨vs, hD, rv.map (fun _ _ q => q) (fun m hm => more_lt hm) (Nat.le_succ _)⟩
  · rw [hl] at hi hj
    by_cases h1 : i < S.length
    · by_cases h2 : j < S.length
      · rw [more_lt h1, more_lt h2] at q; exact r.inj i j h1 h2 q
      · have : j = S.length := by omega
        subst this
        rw [more_lt h1, more_eq] at q
        exact absurd q (hn i h1)
    · have : i = S.length := by omega
      subst this
      by_cases h2 : j < S.length
      · rw [more_lt h2, more_eq] at q
        exact absurd q.symm (hn j h2)
      · omega
/-- the state within a comprehension: D its list -/
structure Mid (K : PySem.W.Frag) (cm : Cm) (ι1 : Nat → Addr) (S1 : Sto) (H1 : Hp) (D : Addr) (ι : Nat → Addr) (S : Sto) (H : Hp) (acc : List IV) : Prop where
  st : Step ι1 S1 H1 ι S H
  rel : Rel K cm ι S H
  off : ∀ m, m < S.length → ι m ≠ D
  lst : ∃ vs, H D = some (.lst vs) ∧ RVs K ι S.length H acc vs
theorem Mid.start (r1 : Rel K cm ι1 S1 H1) (hD : H1 D = none) : Mid K cm ι1 S1 H1 D ι1 S1 (upd H1 D (.lst [])) [] := by
  obtain ⟨a, b⟩ := r1.upd_new (o := .lst []) hD
  refine ⟨b, a, fun m hm e => ?_, [], upd_same, .nil⟩
  obtain ⟨o, eo, _⟩ := r1.there hm
  rw [e, hD] at eo; cases eo
variable {acc : List IV} {ι2 : Nat → Addr} {S2 : Sto} {H2 : Hp}
theorem Mid.step (M : Mid K cm ι1 S1 H1 D ι S H acc) (st : Step ι S H ι2 S2 H2) (r2 : Rel K cm ι2 S2 H2) : Mid K cm ι1 S1 H1 D ι2 S2 H2 acc := by
  obtain ⟨vs, hD, rv⟩ := M.lst
  refine ⟨Step.trans M.rel M.st st, r2, fun m hm e => ?_, vs, st.frm D _ hD M.off, rv.step M.rel st⟩
  by_cases h : m < S.length
  · rw [st.ext m h] at e; exact M.off m h e
  · have := st.new m (Nat.le_of_not_lt h) hm
    rw [e, hD] at this; cases this
theorem Mid.push (M : Mid K cm ι1 S1 H1 D ι S H acc) (hD1 : H1 D = none) {y : IV} {v : V} (rv : RV K ι S.length H y v) : ∃ vs, H D = some (.lst vs) ∧ vs.length = acc.length ∧ Mid K cm ι1 S1 H1 D ι S (upd H D (.lst (vs ++ [v]))) (acc ++ [y]) := by
  obtain ⟨vs, hD, rvs⟩ := M.lst
  obtain ⟨r2, ht⟩ := M.rel.side (ws := vs ++ [v]) hD M.off
  refine ⟨vs, hD, rvs.length, ⟨M.st.len, M.st.ext, fun a o e h => ?_, M.st.new⟩, r2, M.off, _, upd_same, (rvs.append (.cons rv .nil)).map ht (fun _ _ => rfl) (Nat.le_refl _)⟩
  rw [upd_ne (ne_of_none e hD1)]
  exact M.st.frm a o e h
theorem Mid.done (M : Mid K cm ι1 S1 H1 D ι S H acc) (hD1 : H1 D = none) {Q : VK} {W : WX} {σ : L2.St} (o : Out K cm W ι1 S1 H1 σ (RVS K) (alloc (.lst acc) S) Q) : Q (.ref D) H := by
  obtain ⟨vs, hD, rvs⟩ := M.lst
  refine o (more ι S.length D) H _ ⟨?_, fun m hm => ?_, fun a u e h => M.st.frm a u e h, fun m h1 h2 => ?_⟩ (M.rel.adopt hD M.off rvs) ?_
  · rw [List.length_append]; exact Nat.le_trans M.st.len (Nat.le_add_right _ _)
  · rw [more_lt (Nat.lt_of_lt_of_le hm M.st.len), M.st.ext m hm]
  · by_cases h : m < S.length
    · rw [more_lt h]; exact M.st.new m h1 h
    · have : m = S.length := by simp at h2; omega
      subst this
      rw [more_eq]; exact hD1
  · simp only [RVS, RV]
    exact ⟨by simp, by rw [more_eq]⟩
end
/-! ### a comprehension's reading -/
/-- one turn -/
def oneI (Γ : Gam) (tg : Tg) (ifs : List PX) (elt : PX) (τ : Sl) : IV → Sto → Rs (Option IV) := fun x S2 => match setT tg x τ with
  | none => .bad
  | some τ' => (evTs Γ ifs τ' S2).bind fun k S3 => if k then (evE Γ elt τ' S3).bind fun y S4 => .ok (some y) S4 else .ok none S3
abbrev tTs (K : PySem.W.Frag) (cm : Cm) (W : WX) (m : Sl → Sto → Rs Bool) : TT := tG K cm W RId m
abbrev W0 : WX := fun _ _ _ _ => False
theorem wipe_same : ∀ (js : List Nat) (σ σ' : L2.St), OffT js (L2.wipe σ js) σ' → L2.wipe σ' js = L2.wipe σ js := by
  intro js σ σ' h
  have get : ∀ (ks : List Nat) (ρ : L2.St) (i : Nat), (L2.wipe ρ ks)[i]? = if i ∈ ks ∧ i < ρ.length then some none else ρ[i]? := by
    intro ks
    induction ks with
    | nil => intro ρ i; simp [L2.wipe]
    | cons k ks ih =>
      intro ρ i
      simp only [L2.wipe]
      by_cases hk : k = i
      · subst hk
        by_cases hl : k < ρ.length
        · rw [List.getElem?_set_self (by rw [L2.wipe_length]; exact hl)]
          simp [hl]
        · rw [List.getElem?_eq_none (by rw [List.length_set, L2.wipe_length]; omega)]
          rw [if_neg (fun z => hl z.2), List.getElem?_eq_none (by omega)]
      · rw [List.getElem?_set_ne hk, ih]
        have : (i ∈ k :: ks) ↔ i ∈ ks := by simp [Ne.symm hk]
        simp only [this]
  have hl : σ'.length = σ.length := by rw [h.1, L2.wipe_length]
  refine List.ext_getElem? fun i => ?_
  rw [get, get]
  by_cases hi : i ∈ js ∧ i < σ'.length
  · rw [if_pos hi, if_pos ⟨hi.1, by rw [← hl]; exact hi.2⟩]
  · rw [if_neg hi]
    by_cases hj : i ∈ js
    · have : ¬ i < σ'.length := fun z => hi ⟨hj, z⟩
      rw [List.getElem?_eq_none (by omega), if_neg (fun z => this (by rw [hl]; exact z.2)), List.getElem?_eq_none (by omega)]
    · rw [h.2 i hj, get]
theorem OffT.sub {js ks : List Nat} {σ σ' : L2.St} (h : OffT js σ σ') (hs : ∀ i ∈ js, i ∈ ks) : OffT ks σ σ' := ⟨h.1, fun i hi => h.2 i fun z => hi (hs i z)⟩
section
variable {K : PySem.W.Frag} {cm : Cm} {W : WX} {Γ : Gam} {own : List Nat} {tg : Tg} {it : PIt} {ifs : List PX} {elt : PX} {σ : L2.St} {H : Hp} {Q : VK}
theorem tLc_of {bb : Bool} (hbb : bb = true → ∃ ts, tg = .tp ts) (hown : ∀ i ∈ tg.ins, i ∈ own) (h : tI K cm W (evE Γ (.lc own tg it ifs elt)) σ H Q) :
    tLc (tW bb K cm W (evI Γ it)) (gTg K tg) (tTs K cm W0 (evTs Γ ifs)) (tI K cm W0 (evE Γ elt)) own σ H Q := by
  have h' : tI K cm W (fun τ S => (evI Γ it τ S).bind fun wk S1 => (lcGo (oneI Γ tg ifs elt (wipeI τ own)) wk.held wk.items [] S1).bind fun ys S2 => alloc (.lst ys) S2) σ H Q := by
    obtain ⟨ι, S, τ, rl, rs, o⟩ := h
    exact ⟨ι, S, τ, rl, rs, by simp only [evE] at o; exact o⟩
  refine tG.bind (f := fun τ wk S1 => (lcGo (oneI Γ tg ifs elt (wipeI τ own)) wk.held wk.items [] S1).bind fun ys S2 => alloc (.lst ys) S2) h' fun ι1 S1 H1 τ wk J r1 rs1 hw o1 => ?_
  intro D hD
  refine ⟨fun i m H => ∃ ι S acc, Mid K cm ι1 S1 H1 D ι S H acc ∧ m = wk.items.length - i ∧ i ≤ wk.items.length ∧
      Out K cm W ι1 S1 H1 σ (RVS K) ((lcGo (oneI Γ tg ifs elt (wipeI τ own)) wk.held (wk.items.drop i) acc S).bind fun ys S2 => alloc (.lst ys) S2) Q,
    ⟨_, ι1, S1, [], Mid.start r1 hD, rfl, Nat.zero_le _, by rw [List.drop_zero]; exact o1⟩, ?_⟩
  rintro i m H2 ⟨ι, S, acc, M, rfl, hi, o⟩
  by_cases hlt : i < wk.items.length
  · have hd : wk.items.drop i = wk.items[i] :: wk.items.drop (i + 1) := by rw [List.drop_eq_getElem_cons hlt]
    rw [hd] at o
    simp only [lcGo] at o
    split at o
    · rename_i hh
      have hget : wk.items[i]? = some wk.items[i] := List.getElem?_eq_getElem hlt
      refine .inr ⟨hw.go i ι S H2 M.st M.rel hh hlt, fun H' => ∃ ι S acc, Mid K cm ι1 S1 H1 D ι S H' acc ∧ Out K cm W ι1 S1 H1 σ (RVS K) ((lcGo (oneI Γ tg ifs elt (wipeI τ own)) wk.held (wk.items.drop (i + 1)) acc S).bind fun ys S2 => alloc (.lst ys) S2) Q,
        fun H' ⟨ι', S', acc', M', o'⟩ => ⟨wk.items.length - (i + 1), by omega, ι', S', acc', M', rfl, hlt, o'⟩, fun x H' hy => ?_⟩
      obtain ⟨rA, stA, rvx⟩ := hw.yld i ι S H2 x H' _ M.st M.rel hh hget hy
      have MA := M.step stA rA
      -- the turn gives a value, or nothing
      cases e1 : setT tg wk.items[i] (wipeI τ own) with
      | none =>
        simp only [oneI, e1, Rs.bind] at o
        exact o.elim
      | some τ' =>
        simp only [oneI, e1] at o
        have rsw : RSl K ι S.length H' (wipeI τ own) (L2.wipe σ own) := (rs1.step r1 MA.st).wipe own
        refine setT_okW tg hbb _ x _ τ' _ e1 rvx rsw _ fun σ2 rs2 off => ⟨wipe_same own σ σ2 (off.sub hown), ι, S, τ', rA, rs2, ?_⟩
        cases e2 : evTs Γ ifs τ' S with
        | bad => rw [e2] at o; exact o.elim
        | exc c S3 => rw [e2] at o; exact o.elim
        | ok b S3 =>
          rw [e2] at o
          simp only [Rs.bind] at o
          intro ι3 H3 b' st3 r3 eb
          obtain rfl : b = b' := eb
          have M3 := MA.step st3 r3
          cases b with
          | false =>
            simp only [Bool.false_eq_true, if_false] at o ⊢
            exact ⟨ι3, S3, acc, M3, o⟩
          | true =>
            simp only [if_true] at o ⊢
            refine ⟨ι3, S3, τ', r3, rs2.step rA st3, ?_⟩
            cases e3 : evE Γ elt τ' S3 with
            | bad => rw [e3] at o; exact o.elim
            | exc c S4 => rw [e3] at o; exact o.elim
            | ok y S4 =>
              rw [e3] at o
              simp only [] at o
              intro ι4 H4 v st4 r4 rv4
              have M4 := M3.step st4 r4
              by_cases hz : szOk (acc.length + 1) = true
              · rw [if_pos hz] at o
                obtain ⟨vs, hv, hl, M5⟩ := M4.push hD rv4
                refine ⟨vs, hv, ?_, ι4, S4, _, M5, o⟩
                have hz' : acc.length + 1 ≤ 16777216 := by simpa [szOk] using hz
                rw [hl, sizeLine_eq]; omega
              · rw [if_neg hz] at o; exact o.elim
    · exact o.elim
  · have e : i = wk.items.length := by omega
    subst e
    rw [List.drop_length] at o
    simp only [lcGo] at o
    split at o
    · rename_i hh
      exact .inl ⟨hw.stop _ ι S H2 M.st M.rel hh (Nat.le_refl _), M.done hD (by simpa only [Rs.bind] using o)⟩
    · exact o.elim
end
end Wg
/-! WgL: all expressions. -/
namespace Wg
open PySem PySem.Spec PyProof.Rows L2
section
variable {K : PySem.W.Frag} {cm : Cm} {W : WX} {Γ : Gam} {σ : L2.St} {H : Hp} {Q : VK}
theorem k_st {v : IV} {x : V} (hv : ∀ ι n H, RV K ι n H v x) (h : tI K cm W (evE Γ (.k v)) σ H Q) : Q x H := by
  obtain ⟨ι, S, τ, rl, rs, o⟩ := h
  simp only [evE] at o
  exact o ι H x Step.refl rl (hv _ _ _)
theorem loc_st {i : Nat} (h : tI K cm W (evE Γ (.loc i)) σ H Q) : tVar i σ H Q := by
  obtain ⟨ι, S, τ, rl, rs, o⟩ := h
  simp only [evE] at o
  split at o
  · rename_i v e
    obtain ⟨x, hx, rv⟩ := rs.2 i v e
    exact ⟨x, hx, o ι H x Step.refl rl rv⟩
  · exact o.elim
theorem tNil_st {Q : List V → Hp → Prop} (h : tIs K cm W (evEs Γ []) σ H Q) : tNil σ H Q := by
  obtain ⟨ι, S, τ, rl, rs, o⟩ := h
  simp only [evEs] at o
  exact o ι H [] Step.refl rl RVs.nil
theorem tCons_st {p : PX} {ps : List PX} {Q : List V → Hp → Prop} (h : tIs K cm W (evEs Γ (p :: ps)) σ H Q) : tCons (tI K cm W (evE Γ p)) (tIs K cm W (evEs Γ ps)) σ H Q := by
  have h' : tIs K cm W (fun τ S => (evE Γ p τ S).bind fun x S1 => (evEs Γ ps τ S1).bind fun xs S2 => .ok (x :: xs) S2) σ H Q := by
    obtain ⟨ι, S, τ, rl, rs, o⟩ := h
    exact ⟨ι, S, τ, rl, rs, by simp only [evEs] at o; exact o⟩
  refine tG.bind (f := fun τ x S1 => (evEs Γ ps τ S1).bind fun xs S2 => .ok (x :: xs) S2) h' fun ι1 S1 H1 τ a v r1 rs1 ra o1 => ⟨ι1, S1, τ, r1, rs1, Out.bindR o1 fun b S2 ι2 H2 y _ st r2 rb o2 => ?_⟩
  exact o2 ι2 H2 _ Step.refl r2 (RVs.cons (RV.step ra r1 st) rb)
/-- (a, b, ..), its object seen whole -/
def tTupN (t : TA) : TE := fun σ H Q => t σ H fun xs H1 => xs.length ≤ sizeLine ∧ ∀ (p : Addr) (o : Obj), H1 p = none → o.dict = none → Q (.ref p) (upd H1 p (.frz o (.tup xs)))
theorem pe_tupN {X : Cx} {es : List Expr} {pos : Pos} {t : TA} {x1} (h : PA X es t) : PE X (.Tuple es x1 pos) (tTupN t) := ⟨fun pins s σ H Q I hq =>
  wpAny_Tuple_spliced (thn (h.run pos pins s σ H _ I hq) fun us s1 ⟨xs, H1, I1, w, hz, q⟩ => ⟨by rw [← w.length]; exact hz, by
    obtain ⟨I2, hf⟩ := tNew I1 w hz
    exact ⟨.ref _, _, I2, rfl, q _ _ hf rfl⟩⟩)⟩
theorem tTup_st {ps : List PX} (h : tI K cm W (evE Γ (.tup ps)) σ H Q) : tTupN (tIs K cm W (evEs Γ ps)) σ H Q := by
  have h' : tI K cm W (fun τ S => (evEs Γ ps τ S).bind fun xs S1 => if szOk xs.length then .ok (.tup xs) S1 else .bad) σ H Q := by
    obtain ⟨ι, S, τ, rl, rs, o⟩ := h
    exact ⟨ι, S, τ, rl, rs, by simp only [evE] at o; exact o⟩
  refine tG.bind (f := fun τ (xs : List IV) S1 => if szOk xs.length then .ok (IV.tup xs) S1 else .bad) h' fun ι1 S1 H1 τ a v r1 rs1 ra o1 => ?_
  by_cases hz : szOk a.length = true
  · rw [if_pos hz] at o1
    exact ⟨by rw [RVs.length ra]; exact sz_le hz, OutV.tup (OutV.of o1 fun _ _ => by simp) r1 ra⟩
  · rw [if_neg hz] at o1; exact o1.elim
theorem tLst_st {ps : List PX} (h : tI K cm W (evE Γ (.lst ps)) σ H Q) : tLst (tIs K cm W (evEs Γ ps)) σ H Q := by
  have h' : tI K cm W (fun τ S => (evEs Γ ps τ S).bind fun xs S1 => if szOk xs.length then alloc (.lst xs) S1 else .bad) σ H Q := by
    obtain ⟨ι, S, τ, rl, rs, o⟩ := h
    exact ⟨ι, S, τ, rl, rs, by simp only [evE] at o; exact o⟩
  refine tG.bind (f := fun τ (xs : List IV) S1 => if szOk xs.length then alloc (.lst xs) S1 else .bad) h' fun ι1 S1 H1 τ a v r1 rs1 ra o1 => ?_
  by_cases hz : szOk a.length = true
  · rw [if_pos hz] at o1
    exact ⟨by rw [RVs.length ra]; exact sz_le hz, OutV.lst (OutV.of o1 fun _ _ => by simp [alloc]) r1 ra⟩
  · rw [if_neg hz] at o1; exact o1.elim
/-- {}, to be a dict whose keys are tuples -/
def tDNewX : TE := fun _ H Q => ∀ p ob, H p = none → (p == sysModules) = false → ob.ExactDict → ob.data = .dict #[] 0 → Q (.ref p) (upd H p (dtx p ob))
theorem pe_dnewX {X : Cx} {pos : Pos} : PE X (.Dict [] [] pos) tDNewX := ⟨fun pins s σ H Q I h => by
  have hs : (s.heap.objs.size == sysModules) = false := beq_eq_false_iff_ne.mpr (Ne.symm (Nat.ne_of_lt I.big))
  have hg : (s.heap.push { cls := .type "dict", data := .dict #[] }).get? s.heap.objs.size = some { cls := .type "dict", data := .dict #[] } := Heap.get?_push_size _ rfl
  exact wpAny_Dict_empty ⟨.ref s.heap.objs.size, _, I.laid (a := s.heap.objs.size) (o := dtx s.heap.objs.size { cls := .type "dict", data := .dict #[] }) (t' := s.toks) (fun _ _ q => Heap.get?_push_of_some _ q) (Nat.le_refl _)
    ⟨hg, ⟨_, hg⟩, fun h1 h2 e k => k _ e⟩, rfl, h _ _ (I.hok.fresh (Nat.le_refl _)) hs ⟨rfl, rfl, rfl⟩ rfl⟩⟩
theorem dnt_st (h : tI K cm W (evE Γ .dnt) σ H Q) : tDNewX σ H Q := by
  obtain ⟨ι, S, τ, rl, rs, o⟩ := h
  simp only [evE] at o
  intro p ob hp hs hx hd
  obtain ⟨r1, st⟩ := rl.add (o := dtx p ob) (c := .dtt []) hp ⟨[], ⟨ob, #[], 0, [], upd_same, hs, Nat.zero_le _, hx, hd, fun _ _ => rfl, List.nodup_nil, .nil⟩, rfl, .nil⟩
  refine o _ _ _ st r1 ?_
  simp only [RVS, RV]
  exact ⟨by simp, by rw [more_eq]⟩
theorem dnew_st (h : tI K cm W (evE Γ (.dct [])) σ H Q) : tDNewK σ H Q := by
  obtain ⟨ι, S, τ, rl, rs, o⟩ := h
  simp only [evE] at o
  intro p hp
  obtain ⟨r1, st⟩ := rl.add (o := .dK []) (c := .dct []) hp ⟨[], upd_same, rfl, .nil⟩
  refine o _ _ _ st r1 ?_
  simp only [RVS, RV]
  exact ⟨by simp, by rw [more_eq]⟩
theorem ddisp_st {i j : Int} (h : tI K cm W (evE Γ (.dct [(.k (.int i), .k (.int j))])) σ H Q) : tDisp [(tC (.int i), tC (.int j))] σ H Q := by
  obtain ⟨ι, S, τ, rl, rs, o⟩ := h
  simp only [evE] at o
  intro p hp
  refine ⟨upd_same, [(Sum.inl i, .int j)], rfl, by simp, ?_⟩
  rw [upd_upd]
  obtain ⟨r1, st⟩ := rl.add (o := .dK (mergeK [] [(Sum.inl i, V.int j)])) (c := .dct [(Sum.inl i, .int j)]) hp ⟨_, upd_same, by simp [mergeK, putK], by
    simp only [mergeK, List.foldl, putK, List.map_cons, List.map_nil]
    exact .cons (by simp only [RV]) .nil⟩
  refine o _ _ _ st r1 ?_
  simp only [RVS, RV]
  exact ⟨by simp, by rw [more_eq]⟩
theorem tSl_st {p : PX} {l h : Option PX} (q : tI K cm W (evE Γ (.sl p l h)) σ H Q) : tSl (rISl K cm) (tI K cm W (evE Γ p)) (tIO K cm W (evO Γ l)) (tIO K cm W (evO Γ h)) σ H Q := by
  have q' : tI K cm W (fun τ S => (evE Γ p τ S).bind fun x S1 => (evO Γ l τ S1).bind fun a S2 => (evO Γ h τ S2).bind fun b S3 => slI x a b S3) σ H Q := by
    obtain ⟨ι, S, τ, rl, rs, o⟩ := q
    exact ⟨ι, S, τ, rl, rs, by simp only [evE] at o; exact o⟩
  refine tG.bind (f := fun τ x S1 => (evO Γ l τ S1).bind fun a S2 => (evO Γ h τ S2).bind fun b S3 => slI x a b S3) q' fun ι1 S1 H1 τ x v r1 rs1 ra o1 => ⟨ι1, S1, τ, r1, rs1, Out.bindR o1 fun a S2 ι2 H2 a' _ st r2 rb o2 => ?_⟩
  obtain rfl : a = a' := rb
  refine ⟨ι2, S2, τ, r2, rs1.step r1 st, Out.bindR o2 fun b S3 ι3 H3 b' _ st3 r3 rc o3 => ?_⟩
  obtain rfl : b = b' := rc
  exact ⟨ι3, S3, x, r3, (RV.step ra r1 st).step r2 st3, OutV.of o3 fun _ _ => slI_ne⟩
theorem tO_none {Q : Option Int → Hp → Prop} (h : tIO K cm W (evO Γ none) σ H Q) : tNoPart σ H Q := by
  obtain ⟨ι, S, τ, rl, rs, o⟩ := h
  simp only [evO] at o
  exact o ι H none Step.refl rl rfl
theorem tO_some {p : PX} {Q : Option Int → Hp → Prop} (h : tIO K cm W (evO Γ (some p)) σ H Q) : tPart (tI K cm W (evE Γ p)) σ H Q := by
  obtain ⟨ι, S, τ, rl, rs, o⟩ := h
  simp only [evO] at o
  refine ⟨ι, S, τ, rl, rs, Out.bindR (RA := RVS K) o fun a S1 ι1 H1 v _ st r1 ra o1 => ?_⟩
  cases a with
  | int i =>
    have : v = .int i := by simpa only [RVS, RV] using ra
    exact ⟨i, this, o1 ι1 H1 _ Step.refl r1 rfl⟩
  | non => exact o1.elim
  | bl b => exact o1.elim
  | str b => exact o1.elim
  | tup b => exact o1.elim
  | ref b => exact o1.elim
  | cls b => exact o1.elim
theorem tCB_st {f : List IV → Sto → Rs IV} {ps : List PX} (hn : ∀ a S c S', f a S ≠ .exc c S') (h : tI K cm W (fun τ S => (evEs Γ ps τ S).bind fun xs S1 => f xs S1) σ H Q) : tCB (rIl K cm f) (tIs K cm W (evEs Γ ps)) σ H Q :=
  tG.bind (f := fun τ xs S1 => f xs S1) h fun ι1 S1 H1 τ a v r1 rs ra o1 => ⟨ι1, S1, a, r1, ra, OutV.of o1 fun _ _ => hn _ _ _ _⟩
theorem tCall_st {f : List IV → Sto → Rs IV} {ps : List PX} (h : tI K cm W (fun τ S => (evEs Γ ps τ S).bind fun xs S1 => f xs S1) σ H Q) : tCallS (spI K cm f) (WE W) (tIs K cm W (evEs Γ ps)) σ H Q :=
  tG.bind (f := fun τ xs S1 => f xs S1) h fun ι1 S1 H1 τ a v r1 rs ra o1 => ⟨ι1, S1, a, r1, ra, by
    cases e : f a S1 with
    | ok b S2 => rw [e] at o1; exact o1
    | exc c S2 => rw [e] at o1; exact o1
    | bad => rw [e] at o1; exact o1⟩
/-- the class of a built-in value, and no dict of its own -/
def TyD (X : Cx) (T : String) (x : V) (H : Hp) : Prop := ∀ (pins : List (Addr × Obj)) (s : Shared) (σ : L2.St) (v : Value), L2.Inv X pins σ H s → RelV x v → s.TypeIs v T ∧ ∀ a, v = .ref a → ∃ ob, s.heap.get? a = some ob ∧ ob.dict = none
/-- o.m(e, ..) of a built-in whose class is seen when o is there -/
theorem pe_bmL {X : Cx} {o e : Expr} {es : List Expr} {to : TE} {t : TA} {name : Str} {apos cpos : Pos} (ho : PE X o to) (ha : PA X (e :: es) t)
    (hbase : attributeBase o name X.env (eval o X.env) = eval o X.env)
    (hfew : ((backTo cpos (starEach (e :: es) X.env)).all (fun x => !x.1) && (backToKw cpos (keywordEach [] X.env)).all (fun x => x.1.isSome)
      && decide ((e :: es).length + ([] : List Keyword).length + (if ([] : List Keyword).isEmpty then 0 else 1) < 30)) = true)
    (hline : (apos.endLine == cpos.line) = true) (hs : starEach (e :: es) X.env = (false, eval e X.env) :: starEach es X.env) (hplain : (backTo cpos (starEach es X.env)).any (·.1) = false) :
    PE X (.Call (.Attribute o name apos) (e :: es) [] cpos) (fun σ H Q => to σ H fun x H1 => ∃ T id r, PlainAttrs T ∧ Slot T name id ∧ typeOf (.builtin id) = pure (.type "method_descriptor") ∧ MtR X id r ∧ TyD X T x H1 ∧ t σ H1 fun xs H2 => r x xs H2 Q) := by
  refine ⟨fun pins s σ H Q I h => ?_⟩
  refine wpAny_Call_method_late hbase hfew hline rfl (thn (ho.run pins s σ H _ I h) fun v s1 ⟨x, H1, I1, r1, T, id, r, pa, slot, hty, hm, ty, q1⟩ => ?_)
  obtain ⟨h1, h2⟩ := ty pins s1 σ v I1 r1
  refine ⟨T, id, pa, slot, hty, h1, h2, ?_⟩
  have hA := ha.run cpos pins s1 σ H1 _ I1 q1
  rw [hs] at hA ⊢
  refine Calls.callWith_builtin (by show (false || (backTo cpos (starEach es X.env)).any (·.1)) = false; rw [hplain] <;> rfl) (Calls.evalArgs_plain ?_)
  exact thn hA fun us s2 ⟨vs, H2, I2, r2, q2⟩ => hm pins s2 σ H2 x vs v us Q I2 r1 r2 q2
theorem mth_st {X : Cx} {Q : VK} {m : Str} {id : String} {r : V → List V → Hp → VK → Prop} (slot : Slot "list" m id) (hty : typeOf (.builtin id) = pure (.type "method_descriptor")) (hmt : MtR X id r)
    (hr0 : ∀ (H : Hp) (x y : V) (Q : VK), (∃ ι S a b, Rel X.K cm ι S H ∧ RV X.K ι S.length H a x ∧ RV X.K ι S.length H b y ∧ OutV X.K cm ι S H (mthI m a [b] S) Q) → r x [y] H Q) {p q : PX} (h : tI X.K cm W (evE Γ (.mth m p [q])) σ H Q) :
    tI X.K cm W (evE Γ p) σ H fun x H1 => ∃ T id r, PlainAttrs T ∧ Slot T m id ∧ typeOf (.builtin id) = pure (.type "method_descriptor") ∧ MtR X id r ∧ TyD X T x H1 ∧ tIs X.K cm W (evEs Γ [q]) σ H1 fun xs H2 => r x xs H2 Q := by
  have h' : tI X.K cm W (fun τ S => (evE Γ p τ S).bind fun x S1 => if rcvI x S1 then (evEs Γ [q] τ S1).bind fun xs S2 => mthI m x xs S2 else if rcv2 m x S1 then (evEs Γ [q] τ S1).bind fun xs S2 => mth2 m x xs S2 else .bad) σ H Q := by
    obtain ⟨ι, S, τ, rl, rs, o⟩ := h
    exact ⟨ι, S, τ, rl, rs, by simp only [evE] at o; exact o⟩
  refine tG.bind (f := fun τ x S1 => if rcvI x S1 then (evEs Γ [q] τ S1).bind fun xs S2 => mthI m x xs S2 else if rcv2 m x S1 then (evEs Γ [q] τ S1).bind fun xs S2 => mth2 m x xs S2 else .bad) h' fun ι1 S1 H1 τ a v r1 rs1 ra o1 => ?_
  by_cases hr : rcvI a S1 = true
  · rw [if_pos hr] at o1
    refine ⟨"list", id, r, PySem.F.plainAttrs_list, slot, hty, hmt, ?_, ι1, S1, τ, r1, rs1, Out.bindR o1 fun b S2 ι2 H2 y eb st r2 rb o2 => ?_⟩
    · cases a with
      | ref n =>
        simp only [rcvI] at hr
        split at hr
        · rename_i xs e
          obtain ⟨vs, rfl, h1, _⟩ := lst_ok r1 ra e
          exact fun pins s σ v I r => tyV_is I r (.inl ⟨rfl, vs, .inl (.inl h1)⟩)
        · cases hr
      | non => simp [rcvI] at hr
      | bl b => simp [rcvI] at hr
      | int b => simp [rcvI] at hr
      | str b => simp [rcvI] at hr
      | cls b => simp [rcvI] at hr
      | tup b => simp [rcvI] at hr
    · match b, eb, rb, o2 with
      | [], _, _, o2 => exact absurd o2 (by unfold mthI; cases a <;> simp [Out])
      | [z], _, rb, o2 =>
        obtain ⟨w, rr, rfl, hw, hr2⟩ := RVs.uncons rb
        simp only [RVs] at hr2; subst hr2
        exact hr0 H2 v w Q ⟨ι2, S2, a, z, r2, RV.step ra r1 st, hw, OutV.of o2 fun _ _ => mthI_ne⟩
      | z :: z' :: zs, _, _, o2 => exact absurd o2 (by unfold mthI; cases a <;> simp [Out])
  · rw [if_neg hr] at o1
    by_cases h2 : rcv2 m a S1 = true
    · rw [if_pos h2] at o1
      cases a with
      | tup ys =>
        have hm : m = "index" := by simpa [rcv2] using h2
        subst hm
        have ra' := ra
        simp only [RVS, RV] at ra'
        obtain ⟨ad, vs, rfl, q1, q2⟩ := ra'
        refine ⟨"tuple", "tuple.index", _, PySem.F.plainAttrs_tuple, PySem.F.slot_tuple_index, PySem.F.type_tuple_index, mt_tidxA (cm := cm), fun pins s σ v I r => by cases r; exact q1.ty I, ι1, S1, τ, r1, rs1, Out.bindR o1 fun b S2 ι2 H2 y eb st r2 rb o2 => ?_⟩
        exact ⟨ι2, S2, ys, b, r2, RV.step ra r1 st, rb, OutV.of o2 fun _ _ => mth2_ne⟩
      | _ => simp [rcv2] at h2
    · rw [if_neg h2] at o1; exact o1.elim
/-- {a: b} -/
theorem dc1_st {K : PySem.W.Frag} {Q : VK} {p q : PX} (h : tI K cm W (evE Γ (.dc1 p q)) σ H Q) : tDisp [(tI K cm W (evE Γ p), tI K cm W (evE Γ q))] σ H Q := by
  obtain ⟨ι, S, τ, rl, rs, o⟩ := h
  intro a ha
  simp only [evE] at o
  obtain ⟨r1, st1⟩ := rl.add ha (o := .dK []) (c := .dct []) ⟨[], upd_same, rfl, .nil⟩
  have o1 := Out.shift o r1 st1
  refine ⟨_, _, τ, r1, rs.step rl st1, Out.bindR o1 fun x S1 ι2 H2 xv ex st2 r2 rx o2 => ?_⟩
  refine ⟨ι2, S1, τ, r2, (rs.step rl st1).step r1 st2, Out.bindR o2 fun y S2 ι3 H3 yv ey st3 r3 ry o3 => ?_⟩
  show H3 a = some (.dK []) ∧ _
  have o4 := OutV.of o3 fun _ _ => dc1I_ne
  unfold dc1I at o4
  split at o4
  · rename_i k e1 e2
    have hn2 : S.length < S2.length := (List.getElem?_eq_some_iff.mp e1).1
    have hn1 : S.length < (S ++ [Cell.dct []]).length := by simp
    have ei : ι3 S.length = a := by
      rw [st3.ext _ (Nat.lt_of_lt_of_le hn1 st2.len), st2.ext _ hn1, more_eq]
    obtain ⟨ps, h1, h2, h3⟩ := r3.cell _ _ e1
    rw [ei] at h1
    have hps : ps = [] := by simpa using h2
    subst hps
    have rx3 := RV.step rx r2 st3
    have hk : xv = kV k := by
      cases x <;> simp only [keyOf] at e2 <;> cases e2 <;> (simp only [RV] at rx3; exact rx3)
    refine ⟨h1, [(k, yv)], by rw [hk]; rfl, by show (1 : Nat) ≤ 15; decide, ?_⟩
    have ht : ∀ b us, SqN K H3 b us → SqN K (upd H3 (ι3 S.length) (.dK (mergeK [] [(k, yv)]))) b us := fun _ _ hq => hq.upd_at fun _ _ z => by rw [ei, h1] at z; cases z
    have em : mergeK [] [(k, yv)] = [(k, yv)] := rfl
    obtain ⟨r4, st4⟩ := r3.put hn2 (o := .dK (mergeK [] [(k, yv)])) (c := .dct [(k, y)]) ⟨_, upd_same, by rw [em]; rfl, by
      rw [em]
      exact (RVs.cons ry .nil).map ht (fun _ _ => rfl) (Nat.le_refl _)⟩
    rw [ei] at r4 st4
    refine o4 ι3 _ _ st4 r4 ?_
    simp only [RV]
    exact ⟨by simpa using hn2, by rw [ei]⟩
  · exact o4.elim
theorem and_st {p q : PX} (h : tI K cm W (evE Γ (.and p q)) σ H Q) : tAndV (tI K cm W (evE Γ p)) (tI K cm W (evE Γ q)) σ H Q := by
  have h' : tI K cm W (fun τ S => (evE Γ p τ S).bind fun v S1 => match v with | .bl b => (if b then evE Γ q τ S1 else .ok (.bl false) S1) | _ => .bad) σ H Q := by
    obtain ⟨ι, S, τ, rl, rs, o⟩ := h
    exact ⟨ι, S, τ, rl, rs, by simp only [evE, truth] at o; exact o⟩
  refine tG.bind (RA := RVS K) (f := fun τ v S1 => match v with | .bl b => (if b then evE Γ q τ S1 else .ok (.bl false) S1) | _ => .bad) h' fun ι1 S1 H1 τ a v r1 rs ra o1 => ?_
  cases a with
  | bl b =>
    have : v = .bl b := by simpa only [RVS, RV] using ra
    refine ⟨b, this, ?_⟩
    cases b with
    | true => simp only [if_true] at o1 ⊢; exact ⟨ι1, S1, τ, r1, rs, o1⟩
    | false => simp only [Bool.false_eq_true, if_false] at o1 ⊢; exact o1 ι1 H1 _ Step.refl r1 (by simp only [RVS, RV])
  | non => exact o1.elim
  | int b => exact o1.elim
  | str b => exact o1.elim
  | tup b => exact o1.elim
  | ref b => exact o1.elim
  | cls b => exact o1.elim
theorem or_st {p q : PX} (h : tI K cm W (evE Γ (.or p q)) σ H Q) : tOrV (tI K cm W (evE Γ p)) (tI K cm W (evE Γ q)) σ H Q := by
  have h' : tI K cm W (fun τ S => (evE Γ p τ S).bind fun v S1 => match v with | .bl b => (if b then .ok (.bl true) S1 else evE Γ q τ S1) | _ => .bad) σ H Q := by
    obtain ⟨ι, S, τ, rl, rs, o⟩ := h
    exact ⟨ι, S, τ, rl, rs, by simp only [evE, truth] at o; exact o⟩
  refine tG.bind (RA := RVS K) (f := fun τ v S1 => match v with | .bl b => (if b then .ok (.bl true) S1 else evE Γ q τ S1) | _ => .bad) h' fun ι1 S1 H1 τ a v r1 rs ra o1 => ?_
  cases a with
  | bl b =>
    have : v = .bl b := by simpa only [RVS, RV] using ra
    refine ⟨b, this, ?_⟩
    cases b with
    | false => simp only [Bool.false_eq_true, if_false] at o1 ⊢; exact ⟨ι1, S1, τ, r1, rs, o1⟩
    | true => simp only [if_true] at o1 ⊢; exact o1 ι1 H1 _ Step.refl r1 (by simp only [RVS, RV])
  | non => exact o1.elim
  | int b => exact o1.elim
  | str b => exact o1.elim
  | tup b => exact o1.elim
  | ref b => exact o1.elim
  | cls b => exact o1.elim
theorem not_st {p : PX} (h : tI K cm W (evE Γ (.not p)) σ H Q) : tNotV (tI K cm W (evE Γ p)) σ H Q := by
  have h' : tI K cm W (fun τ S => (evE Γ p τ S).bind fun v S1 => match v with | .bl b => .ok (.bl (!b)) S1 | _ => .bad) σ H Q := by
    obtain ⟨ι, S, τ, rl, rs, o⟩ := h
    exact ⟨ι, S, τ, rl, rs, by simp only [evE, truth] at o; exact o⟩
  refine tG.bind (RA := RVS K) (f := fun τ (v : IV) S1 => match v with | .bl b => .ok (IV.bl (!b)) S1 | _ => .bad) h' fun ι1 S1 H1 τ a v r1 rs ra o1 => ?_
  cases a with
  | bl b =>
    have : v = .bl b := by simpa only [RVS, RV] using ra
    exact ⟨b, this, o1 ι1 H1 _ Step.refl r1 (by simp only [RVS, RV])⟩
  | non => exact o1.elim
  | int b => exact o1.elim
  | str b => exact o1.elim
  | tup b => exact o1.elim
  | ref b => exact o1.elim
  | cls b => exact o1.elim
theorem ite_st {p q r : PX} (h : tI K cm W (evE Γ (.ite p q r)) σ H Q) : tIf (tT K cm W (evE Γ p)) (tI K cm W (evE Γ q)) (tI K cm W (evE Γ r)) σ H Q := by
  refine tT_bind (f := fun τ b S1 => if b then evE Γ q τ S1 else evE Γ r τ S1) (RC := RVS K) (Q := Q) ?_ fun ι1 S1 H1 τ b r1 rs o => ?_
  · obtain ⟨ι, S, τ, rl, rs, o⟩ := h
    exact ⟨ι, S, τ, rl, rs, by simp only [evE, truth] at o; exact o⟩
  · cases b with
    | true => simp only [if_true] at o ⊢; exact ⟨ι1, S1, τ, r1, rs, o⟩
    | false => simp only [Bool.false_eq_true, if_false] at o ⊢; exact ⟨ι1, S1, τ, r1, rs, o⟩
/-! ### tests -/
variable {R : Bool → Hp → Prop}
theorem t_and {p q : PX} (h : tT K cm W (evE Γ (.and p q)) σ H R) : tAnd (tT K cm W (evE Γ p)) (tT K cm W (evE Γ q)) σ H R := by
  refine tT_bind (f := fun τ b S1 => if b then asB (evE Γ q τ S1) else .ok false S1) (RC := RId) (Q := R) ?_ fun ι1 S1 H1 τ b r1 rs o => ?_
  · obtain ⟨ι, S, τ, rl, rs, o⟩ := h
    refine ⟨ι, S, τ, rl, rs, ?_⟩
    simp only [evE, truth, asB] at o ⊢
    cases e : evE Γ p τ S with
    | bad => rw [e] at o; exact o
    | exc c S1 => rw [e] at o; exact o
    | ok a S1 =>
      rw [e] at o
      cases a with
      | bl b => cases b <;> exact o
      | non => exact o
      | int b => exact o
      | str b => exact o
      | tup b => exact o
      | ref b => exact o
      | cls b => exact o
  · cases b with
    | true => simp only [if_true] at o ⊢; exact ⟨ι1, S1, τ, r1, rs, o⟩
    | false => simp only [Bool.false_eq_true, if_false] at o ⊢; exact o ι1 H1 false Step.refl r1 rfl
theorem t_or {p q : PX} (h : tT K cm W (evE Γ (.or p q)) σ H R) : tOr (tT K cm W (evE Γ p)) (tT K cm W (evE Γ q)) σ H R := by
  refine tT_bind (f := fun τ b S1 => if b then .ok true S1 else asB (evE Γ q τ S1)) (RC := RId) (Q := R) ?_ fun ι1 S1 H1 τ b r1 rs o => ?_
  · obtain ⟨ι, S, τ, rl, rs, o⟩ := h
    refine ⟨ι, S, τ, rl, rs, ?_⟩
    simp only [evE, truth, asB] at o ⊢
    cases e : evE Γ p τ S with
    | bad => rw [e] at o; exact o
    | exc c S1 => rw [e] at o; exact o
    | ok a S1 =>
      rw [e] at o
      cases a with
      | bl b => cases b <;> exact o
      | non => exact o
      | int b => exact o
      | str b => exact o
      | tup b => exact o
      | ref b => exact o
      | cls b => exact o
  · cases b with
    | false => simp only [Bool.false_eq_true, if_false] at o ⊢; exact ⟨ι1, S1, τ, r1, rs, o⟩
    | true => simp only [if_true] at o ⊢; exact o ι1 H1 true Step.refl r1 rfl
theorem t_not {p : PX} (h : tT K cm W (evE Γ (.not p)) σ H R) : tNot (tT K cm W (evE Γ p)) σ H R := by
  refine tT_bind (f := fun τ b S1 => .ok (!b) S1) (RC := RId) (Q := R) ?_ fun ι1 S1 H1 τ b r1 rs o => ?_
  · obtain ⟨ι, S, τ, rl, rs, o⟩ := h
    refine ⟨ι, S, τ, rl, rs, ?_⟩
    simp only [evE, truth, asB] at o ⊢
    cases e : evE Γ p τ S with
    | bad => rw [e] at o; exact o
    | exc c S1 => rw [e] at o; exact o
    | ok a S1 =>
      rw [e] at o
      cases a with
      | bl b => exact o
      | non => exact o
      | int b => exact o
      | str b => exact o
      | tup b => exact o
      | ref b => exact o
      | cls b => exact o
  · exact o ι1 H1 _ Step.refl r1 rfl
theorem chain_st {o o' : Cop} {p q r : PX} (h : tI K cm W (evE Γ (.chain o o' p q r)) σ H Q) : tChain (rI2 K cm (cmpI o)) (rI2 K cm (cmpI o')) (tI K cm W (evE Γ p)) (tI K cm W (evE Γ q)) (tI K cm W (evE Γ r)) σ H Q := by
  have h' : tI K cm W (fun τ S => (evE Γ p τ S).bind fun x S1 => (evE Γ q τ S1).bind fun y S2 => (cmpI o x y S2).bind fun v S3 => match v with
      | .bl k => (if k then (evE Γ r τ S3).bind fun z S4 => cmpI o' y z S4 else .ok (.bl false) S3) | _ => .bad) σ H Q := by
    obtain ⟨ι, S, τ, rl, rs, o⟩ := h
    exact ⟨ι, S, τ, rl, rs, by simp only [evE, truth] at o; exact o⟩
  refine tG.bind (f := fun τ x S1 => (evE Γ q τ S1).bind fun y S2 => (cmpI o x y S2).bind fun v S3 => match v with
      | .bl k => (if k then (evE Γ r τ S3).bind fun z S4 => cmpI o' y z S4 else .ok (.bl false) S3) | _ => .bad) h' fun ι1 S1 H1 τ a v r1 rs ra o1 => ⟨ι1, S1, τ, r1, rs, Out.bindR o1 fun b S2 ι2 H2 y _ st r2 rb o2 => ?_⟩
  refine ⟨ι2, S2, a, b, r2, RV.step ra r1 st, rb, ?_⟩
  cases e : cmpI o a b S2 with
  | bad => rw [e] at o2; exact o2.elim
  | exc c S3 => exact absurd e cmpI_ne
  | ok w S3 =>
    rw [e] at o2
    intro ι3 H3 z st3 r3 rz
    have o3 := Out.shift o2 r3 st3
    cases w with
    | bl k =>
      have : z = .bl k := by simpa only [RV] using rz
      refine ⟨k, this, ?_⟩
      cases k with
      | true =>
        simp only [if_true] at o3 ⊢
        refine ⟨ι3, S3, τ, r3, (rs.step r1 st).step r2 st3, Out.bindR o3 fun d S4 ι4 H4 u _ st4 r4 rd o4 => ?_⟩
        exact ⟨ι4, S4, b, d, r4, (RV.step rb r2 st3).step r3 st4, rd, OutV.of o4 fun _ _ => cmpI_ne⟩
      | false => simp only [Bool.false_eq_true, if_false] at o3 ⊢; exact o3 ι3 H3 _ Step.refl r3 (by simp only [RVS, RV])
    | non => exact o2.elim
    | int b => exact o2.elim
    | str b => exact o2.elim
    | tup b => exact o2.elim
    | ref b => exact o2.elim
    | cls b => exact o2.elim
end
end Wg
/-! WiC: the readings of attributes, methods, new instances, starred calls. -/
namespace Wg
open PySem PySem.Spec PyProof.Rows L2 StX ClX
/-! ### what a callee leaves is dropped -/
section
variable {K : PySem.W.Frag} {cm : Cm} {ι ι' : Nat → Addr} {S S' : Sto} {H H' : Hp}
mutual
theorem RV.down {n n' : Nat} : ∀ {iv : IV} {v : V}, iv.lt n = true → RV K ι n' H iv v → RV K ι n H iv v
  | .non, v, _, h => by simpa only [RV] using h
  | .bl b, v, _, h => by simpa only [RV] using h
  | .int b, v, _, h => by simpa only [RV] using h
  | .str b, v, _, h => by simpa only [RV] using h
  | .cls b, v, _, h => by simpa only [RV] using h
  | .tup xs, v, e, h => by
    simp only [RV] at h ⊢
    obtain ⟨a, vs, e1, q, r⟩ := h
    exact ⟨a, vs, e1, q, RVs.down (by simpa only [IV.lt] using e) r⟩
  | .ref k, v, e, h => by
    simp only [RV] at h ⊢
    exact ⟨by simpa [IV.lt] using e, h.2⟩
theorem RVs.down {n n' : Nat} : ∀ {xs : List IV} {vs : List V}, ltAll n xs = true → RVs K ι n' H xs vs → RVs K ι n H xs vs
  | [], vs, _, h => by simpa only [RVs] using h
  | x :: xs, vs, e, h => by
    simp only [ltAll, Bool.and_eq_true] at e
    obtain ⟨v, r, rfl, h1, h2⟩ := h.uncons
    exact .cons (RV.down e.1 h1) (RVs.down e.2 h2)
end
theorem CellOk.down {n n' : Nat} {a : Addr} {c : Cell} (e : c.lt n = true) (h : CellOk K cm ι n' H a c) : CellOk K cm ι n H a c := by
  cases c with
  | lst xs => obtain ⟨vs, e1, r⟩ := h; exact ⟨vs, e1, RVs.down e r⟩
  | frz xs => obtain ⟨o, vs, e1, r⟩ := h; exact ⟨o, vs, e1, RVs.down e r⟩
  | dct kvs => obtain ⟨ps, e1, k, r⟩ := h; exact ⟨ps, e1, k, RVs.down e r⟩
  | ins c fs => obtain ⟨C, dx, ps, e1, q, k, r⟩ := h; exact ⟨C, dx, ps, e1, q, k, RVs.down e r⟩
  | dtt kvs => obtain ⟨ps, e1, k, r⟩ := h; exact ⟨ps, e1, k, RVs.down e r⟩
mutual
theorem RV.lt_of {n : Nat} : ∀ {iv : IV} {v : V}, RV K ι n H iv v → iv.lt n = true
  | .non, v, _ => rfl
  | .bl b, v, _ => rfl
  | .int b, v, _ => rfl
  | .str b, v, _ => rfl
  | .cls b, v, _ => rfl
  | .tup xs, v, h => by
    simp only [RV] at h
    obtain ⟨a, vs, e1, q, r⟩ := h
    simp only [IV.lt]
    exact RVs.lt_of r
  | .ref k, v, h => by
    simp only [RV] at h
    simpa [IV.lt] using h.1
theorem RVs.lt_of {n : Nat} : ∀ {xs : List IV} {vs : List V}, RVs K ι n H xs vs → ltAll n xs = true
  | [], vs, _ => rfl
  | x :: xs, vs, h => by
    obtain ⟨v, r, rfl, h1, h2⟩ := h.uncons
    simp only [ltAll, Bool.and_eq_true]
    exact ⟨RV.lt_of h1, RVs.lt_of h2⟩
end
theorem CellOk.lt_of {n : Nat} {a : Addr} {c : Cell} (h : CellOk K cm ι n H a c) : c.lt n = true := by
  cases c with
  | lst xs => obtain ⟨vs, e1, r⟩ := h; exact RVs.lt_of r
  | frz xs => obtain ⟨o, vs, e1, r⟩ := h; exact RVs.lt_of r
  | dct kvs => obtain ⟨ps, e1, k, r⟩ := h; exact RVs.lt_of r
  | ins c fs => obtain ⟨C, dx, ps, e1, q, k, r⟩ := h; exact RVs.lt_of r
  | dtt kvs => obtain ⟨ps, e1, k, r⟩ := h; exact RVs.lt_of r
theorem okOld_at {n : Nat} : ∀ {m : Nat}, okOld n m S S' = true → ∀ i, i < m → ∃ c, S'[i]? = some c ∧ (c.lt n = true ∨ S[i]? = some c)
  | 0, _, i, hi => by omega
  | m + 1, h, i, hi => by
    simp only [okOld, Bool.and_eq_true] at h
    by_cases e : i = m
    · subst e
      have h1 := h.1
      split at h1
      · cases h1
      · rename_i c ec
        refine ⟨c, ec, ?_⟩
        rw [Bool.or_eq_true] at h1
        rcases h1 with h1 | h1
        · exact .inl h1
        · split at h1
          · rename_i d ed
            rw [← Cell.eq_of_eqb d c h1]
            exact .inr ed
          · cases h1
    · exact okOld_at h.2 i (by omega)
theorem settle_ok {v : IV} {x : V} (r0 : Rel K cm ι S H) (st : Step ι S H ι' S' H') (r : Rel K cm ι' S' H') (rv : RV K ι' S'.length H' v x) :
    Step ι S H ι' (settle S v S') H' ∧ Rel K cm ι' (settle S v S') H' ∧ RV K ι' (settle S v S').length H' v x := by
  unfold settle
  split
  · rename_i h
    rw [Bool.and_eq_true] at h
    have hl : (S'.take S.length).length = S.length := by rw [List.length_take]; exact Nat.min_eq_left st.len
    refine ⟨⟨by rw [hl]; exact Nat.le_refl _, st.ext, st.frm, fun m a b => ?_⟩, ⟨fun i c e => ?_, fun i j hi hj q => ?_⟩, by rw [hl]; exact RV.down h.1 rv⟩
    · rw [hl] at b; exact absurd (Nat.lt_of_lt_of_le b a) (Nat.lt_irrefl _)
    · rw [hl]
      have hi : i < S.length := by have := (List.getElem?_eq_some_iff.mp e).1; rw [hl] at this; exact this
      rw [List.getElem?_take_of_lt hi] at e
      obtain ⟨c', e', hc⟩ := okOld_at h.2 i hi
      rw [e] at e'; cases e'
      refine CellOk.down ?_ (r.cell i c e)
      rcases hc with hc | hc
      · exact hc
      · exact (r0.cell i c hc).lt_of
    · rw [hl] at hi hj
      exact r.inj i j (Nat.lt_of_lt_of_le hi st.len) (Nat.lt_of_lt_of_le hj st.len) q
  · exact ⟨st, r, rv⟩
end
/-- what an expression has left is dropped -/
theorem settle_st {K : PySem.W.Frag} {cm : Cm} {W : WX} {σ : L2.St} {H : Hp} {Q : VK} {m : Sl → Sto → Rs IV} (h : tI K cm W (fun τ S => (m τ S).settle S) σ H Q) : tI K cm W m σ H Q := by
  obtain ⟨ι, S, τ, rl, rs, o⟩ := h
  refine ⟨ι, S, τ, rl, rs, ?_⟩
  dsimp only at o
  cases e : m τ S with
  | bad => rw [e] at o; exact o
  | exc c S1 =>
    rw [e] at o
    intro ι1 H1 st r1 C hC
    obtain ⟨a1, a2, a3⟩ := settle_ok (v := .non) (x := .non) rl st r1 (by simp only [RV])
    exact o ι1 H1 a1 a2 C hC
  | ok v S1 =>
    rw [e] at o
    intro ι1 H1 x st r1 rv
    obtain ⟨a1, a2, a3⟩ := settle_ok rl st r1 rv
    exact o ι1 H1 x a1 a2 a3
section
variable {K : PySem.W.Frag} {ι : Nat → Addr} {n : Nat} {H : Hp}
theorem fs_look : ∀ {fs : List (Str × IV)} {ps : List (Str × V)} {f : Str}, ps.map (·.1) = fs.map (·.1) → RVs K ι n H (fs.map (·.2)) (ps.map (·.2)) →
    (fs.lookup f = none → ps.lookup f = none) ∧ ∀ w, fs.lookup f = some w → ∃ v, ps.lookup f = some v ∧ RV K ι n H w v
  | [], [], _, _, _ => ⟨fun _ => rfl, fun w h => by simp at h⟩
  | [], p :: ps, _, h, _ => by simp at h
  | q :: fs, [], _, h, _ => by simp at h
  | (k, w) :: fs, (k', v) :: ps, f, h, r => by
    simp only [List.map_cons, List.cons.injEq] at h
    obtain ⟨hk, ht⟩ := h
    subst hk
    simp only [List.map_cons] at r
    obtain ⟨v', r', e, r1, r2⟩ := r.uncons
    simp only [List.cons.injEq] at e
    obtain ⟨rfl, rfl⟩ := e
    obtain ⟨i1, i2⟩ := fs_look (f := f) ht r2
    simp only [List.lookup_cons]
    cases e : f == k' with
    | true => refine ⟨fun z => ?_, fun w' z => ?_⟩
              · cases z
              · cases z; exact ⟨v, rfl, r1⟩
    | false => exact ⟨i1, i2⟩
theorem putI_keys (f : Str) (w : IV) (v : V) : ∀ {fs : List (Str × IV)} {ps : List (Str × V)}, ps.map (·.1) = fs.map (·.1) → (putF f v ps).map (·.1) = (putI f w fs).map (·.1)
  | [], [], _ => rfl
  | [], p :: ps, h => by simp at h
  | q :: fs, [], h => by simp at h
  | (k, x) :: fs, (k', y) :: ps, h => by
    simp only [List.map_cons, List.cons.injEq] at h
    obtain ⟨hk, ht⟩ := h
    subst hk
    simp only [putF, putI]
    by_cases e : k' = f
    · simp [e, ht]
    · simp [e, putI_keys f w v ht]
theorem putI_vals {f : Str} {w : IV} {v : V} (rw_ : RV K ι n H w v) : ∀ {fs : List (Str × IV)} {ps : List (Str × V)}, ps.map (·.1) = fs.map (·.1) → RVs K ι n H (fs.map (·.2)) (ps.map (·.2)) → RVs K ι n H ((putI f w fs).map (·.2)) ((putF f v ps).map (·.2))
  | [], [], _, _ => .cons rw_ .nil
  | [], p :: ps, h, _ => by simp at h
  | q :: fs, [], h, _ => by simp at h
  | (k, x) :: fs, (k', y) :: ps, h, r => by
    simp only [List.map_cons, List.cons.injEq] at h
    obtain ⟨hk, ht⟩ := h
    subst hk
    simp only [List.map_cons] at r
    obtain ⟨v', r', e, r1, r2⟩ := r.uncons
    simp only [List.cons.injEq] at e
    obtain ⟨rfl, rfl⟩ := e
    simp only [putF, putI]
    by_cases e : k' = f
    · simp only [e, if_true, List.map_cons]; exact .cons rw_ r2
    · simp only [e, if_false, List.map_cons]; exact .cons r1 (putI_vals rw_ ht r2)
end
section
variable {g : GI} {c : CC} {cm : Cm} {Γ : Gam} {X : Cx} {W : WX} {k : Nat} {σ : L2.St} {H : Hp} {Q : VK}
theorem OutC.of_ok {K : PySem.W.Frag} {ι : Nat → Addr} {S : Sto} {r : Rs IV} {E : XK} (h : OutV K cm ι S H (okOnly r) Q) : OutC K cm ι S H r Q E := by
  cases r with
  | ok v S' => exact h
  | exc c S' => exact h.elim
  | bad => exact h.elim
theorem attI_ne {f : Str} {x : IV} {S : Sto} {c : Str} {S' : Sto} : attI Γ f x S ≠ .exc c S' := by
  intro h
  unfold attI at h
  repeat' split at h
  all_goals first | (cases h; done) | skip
  unfold okOnly at h
  split at h <;> cases h
theorem att_R (D : Wd g X.prog X.w X.K X.mg X.base cm Γ k) {f : Str} (hf : f ∈ g.atts) {ι : Nat → Addr} {S : Sto} {a : IV} {x : V} (rl : Rel X.K cm ι S H) (ra : RV X.K ι S.length H a x) (o : OutV X.K cm ι S H (attI Γ f a S) Q) : AttR X k f x H Q := by
  unfold attI at o
  cases a with
  | ref n =>
    simp only [RV] at ra
    obtain ⟨hn, rfl⟩ := ra
    simp only [] at o
    cases e : S[n]? with
    | none => rw [e] at o; exact o.elim
    | some cl =>
      rw [e] at o
      cases cl with
      | ins c fs =>
        obtain ⟨C, dx, ps, h1, h2, h3, h4⟩ := rl.cell n _ e
        have ck := D.at h2
        have at_ := ck.at_ f hf
        obtain ⟨l1, l2⟩ := fs_look (f := f) h3 h4
        simp only [] at o
        cases ea : Γ.att c f with
        | none =>
          rw [ea] at o at_
          simp only [] at o
          cases el : fs.lookup f with
          | none => rw [el] at o; exact o.elim
          | some w =>
            rw [el] at o
            obtain ⟨v, hv, rv⟩ := l2 w el
            exact .inl ⟨_, C, dx, ps, v, rfl, h1, ck.cl, at_, hv, o.here rl rv⟩
        | some at1 =>
          rw [ea] at o at_
          cases at1 with
          | meth q => exact o.elim
          | cmeth q => exact o.elim
          | con v =>
            simp only [] at o
            obtain ⟨z, u, hc, hz, _⟩ := at_
            cases el : fs.lookup f with
            | some w => rw [el] at o; exact o.elim
            | none =>
              rw [el] at o
              exact .inr (.inl ⟨_, C, dx, ps, z, u, rfl, h1, ck.cl, hc, l1 el, o.here rl (hz _ _ _)⟩)
          | prop gq sq =>
            simp only [] at o
            obtain ⟨p, a, ha, hp, _⟩ := at_
            refine .inr (.inr (.inl ⟨_, C, dx, ps, p, a, _, rfl, h1, ck.cl, hp, D.meth gq a ha, ι, S, [.ref n], rl, ?_, OutC.of_ok o⟩))
            exact .cons (by simp only [RV]; exact ⟨hn, trivial⟩) .nil
      | lst xs => exact o.elim
      | frz xs => exact o.elim
      | dct xs => exact o.elim
      | dtt xs => exact o.elim
  | cls c =>
    simp only [RV] at ra
    obtain ⟨C, rfl, hC⟩ := ra
    simp only [] at o
    cases ea : Γ.att c f with
    | none => rw [ea] at o; exact o.elim
    | some at1 =>
      obtain ⟨C', h1, ck⟩ := D.cls c (D.attc c f _ ea)
      have at_ := ck.at_ f hf
      rw [ea] at o at_
      cases at1 with
      | con v =>
        obtain ⟨z, u, hc, hz, mc, m1, m2⟩ := at_
        have : C = C' := by
          have := ck.ns
          rw [hC] at this
          simp only [Option.some.injEq, Value.ref.injEq] at this
          exact this
        subst this
        exact .inr (.inr (.inr ⟨C, mc, z, u, rfl, m1, m2, o.here rl (hz _ _ _)⟩))
      | meth q => exact o.elim
      | cmeth q => exact o.elim
      | prop gq sq => exact o.elim
  | non => exact o.elim
  | bl b => exact o.elim
  | int b => exact o.elim
  | str b => exact o.elim
  | tup b => exact o.elim
theorem att_st (D : Wd g X.prog X.w X.K X.mg X.base cm Γ k) {f : Str} (hf : f ∈ g.atts) {p : PX} (h : tI X.K cm W (evE Γ (.att f p)) σ H Q) : tI X.K cm W (evE Γ p) σ H fun x H1 => AttR X k f x H1 Q := by
  have h' : tI X.K cm W (fun τ S => (evE Γ p τ S).bind fun x S1 => attI Γ f x S1) σ H Q := by
    obtain ⟨ι, S, τ, rl, rs, o⟩ := h
    exact ⟨ι, S, τ, rl, rs, by simp only [evE] at o; exact o⟩
  exact tG.bind (f := fun τ x S1 => attI Γ f x S1) h' fun ι1 S1 H1 τ a v r1 rs ra o1 => att_R D hf r1 ra (OutV.of o1 fun _ _ => attI_ne)
/-- a call whose result is as wanted -/
theorem OutC.of_out {K : PySem.W.Frag} {ι : Nat → Addr} {S : Sto} {r : Rs IV} (h : Out K cm W ι S H σ (RVS K) r Q) : OutC K cm ι S H r Q (WE W σ) := by
  cases r with
  | ok v S' => exact h
  | exc c S' => exact h
  | bad => exact h
theorem met_R (D : Wd g X.prog X.w X.K X.mg X.base cm Γ k) {m q : Str} (hm : m ∈ g.atts) {ι : Nat → Addr} {S : Sto} {a : IV} {x : V} (rl : Rel X.K cm ι S H) (ra : RV X.K ι S.length H a x) {em : Bool} (e : metI Γ m em a S = some q) : (∃ a C dx fs g, x = .ref a ∧ H a = some (.ins C dx fs) ∧ Cls X.K C ∧ Meth X.K C m g ∧ fs.lookup m = none ∧ FnG X.prog X.w X.K X.mg X.base k g (spI X.K cm (Γ.call q))) ∨
    (em = false ∧ ∃ C mc p g, x = .ref C ∧ CRead X.K C mc ∧ CMet X.K C mc m p g ∧ FnG X.prog X.w X.K X.mg X.base k g (spI X.K cm (Γ.call q))) := by
  unfold metI at e
  cases a with
  | ref n =>
    simp only [RV] at ra
    obtain ⟨hn, rfl⟩ := ra
    simp only [] at e
    cases e1 : S[n]? with
    | none => rw [e1] at e; cases e
    | some cl =>
      rw [e1] at e
      cases cl with
      | ins c fs =>
        obtain ⟨C, dx, ps, h1, h2, h3, h4⟩ := rl.cell n _ e1
        have ck := D.at h2
        have at_ := ck.at_ m hm
        obtain ⟨l1, l2⟩ := fs_look (f := m) h3 h4
        simp only [] at e
        split at e
        · rename_i q' ea el
          cases e
          rw [ea] at at_
          obtain ⟨a, ha, hM⟩ := at_
          exact .inl ⟨_, C, dx, ps, a, rfl, h1, ck.cl, hM, l1 el, D.meth q a ha⟩
        · cases e
      | lst xs => cases e
      | frz xs => cases e
      | dct xs => cases e
      | dtt xs => cases e
  | cls c =>
    simp only [RV] at ra
    obtain ⟨C, rfl, hC⟩ := ra
    simp only [] at e
    split at e
    · rename_i q' ea
      cases em with
      | true => cases e
      | false =>
      simp only [Bool.false_eq_true, if_false, Option.some.injEq] at e
      subst e
      obtain ⟨C', h1, ck⟩ := D.cls c (D.attc c m _ ea)
      have at_ := ck.at_ m hm
      rw [ea] at at_
      obtain ⟨a, p, mc, ha, m1, m2⟩ := at_
      have : C = C' := by
        have := ck.ns
        rw [hC] at this
        simp only [Option.some.injEq, Value.ref.injEq] at this
        exact this
      subst this
      exact .inr ⟨rfl, C, mc, p, a, rfl, m1, m2, D.meth _ a ha⟩
    · cases e
  | non => cases e
  | bl b => cases e
  | int b => cases e
  | str b => cases e
  | tup b => cases e
theorem met_st (D : Wd g X.prog X.w X.K X.mg X.base cm Γ k) {m : Str} (hm : m ∈ g.atts) {p : PX} {ps : List PX} (h : tI X.K cm W (evE Γ (.met m p ps)) σ H Q) : tMetG X k W m (tI X.K cm W (evE Γ p)) (tIs X.K cm W (evEs Γ ps)) σ H Q := by
  have h' : tI X.K cm W (fun τ S => (evE Γ p τ S).bind fun x S1 => match metI Γ m ps.isEmpty x S1 with
      | some q => (evEs Γ ps τ S1).bind fun xs S2 => Γ.call q (x :: xs) S2
      | none => .bad) σ H Q := by
    obtain ⟨ι, S, τ, rl, rs, o⟩ := h
    exact ⟨ι, S, τ, rl, rs, by simp only [evE] at o; exact o⟩
  refine tG.bind (f := fun τ x S1 => match metI Γ m ps.isEmpty x S1 with
      | some q => (evEs Γ ps τ S1).bind fun xs S2 => Γ.call q (x :: xs) S2
      | none => .bad) h' fun ι1 S1 H1 τ a v r1 rs ra o1 => ?_
  cases e : metI Γ m ps.isEmpty a S1 with
  | none => rw [e] at o1; exact o1.elim
  | some q =>
    rw [e] at o1
    refine ⟨_, (met_R D hm r1 ra e).imp id (fun z => z.2), ι1, S1, τ, r1, rs, Out.bindR o1 fun xs S2 ι2 H2 vs _ st r2 rv o2 => ?_⟩
    exact ⟨ι2, S2, a :: xs, r2, .cons (RV.step ra r1 st) rv, OutC.of_out o2⟩
theorem met_st0 (D : Wd g X.prog X.w X.K X.mg X.base cm Γ k) {m : Str} (hm : m ∈ g.atts) {p : PX} (h : tI X.K cm W (evE Γ (.met m p [])) σ H Q) : tI X.K cm W (evE Γ p) σ H fun x H1 => ∃ a C dx fs g sp, x = .ref a ∧ H1 a = some (.ins C dx fs) ∧ Cls X.K C ∧ Meth X.K C m g ∧ fs.lookup m = none ∧ FnG X.prog X.w X.K X.mg X.base k g sp ∧ sp [x] H1 Q (WE W σ) := by
  have h' : tI X.K cm W (fun τ S => (evE Γ p τ S).bind fun x S1 => match metI Γ m true x S1 with
      | some q => (evEs Γ [] τ S1).bind fun xs S2 => Γ.call q (x :: xs) S2
      | none => .bad) σ H Q := by
    obtain ⟨ι, S, τ, rl, rs, o⟩ := h
    exact ⟨ι, S, τ, rl, rs, by simp only [evE, List.isEmpty_nil] at o; exact o⟩
  refine tG.bind (f := fun τ x S1 => match metI Γ m true x S1 with
      | some q => (evEs Γ [] τ S1).bind fun xs S2 => Γ.call q (x :: xs) S2
      | none => .bad) h' fun ι1 S1 H1 τ a v r1 rs ra o1 => ?_
  cases e : metI Γ m true a S1 with
  | none => rw [e] at o1; exact o1.elim
  | some q =>
    rw [e] at o1
    simp only [evEs, Rs.bind] at o1
    rcases met_R D hm r1 ra e with ⟨b, C, dx, fs, gg, hx, h1, h2, h3, h4, h5⟩ | ⟨z, _⟩
    · exact ⟨b, C, dx, fs, gg, _, hx, h1, h2, h3, h4, h5, ι1, S1, [a], r1, .cons ra .nil, OutC.of_out o1⟩
    · cases z
/-- the new instance's promise, by its evaluation -/
theorem new_Q {C : Addr} {c q : Str} {ι : Nat → Addr} {S : Sto} {xs : List IV} {vs : List V} (rl : Rel X.K cm ι S H) (rv : RVs X.K ι S.length H xs vs) (hC : cm.ins c = some C) (hq : Γ.att c "__init__" = some (.meth q))
    (o : Out X.K cm W ι S H σ (RVS X.K) (mkI Γ c xs S) Q) : NewQ W σ C (spI X.K cm (Γ.call q)) vs H Q := by
  intro x dx hx hdx hne
  obtain ⟨r0, st0⟩ := rl.upd_new (o := .own x) hdx
  have hx' : upd H dx (.own x) x = none := by rw [upd_ne (Ne.symm hne)]; exact hx
  obtain ⟨r1, st1⟩ := r0.add (o := .ins C dx []) (c := .ins c []) hx' ⟨C, dx, [], upd_same, hC, rfl, .nil⟩
  have st := Step.trans r0 st0 st1
  have hm : more ι S.length x S.length = x := more_eq
  refine ⟨more ι S.length x, S ++ [.ins c []], .ref S.length :: xs, r1, .cons ?_ (rv.step rl st), ?_⟩
  · simp only [RV]
    exact ⟨by simp, by rw [hm]⟩
  · simp only [mkI, hq] at o
    cases e : Γ.call q (.ref S.length :: xs) (S ++ [.ins c []]) with
    | bad => rw [e] at o; exact o.elim
    | exc cn S2 =>
      rw [e] at o
      exact fun ι' H' st' r' Cn hCn => o ι' H' (Step.trans r1 st st') r' Cn hCn
    | ok v S2 =>
      rw [e] at o
      intro ι' H' z st' r' rz
      cases v with
      | non =>
        simp only [RV] at rz
        refine ⟨rz, ?_⟩
        refine o ι' H' (.ref x) (Step.trans r1 st st') r' ?_
        simp only [RVS, RV]
        refine ⟨?_, ?_⟩
        · have := st'.len
          simp at this; omega
        · rw [st'.ext S.length (by simp), hm]
      | bl b => exact o.elim
      | int b => exact o.elim
      | str b => exact o.elim
      | tup b => exact o.elim
      | ref b => exact o.elim
      | cls b => exact o.elim
theorem hasInit_ok {c : Str} (h : hasInit Γ c = true) : ∃ q, Γ.att c "__init__" = some (.meth q) := by
  unfold hasInit at h
  split at h
  · exact ⟨_, by assumption⟩
  · cases h
theorem cls_mk (D : Wd g X.prog X.w X.K X.mg X.base cm Γ k) {c q : Str} {C : Addr} (hq : Γ.att c "__init__" = some (.meth q)) (hC : PySem.W.nsIn X.K mainGlobals c = some (some (.ref C))) : cm.ins c = some C ∧ MkG X k C (spI X.K cm (Γ.call q)) := by
  obtain ⟨C', h1, ck⟩ := D.cls c (D.attc c _ _ hq)
  have : C = C' := by
    have := ck.ns
    rw [hC] at this
    simp only [Option.some.injEq, Value.ref.injEq] at this
    exact this
  subst this
  obtain ⟨a, ha, M⟩ := ck.init q hq
  exact ⟨h1, a, M, D.meth q a ha⟩
theorem new_st (D : Wd g X.prog X.w X.K X.mg X.base cm Γ k) {p : PX} {ps : List PX} (h : tI X.K cm W (evE Γ (.new p ps)) σ H Q) : tNewG X k W (tI X.K cm W (evE Γ p)) (tIs X.K cm W (evEs Γ ps)) σ H Q := by
  have h' : tI X.K cm W (fun τ S => (evE Γ p τ S).bind fun y S0 => match y with
    | .cls c => if hasInit Γ c then (evEs Γ ps τ S0).bind fun xs S1 => mkI Γ c xs S1 else .bad
    | _ => .bad) σ H Q := by
    obtain ⟨ι, S, τ, rl, rs, o⟩ := h
    exact ⟨ι, S, τ, rl, rs, by simp only [evE] at o; exact o⟩
  refine tG.bind (RA := RVS X.K) (f := fun τ y S0 => match y with
    | .cls c => if hasInit Γ c then (evEs Γ ps τ S0).bind fun xs S1 => mkI Γ c xs S1 else .bad
    | _ => .bad) h' fun ι1 S1 H1 τ a v r1 rs ra o1 => ?_
  cases a with
  | cls c =>
    simp only [RVS, RV] at ra
    obtain ⟨C, rfl, hC⟩ := ra
    by_cases hh : hasInit Γ c = true
    · simp only [hh, if_true] at o1
      obtain ⟨q, hq⟩ := hasInit_ok hh
      obtain ⟨hi, M⟩ := cls_mk D hq hC
      exact ⟨C, _, rfl, M, ι1, S1, τ, r1, rs, Out.bindR o1 fun xs S2 ι2 H2 vs _ st r2 rv o2 => new_Q r2 rv hi hq o2⟩
    · simp only [hh, if_false] at o1; exact o1.elim
  | non => exact o1.elim
  | bl b => exact o1.elim
  | int b => exact o1.elim
  | str b => exact o1.elim
  | tup b => exact o1.elim
  | ref b => exact o1.elim
/-- the items behind a star -/
theorem star_items {ι : Nat → Addr} {S : Sto} {y : IV} {z : V} {ys : List IV} (rl : Rel X.K cm ι S H) (ry : RV X.K ι S.length H y z) (e : itemsI y S = some ys) : ∃ a xs, z = V.ref a ∧ (SqT X.K H a xs ∨ SqL X.K H a xs) ∧ RVs X.K ι S.length H ys xs := by
  obtain ⟨p, vs, h1, h2, h3⟩ := items_ok rl ry e
  exact ⟨p, vs, h1, h2.symm, h3⟩
/-- arguments with a star at their end -/
def evA (Γ : Gam) (ps : List PX) (q : PX) (τ : Sl) (S : Sto) : Rs (List IV) := (evEs Γ ps τ S).bind fun xs S1 => (evE Γ q τ S1).bind fun y S2 => match itemsI y S2 with
  | some ys => .ok (xs ++ ys) S2
  | none => .bad
theorem star1_st {q : PX} {R : List V → Hp → Prop} (h : tIs X.K cm W (evA Γ [] q) σ H R) : tI X.K cm W (evE Γ q) σ H fun z H1 => ∃ a xs, z = V.ref a ∧ (SqT X.K H1 a xs ∨ SqL X.K H1 a xs) ∧ R xs H1 := by
  have h' : tIs X.K cm W (fun τ S => (evE Γ q τ S).bind fun y S2 => match itemsI y S2 with
    | some ys => .ok ys S2
    | none => .bad) σ H R := by
    obtain ⟨ι, S, τ, rl, rs, o⟩ := h
    refine ⟨ι, S, τ, rl, rs, ?_⟩
    simp only [evA, evEs, Rs.bind, List.nil_append] at o
    exact o
  refine tG.bind (f := fun τ y S2 => match itemsI y S2 with
    | some ys => .ok ys S2
    | none => .bad) h' fun ι1 S1 H1 τ a v r1 rs ra o1 => ?_
  cases e : itemsI a S1 with
  | none => rw [e] at o1; exact o1.elim
  | some ys =>
    rw [e] at o1
    obtain ⟨b, xs, h1, h2, h3⟩ := star_items r1 ra e
    exact ⟨b, xs, h1, h2, o1 ι1 H1 xs Step.refl r1 h3⟩
theorem starL_st {q : PX} {R : List V → Hp → Prop} (h : tIs X.K cm W (evA Γ [] q) σ H R) : tStar X.K (tI X.K cm W (evE Γ q)) tNil σ H R := by
  have := star1_st h
  obtain ⟨ι, S, τ, rl, rs, o⟩ := this
  refine ⟨ι, S, τ, rl, rs, Out.imp o fun z H1 hz => ?_⟩
  obtain ⟨a, xs, h1, h2, h3⟩ := hz
  exact ⟨a, xs, h1, h2, by show R (xs ++ []) H1; rw [List.append_nil]; exact h3⟩
theorem starC_st {p q : PX} {ps : List PX} {R : List V → Hp → Prop} (h : tIs X.K cm W (evA Γ (p :: ps) q) σ H R) : tCons (tI X.K cm W (evE Γ p)) (tIs X.K cm W (evA Γ ps q)) σ H R := by
  have h' : tIs X.K cm W (fun τ S => (evE Γ p τ S).bind fun x S1 => (evA Γ ps q τ S1).bind fun xs S2 => .ok (x :: xs) S2) σ H R := by
    obtain ⟨ι, S, τ, rl, rs, o⟩ := h
    refine ⟨ι, S, τ, rl, rs, ?_⟩
    simp only [evA, evEs] at o
    dsimp only
    cases e1 : evE Γ p τ S with
    | bad => rw [e1] at o; exact o
    | exc c S1 => rw [e1] at o; exact o
    | ok x S1 =>
      rw [e1] at o
      simp only [Rs.bind, evA] at o ⊢
      cases e2 : evEs Γ ps τ S1 with
      | bad => rw [e2] at o; exact o
      | exc c S2 => rw [e2] at o; exact o
      | ok xs S2 =>
        rw [e2] at o
        simp only [] at o ⊢
        cases e3 : evE Γ q τ S2 with
        | bad => rw [e3] at o; exact o
        | exc c S3 => rw [e3] at o; exact o
        | ok y S3 =>
          rw [e3] at o
          simp only [] at o ⊢
          cases e4 : itemsI y S3 with
          | none => rw [e4] at o; exact o
          | some ys => rw [e4] at o; exact o
  refine tG.bind (f := fun τ x S1 => (evA Γ ps q τ S1).bind fun xs S2 => .ok (x :: xs) S2) h' fun ι1 S1 H1 τ a v r1 rs1 ra o1 => ⟨ι1, S1, τ, r1, rs1, Out.bindR o1 fun b S2 ι2 H2 y _ st r2 rb o2 => ?_⟩
  exact o2 ι2 H2 _ Step.refl r2 (RVs.cons (RV.step ra r1 st) rb)
theorem evA_bind {β : Type} {ps : List PX} {q : PX} {τ : Sl} {S : Sto} {f : List IV → Sto → Rs β} : ((evEs Γ ps τ S).bind fun xs S1 => (evE Γ q τ S1).bind fun y S2 => match itemsI y S2 with
    | some ys => f (xs ++ ys) S2
    | none => .bad) = (evA Γ ps q τ S).bind f := by
  unfold evA
  cases e1 : evEs Γ ps τ S with
  | bad => rfl
  | exc c S1 => rfl
  | ok xs S1 =>
    simp only [Rs.bind]
    cases e2 : evE Γ q τ S1 with
    | bad => rfl
    | exc c S2 => rfl
    | ok y S2 =>
      simp only []
      cases e3 : itemsI y S2 with
      | none => rfl
      | some ys => rfl
theorem calls_st {f : Str} {ps : List PX} {q : PX} (h : tI X.K cm W (evE Γ (.calls f ps q)) σ H Q) : tCallS (spI X.K cm (Γ.call f)) (WE W) (tIs X.K cm W (evA Γ ps q)) σ H Q := by
  have h' : tI X.K cm W (fun τ S => (evA Γ ps q τ S).bind fun xs S1 => Γ.call f xs S1) σ H Q := by
    obtain ⟨ι, S, τ, rl, rs, o⟩ := h
    refine ⟨ι, S, τ, rl, rs, ?_⟩
    simp only [evE] at o
    dsimp only
    rw [← evA_bind]; exact o
  exact tG.bind (f := fun τ xs S1 => Γ.call f xs S1) h' fun ι1 S1 H1 τ a v r1 rs ra o1 => ⟨ι1, S1, a, r1, ra, OutC.of_out o1⟩
theorem news_st (D : Wd g X.prog X.w X.K X.mg X.base cm Γ k) {p q : PX} {ps : List PX} (h : tI X.K cm W (evE Γ (.news p ps q)) σ H Q) : tNewG X k W (tI X.K cm W (evE Γ p)) (tIs X.K cm W (evA Γ ps q)) σ H Q := by
  have h' : tI X.K cm W (fun τ S => (evE Γ p τ S).bind fun y S0 => match y with
    | .cls c => if hasInit Γ c then (evA Γ ps q τ S0).bind fun xs S1 => mkI Γ c xs S1 else .bad
    | _ => .bad) σ H Q := by
    obtain ⟨ι, S, τ, rl, rs, o⟩ := h
    refine ⟨ι, S, τ, rl, rs, ?_⟩
    simp only [evE] at o
    dsimp only
    cases e1 : evE Γ p τ S with
    | bad => rw [e1] at o; exact o
    | exc c S1 => rw [e1] at o; exact o
    | ok z S0 =>
      rw [e1] at o
      simp only [Rs.bind] at o ⊢
      cases z with
      | cls c =>
        simp only [] at o ⊢
        by_cases hh : hasInit Γ c = true
        · simp only [hh, if_true] at o ⊢
          have := evA_bind (Γ := Γ) (ps := ps) (q := q) (τ := τ) (S := S0) (f := fun xs S1 => mkI Γ c xs S1)
          simp only [Rs.bind] at this o ⊢
          rw [← this]; exact o
        · simp only [hh, if_false] at o; exact o.elim
      | non => exact o
      | bl b => exact o
      | int b => exact o
      | str b => exact o
      | tup b => exact o
      | ref b => exact o
  refine tG.bind (RA := RVS X.K) (f := fun τ y S0 => match y with
    | .cls c => if hasInit Γ c then (evA Γ ps q τ S0).bind fun xs S1 => mkI Γ c xs S1 else .bad
    | _ => .bad) h' fun ι1 S1 H1 τ a v r1 rs ra o1 => ?_
  cases a with
  | cls c =>
    simp only [RVS, RV] at ra
    obtain ⟨C, rfl, hC⟩ := ra
    by_cases hh : hasInit Γ c = true
    · simp only [hh, if_true] at o1
      obtain ⟨q, hq⟩ := hasInit_ok hh
      obtain ⟨hi, M⟩ := cls_mk D hq hC
      exact ⟨C, _, rfl, M, ι1, S1, τ, r1, rs, Out.bindR o1 fun xs S2 ι2 H2 vs _ st r2 rv o2 => new_Q r2 rv hi hq o2⟩
    · simp only [hh, if_false] at o1; exact o1.elim
  | non => exact o1.elim
  | bl b => exact o1.elim
  | int b => exact o1.elim
  | str b => exact o1.elim
  | tup b => exact o1.elim
  | ref b => exact o1.elim
/-! ### isinstance of an own class -/
theorem isoI_ne {x : IV} {d : Str} {S : Sto} {c : Str} {S' : Sto} : isoI Γ x d S ≠ .exc c S' := by
  intro h
  unfold isoI at h
  repeat' split at h
  all_goals cases h
theorem iso_R (D : Wd g X.prog X.w X.K X.mg X.base cm Γ k) {d : Str} {C : Addr} (hd : d ∈ g.cls) (hC : PySem.W.nsIn X.K mainGlobals d = some (some (.ref C))) {ι : Nat → Addr} {S : Sto} {a : IV} {x : V} (rl : Rel X.K cm ι S H) (ra : RV X.K ι S.length H a x) (o : OutV X.K cm ι S H (isoI Γ a d S) Q) : rIsi X.K [x, .ref C] H Q := by
  obtain ⟨C', h1, ck⟩ := D.cls d hd
  have : C = C' := by
    have := ck.ns
    rw [hC] at this
    simp only [Option.some.injEq, Value.ref.injEq] at this
    exact this
  subst this
  have go : ∀ (t : String), t ∈ baseTys → isoI Γ a d S = .ok (.bl false) S → TyX X.K H x (.type t) → rIsi X.K [x, .ref C] H Q := fun t ht h0 h1 => by
    refine ⟨x, _, .type t, .ref C, false, rfl, .own C, h1, ck.isb t ht, ?_⟩
    rw [h0] at o
    exact o.here rl (by simp only [RV])
  cases a with
  | non => simp only [RV] at ra; subst ra; exact go "NoneType" (by decide) rfl (.base .non)
  | bl b => simp only [RV] at ra; subst ra; exact go "bool" (by decide) rfl (.base (.bl b))
  | int b => simp only [RV] at ra; subst ra; exact go "int" (by decide) rfl (.base (.int b))
  | str b => simp only [RV] at ra; subst ra; exact go "str" (by decide) rfl (.base (.str b))
  | tup xs =>
    simp only [RV] at ra
    obtain ⟨p, vs, rfl, h2, _⟩ := ra
    exact go "tuple" (by decide) rfl (sq_ty h2.toT)
  | cls b => exact o.elim
  | ref n =>
    simp only [RV] at ra
    obtain ⟨hn, rfl⟩ := ra
    cases e : S[n]? with
    | none => simp only [isoI, e] at o; exact o.elim
    | some cl =>
      have hc := rl.cell n cl e
      cases cl with
      | lst ys => obtain ⟨vs, e1, _⟩ := hc; exact go "list" (by decide) (by simp only [isoI, e]) (.base (.lst e1))
      | frz ys => obtain ⟨ob, vs, e1, _⟩ := hc; exact go "list" (by decide) (by simp only [isoI, e]) (.base (.frz e1))
      | dct ys => obtain ⟨vs, e1, _⟩ := hc; exact go "dict" (by decide) (by simp only [isoI, e]) (.base (.dK e1))
      | dtt ys => simp only [isoI, e] at o; exact o.elim
      | ins c fs =>
        obtain ⟨C1, dx, ps, e1, e2, _⟩ := hc
        have c1 := D.at e2
        refine ⟨_, _, .ref C1, .ref C, Γ.isub c d, rfl, .own C, .base (.ins e1 c1.cl c1.ha c1.hn c1.htk c1.hm), ck.iso c C1 e2, ?_⟩
        simp only [isoI, e] at o
        exact o.here rl (by simp only [RV])
end
end Wg
set_option maxHeartbeats 2000000
/-! WiD: zip of so many tuples, at the library's level. -/
namespace WZ
open PySem
open PySem.Sem (wp)
abbrev IsZipG (h : Heap) (z TI TO : Addr) (f0 : Value) (b : Bool) : Prop :=
  h.get? z = some { cls := .type "zip", dict := none, data := .fields #[f0, .bool b, .bool false, .ref TI, .ref TO], slots := #[] }
abbrev IsTupN (h : Heap) (T : Addr) (xs : List Value) : Prop := h.get? T = some { cls := .type "tuple", data := .seq xs.toArray }
theorem wp_forIn {M : Model} {A : Around} {E : Value → Shared → Prop} {α σ : Type} {f : α → σ → Sem (ForInStep σ)} (I : Nat → σ → Shared → Prop) {Q : σ → Shared → Prop} :
    ∀ (l : List α) (k : Nat) (st : σ) (s : Shared), (∀ i x st s, l[i]? = some x → I (k + i) st s → wpAny M A (f x st) (fun r s' => ∃ st', r = .yield st' ∧ I (k + i + 1) st' s') E s) → I k st s → (∀ st s', I (k + l.length) st s' → Q st s') → wpAny M A (forIn l st f) Q E s
  | [], k, st, s, _, h0, hQ => by rw [List.forIn_nil]; exact wpAny_pure (hQ st s h0)
  | x :: l, k, st, s, hb, h0, hQ => by
    rw [List.forIn_cons]
    refine wpAny_bind (wpAny_mono (hb 0 x st s rfl h0) (fun r s' h => ?_) fun _ _ z => z)
    obtain ⟨st', rfl, h'⟩ := h
    refine wp_forIn I l (k + 1) st' s' (fun i y st s hi h => ?_) h' (fun st s' h => hQ st s' ?_)
    · have := hb (i + 1) y st s (by simpa using hi) (by rw [← Nat.add_assoc, Nat.add_right_comm]; exact h)
      rw [show k + (i + 1) + 1 = k + 1 + i + 1 by omega] at this
      exact this
    · rw [List.length_cons, show k + (l.length + 1) = k + 1 + l.length by omega]
      exact h
/-- the first turn of a loop raises -/
theorem wp_forIn_raise {M : Model} {A : Around} {E : Value → Shared → Prop} {α σ : Type} {f : α → σ → Sem (ForInStep σ)} {Q : σ → Shared → Prop} {x : α} {l : List α} {st : σ} {s : Shared} (h : wpAny M A (f x st) (fun _ _ => False) E s) : wpAny M A (forIn (x :: l) st f) Q E s := by
  rw [List.forIn_cons]
  exact wpAny_bind (wpAny_mono h (fun _ _ z => z.elim) fun _ _ z => z)
section
variable {prog : Program} {w : World} {A : Around} {E : Value → Shared → Prop} {s : Shared}
theorem updateSeq_N {T : Addr} {ks : List Value} {x : Value} {k : Nat} {Q : Unit → Shared → Prop} (hT : IsTupN s.heap T ks) (hl : ks.length ≤ 1000) (h : ∀ h', IsTupN h' T (ks.set k x) → Heap.SameBut T s.heap h' → Q () { s with heap := h' }) :
    wpAny (model prog w) A (updateSeq T (·.setIfInBounds k x)) Q E s := by
  refine wpAny_updateSeq hT rfl (h _ ?_ (Heap.SameBut.update ..)) ?_ ?_
  · show Heap.get? _ T = _
    rw [Heap.get?_update_self _ hT rfl]
    simp [Obj.mapSeq]
  · rw [List.size_toArray]; exact Nat.le_trans hl (by decide)
  · simp only [Array.size_setIfInBounds, List.size_toArray]; exact Nat.le_trans hl (by decide)
end
/-- a tuple or a list, by a table of kinds; its iterator -/
def SSq (ts : Addr → Bool) (h : Heap) (l : Addr) (xs : Array Value) : Prop := ∃ o, h.get? l = some o ∧ o.cls = .type (cond (ts l) "tuple" "list") ∧ ∃ n, o.data = .seq xs n
def SIt (ts : Addr → Bool) (h : Heap) (j l : Addr) (i : Nat) : Prop := ∃ o, h.get? j = some o ∧ o.cls = .type (cond (ts l) "tuple_iterator" "list_iterator") ∧ o.data = .fields #[.ref l, .int i 0]
abbrev itO (ts : Addr → Bool) (l : Addr) : Obj := { cls := .type (cond (ts l) "tuple_iterator" "list_iterator"), data := .fields #[.ref l, .int 0 0] }
section
variable {prog : Program} {w : World} {A : Around} {E : Value → Shared → Prop} {s : Shared} {ts : Addr → Bool}
theorem nextS_item {it l : Addr} {i : Nat} {items : Array Value} {x : Value} {Q : Value → Shared → Prop} (hit : SIt ts s.heap it l i) (hl : SSq ts s.heap l items) (hx : items[i]? = some x)
    (hQ : ∀ h', SIt ts h' it l (i + 1) → Heap.SameBut it s.heap h' → Q x { s with heap := h' }) : wpAny (model prog w) A (Builtin.SmallTypes.nextOf (.ref it)) Q E s := by
  unfold SIt at hit hQ
  unfold SSq at hl
  cases e : ts l with
  | true => rw [e] at hit hl hQ; exact RZ.nextOf_tuple_item hit hl hx hQ
  | false => rw [e] at hit hl hQ; exact wpAny_nextOf_list_item hit hl hx hQ
theorem nextS_end {it l : Addr} {i : Nat} {items : Array Value} {Q : Value → Shared → Prop} (hh : A.handled = none) (hit : SIt ts s.heap it l i) (hl : SSq ts s.heap l items) (hx : items[i]? = none)
    (hE : ∀ h' e, Heap.ExtBut it s.heap h' → (∃ o, h'.get? e = some o ∧ o.cls = .type "StopIteration") → E (.ref e) { s with heap := h' }) : wpAny (model prog w) A (Builtin.SmallTypes.nextOf (.ref it)) Q E s := by
  unfold SIt at hit
  unfold SSq at hl
  cases e : ts l with
  | true => rw [e] at hit hl; exact RZ.nextOf_tuple_end hh hit hl hx hE
  | false => rw [e] at hit hl; exact wpAny_nextOf_list_end hh hit hl hx hE
theorem iterS {l : Addr} {items : Array Value} {Q : Value → Shared → Prop} (hl : SSq ts s.heap l items) (hQ : Q (.ref s.heap.objs.size) { s with heap := s.heap.push (itO ts l) }) : wpAny (model prog w) A (pyIter (.ref l)) Q E s := by
  unfold SSq at hl
  unfold itO at hQ
  cases e : ts l with
  | true => rw [e] at hl hQ; exact wpAny_pyIter_tuple hl hQ
  | false => rw [e] at hl hQ; exact wpAny_pyIter_list hl hQ
/-- what a zip is made of, all apart -/
structure ZA (z TI TO : Addr) (its ls : List Addr) : Prop where
  TIz : TI ≠ z
  TOz : TO ≠ z
  TITO : TI ≠ TO
  nd : its.Nodup
  iz : ∀ i ∈ its, i ≠ z ∧ i ≠ TI ∧ i ≠ TO
  lz : ∀ l ∈ ls, l ≠ z ∧ l ≠ TI ∧ l ≠ TO ∧ l ∉ its
  len : its.length = ls.length
  ne : its ≠ []
  few : its.length ≤ 1000
/-- a zip at turn i -/
structure ZS (ts : Addr → Bool) (h : Heap) (z TI TO : Addr) (its ls : List Addr) (i : Nat) : Prop where
  z : ∃ f0 b, IsZipG h z TI TO f0 b ∧ (f0 = .none ∨ ∃ a, f0 = rawInt a)
  ti : IsTupN h TI (its.map .ref)
  to : ∃ ks, ks.length = its.length ∧ IsTupN h TO ks
  it : ∀ (k : Nat) (j l : Addr), its[k]? = some j → ls[k]? = some l → SIt ts h j l i
theorem ZS.keep {h h' : Heap} {z TI TO : Addr} {its ls : List Addr} {i : Nat} (S : ZS ts h z TI TO its ls i) (len : its.length = ls.length) (k : ∀ b ∈ z :: TI :: TO :: its, ∀ o, h.get? b = some o → h'.get? b = some o) : ZS ts h' z TI TO its ls i := by
  obtain ⟨f0, b, h1, h2⟩ := S.z
  obtain ⟨ks, h3, h4⟩ := S.to
  refine ⟨⟨f0, b, k z (by simp) _ h1, h2⟩, k TI (by simp) _ S.ti, ⟨ks, h3, k TO (by simp) _ h4⟩, fun n j l hj hl => ?_⟩
  obtain ⟨o, e, r⟩ := S.it n j l hj hl
  exact ⟨o, k j (by simp [List.mem_of_getElem? hj]) _ e, r⟩
/-- the heap while the items are drawn -/
structure ZM (ts : Addr → Bool) (s0 : Heap) (h : Heap) (z TI TO : Addr) (its ls : List Addr) (i k : Nat) : Prop where
  sz : h.objs.size = s0.objs.size
  ti : IsTupN h TI (its.map .ref)
  it : ∀ (n : Nat) (j l : Addr), its[n]? = some j → ls[n]? = some l → SIt ts h j l (if n < k then i + 1 else i)
  keep : ∀ c o, c ∉ z :: TI :: TO :: its → s0.get? c = some o → h.get? c = some o
theorem ZM.next {s0 h h' : Heap} {z TI TO : Addr} {its ls : List Addr} {i k : Nat} {j l : Addr} (D : ZA z TI TO its ls) (M : ZM ts s0 h z TI TO its ls i k) (hj : its[k]? = some j) (hl : ls[k]? = some l) (hi : SIt ts h' j l (i + 1)) (sb : Heap.SameBut j h h') : ZM ts s0 h' z TI TO its ls i (k + 1) := by
  have jm := List.mem_of_getElem? hj
  obtain ⟨j1, j2, j3⟩ := D.iz j jm
  refine ⟨sb.1.trans M.sz, (sb.2 _ (Ne.symm j2)).trans M.ti, fun n j' l' hj' hl' => ?_, fun c o hc e => ?_⟩
  · by_cases hn : n = k
    · subst hn
      rw [hj] at hj'; cases hj'
      rw [hl] at hl'; cases hl'
      rw [if_pos (by omega)]
      exact hi
    · have hne : j' ≠ j := fun e => by
        subst e
        have a1 := (List.getElem?_eq_some_iff.mp hj)
        have a2 := (List.getElem?_eq_some_iff.mp hj')
        obtain ⟨b1, b2⟩ := a1
        obtain ⟨c1, c2⟩ := a2
        exact hn ((List.getElem_inj D.nd).mp (c2.trans b2.symm))
      have := M.it n j' l' hj' hl'
      rw [show (if n < k + 1 then i + 1 else i) = (if n < k then i + 1 else i) by by_cases q : n < k <;> simp [q] <;> omega]
      obtain ⟨o, e, r⟩ := this
      exact ⟨o, (sb.2 _ hne).trans e, r⟩
  · have hcj : c ≠ j := fun e => hc (by subst e; simp [jm])
    exact (sb.2 c hcj).trans (M.keep c o hc e)
theorem ZM.same {s0 h h' : Heap} {z TI TO : Addr} {its ls : List Addr} {i k : Nat} {c : Addr} (D : ZA z TI TO its ls) (M : ZM ts s0 h z TI TO its ls i k) (hc : c = z ∨ c = TO) (sb : Heap.SameBut c h h') : ZM ts s0 h' z TI TO its ls i k := by
  have nc : ∀ j ∈ its, j ≠ c := fun j hj e => by
    obtain ⟨a, b, d⟩ := D.iz j hj
    rcases hc with q | q
    · exact a (e.trans q)
    · exact d (e.trans q)
  have nt : TI ≠ c := fun e => by
    rcases hc with q | q
    · exact D.TIz (e.trans q)
    · exact D.TITO (e.trans q)
  refine ⟨sb.1.trans M.sz, (sb.2 _ nt).trans M.ti, fun n j l hj hl => ?_, fun b o hb e => ?_⟩
  · obtain ⟨o, e, r⟩ := M.it n j l hj hl
    exact ⟨o, (sb.2 _ (nc j (List.mem_of_getElem? hj))).trans e, r⟩
  · have hbc : b ≠ c := fun e => hb (by
      rcases hc with q | q
      · subst e; subst q; simp
      · subst e; subst q; simp)
    exact (sb.2 b hbc).trans (M.keep b o hb e)
theorem free_none {z TI TO : Addr} {b : Bool} {Q : Bool → Shared → Prop} (hz : IsZipG s.heap z TI TO .none b) (h : Q true s) : wpAny (model prog w) A (Builtin.SmallTypes.ownedTupleIsFree (.ref z)) Q E s := by
  unfold Builtin.SmallTypes.ownedTupleIsFree
  exact wpAny_bind (wpAny_field hz rfl (x := .none) rfl (wpAny_pure h))
theorem wpAny_ifAlive {a : Addr} {Q : Option Obj → Shared → Prop} (h : Q (s.heap.get? a) s) : wpAny (model prog w) A (loadIfAlive a) Q E s := fun Γ p hΓ => by
  unfold loadIfAlive
  rw [Sem.wp_loadIfAlive]
  rw [Sem.wp_pure]
  exact h
theorem free_int {z TI TO : Addr} {b : Bool} {a : Int} {Q : Bool → Shared → Prop} (hz : IsZipG s.heap z TI TO (rawInt a) b) (h1 : Q true s) (h2 : ∀ h' b', IsZipG h' z TI TO (rawInt a) b' → Heap.SameBut z s.heap h' → Q false { s with heap := h' }) : wpAny (model prog w) A (Builtin.SmallTypes.ownedTupleIsFree (.ref z)) Q E s := by
  unfold Builtin.SmallTypes.ownedTupleIsFree
  refine wpAny_bind (wpAny_field hz rfl (x := rawInt a) rfl ?_)
  show wpAny _ _ (loadIfAlive a.toNat >>= _) _ _ _
  refine wpAny_bind (wpAny_ifAlive ?_)
  cases e : s.heap.get? a.toNat with
  | none =>
    show wpAny _ _ (pure true) _ _ _
    exact wpAny_pure h1
  | some o =>
    show wpAny _ _ (field (.ref z) 1 >>= _) _ _ _
    refine wpAny_bind (wpAny_field hz rfl (x := .bool b) rfl ?_)
    cases b with
    | true =>
      show wpAny _ _ (pure false) _ _ _
      exact wpAny_pure (h2 s.heap true hz (Heap.SameBut.refl _ _))
    | false =>
      show wpAny _ _ (setField (.ref z) 1 (.bool true) >>= _) _ _ _
      refine wpAny_bind (wpAny_setField_rec hz (by simp) fun h' hz' hs => wpAny_pure ?_)
      exact h2 h' true hz' hs
end
end WZ
set_option maxHeartbeats 2000000
/-! WiE: the next item of such a zip, its end. -/
namespace WZ
open PySem
open PySem.Sem (wp)
section
variable {prog : Program} {w : World} {A : Around} {E : Value → Shared → Prop} {s : Shared} {ts : Addr → Bool}
theorem items_of {h : Heap} {its ls : List Addr} {i : Nat} {row : List Value} (hr : ∀ (k : Nat) (l : Addr), ls[k]? = some l → ∃ xs x, SSq ts h l xs ∧ xs[i]? = some x ∧ row[k]? = some x) (len : its.length = ls.length) {k : Nat} {j : Addr} (hj : its[k]? = some j) :
    ∃ l xs x, ls[k]? = some l ∧ SSq ts h l xs ∧ xs[i]? = some x ∧ row[k]? = some x := by
  have hk := (List.getElem?_eq_some_iff.mp hj).1
  have hl : ls[k]? = some ls[k] := List.getElem?_eq_getElem (by omega)
  obtain ⟨xs, x, h1, h2, h3⟩ := hr k _ hl
  exact ⟨_, xs, x, hl, h1, h2, h3⟩
theorem isFree {z TI TO : Addr} {f0 : Value} {b : Bool} (hz : IsZipG s.heap z TI TO f0 b) (hf : f0 = .none ∨ ∃ a, f0 = rawInt a) :
    wpAny (model prog w) A (Builtin.SmallTypes.ownedTupleIsFree (.ref z)) (fun r s' => ∃ h0 f0 b, s' = { s with heap := h0 } ∧ IsZipG h0 z TI TO f0 b ∧ Heap.SameBut z s.heap h0 ∧ (r = false → ∃ a, f0 = rawInt a)) E s := by
  rcases hf with rfl | ⟨a, rfl⟩
  · exact free_none hz ⟨s.heap, _, _, rfl, hz, Heap.SameBut.refl _ _, fun h => by cases h⟩
  · exact free_int hz ⟨s.heap, _, _, rfl, hz, Heap.SameBut.refl _ _, fun h => by cases h⟩ fun h' b' hz' hs => ⟨h', _, _, rfl, hz', hs, fun _ => ⟨a, rfl⟩⟩
theorem zipN_item {z TI TO : Addr} {its ls : List Addr} {i : Nat} {row : List Value} {Q : Value → Shared → Prop} (D : ZA z TI TO its ls) (Z : ZS ts s.heap z TI TO its ls i)
    (hr : ∀ (k : Nat) (l : Addr), ls[k]? = some l → ∃ xs x, SSq ts s.heap l xs ∧ xs[i]? = some x ∧ row[k]? = some x) (hrl : row.length = its.length)
    (hQ : ∀ h', ZS ts h' z TI TO its ls (i + 1) → IsTupN h' s.heap.objs.size row → h'.objs.size = s.heap.objs.size + 1 → (∀ c o, c ∉ z :: TI :: TO :: its → s.heap.get? c = some o → h'.get? c = some o) → Q (.ref s.heap.objs.size) { s with heap := h' }) :
    wpAny (model prog w) A (Builtin.«zip.__next__» ⟨[.ref z], []⟩) (fun fin s' => ∃ v, fin = .done (.ret v) ∧ Q v s') E s := by
  obtain ⟨f0, b, hz, hf⟩ := Z.z
  obtain ⟨ks, hks, hTO⟩ := Z.to
  have few := D.few
  have hne : (its.map Value.ref).toArray.isEmpty = false := by
    have := D.ne
    cases its with
    | nil => exact absurd rfl this
    | cons a r => simp
  have tup : ∀ {h : Heap} {l : Addr} {xs : Array Value}, (∀ c o, c ∉ z :: TI :: TO :: its → s.heap.get? c = some o → h.get? c = some o) → l ∈ ls → SSq ts s.heap l xs → SSq ts h l xs := fun {h l xs} kp hl ⟨o, e, r⟩ => by
    obtain ⟨a1, a2, a3, a4⟩ := D.lz l hl
    exact ⟨o, kp l o (by simp [a1, a2, a3, a4]) e, r⟩
  show wpAny _ _ (field (.ref z) 2 >>= _) _ _ _
  refine wpAny_bind (wpAny_field hz rfl (x := .bool false) rfl ?_)
  show wpAny _ _ (field (.ref z) 3 >>= _) _ _ _
  refine wpAny_bind (wpAny_field hz rfl (x := .ref TI) rfl ?_)
  refine wpAny_bind (wpAny_seqItems Z.ti rfl ?_)
  dsimp only
  rw [if_neg (by rw [hne]; exact Bool.false_ne_true)]
  refine wpAny_bind (wpAny_mono (isFree hz hf) (fun r s1 hr1 => ?_) fun _ _ z => z)
  obtain ⟨h0, f0, b, rfl, hz0, sb0, hint⟩ := hr1
  have hTO0 : IsTupN h0 TO ks := (sb0.2 _ D.TOz).trans hTO
  have M0 : ZM ts s.heap h0 z TI TO its ls i 0 := by
    refine ZM.same D ⟨rfl, Z.ti, fun n j l hj hl => ?_, fun c o _ e => e⟩ (.inl rfl) sb0
    rw [if_neg (by omega)]
    exact Z.it n j l hj hl
  cases r with
  | true =>
    rw [if_pos rfl]
    refine wpAny_bind (wpAny_rule ?_)
    refine wpAny_bind (wpAny_field hz0 rfl (x := .ref TO) rfl ?_)
    dsimp only
    refine wpAny_bind (wpAny_setField_rec hz0 (by simp) fun h₁ hz₁ hs₁ => ?_)
    replace hz₁ : IsZipG h₁ z TI TO .ellipsis b := hz₁
    have M1 := M0.same D (.inl rfl) hs₁
    have hTO₁ : IsTupN h₁ TO ks := (hs₁.2 _ D.TOz).trans hTO0
    refine wpAny_bind (wp_forIn (fun k st s' => st = (none, ()) ∧ ∃ h', s' = { s with heap := h' } ∧ IsZipG h' z TI TO .ellipsis b ∧ ZM ts s.heap h' z TI TO its ls i k ∧ ∃ ks', ks'.length = its.length ∧ IsTupN h' TO ks' ∧ ∀ n, n < k → ks'[n]? = row[n]?) _ 0 _ _ ?_ ⟨rfl, h₁, rfl, hz₁, M1, ks, hks, hTO₁, fun n hn => absurd hn (by omega)⟩ ?_)
    · rintro n ⟨it, k⟩ st s1 hn ⟨rfl, h', rfl, hz', M, ks', hks', hTO', hrow⟩
      rw [Nat.zero_add] at M hrow ⊢
      obtain ⟨j, hj, rfl, rfl⟩ : ∃ j, its[n]? = some j ∧ it = .ref j ∧ k = n := by
        simp only [List.getElem?_zipIdx, List.getElem?_map] at hn
        cases e : its[n]? with
        | none => rw [e] at hn; simp at hn
        | some j => rw [e] at hn; simp at hn; exact ⟨j, rfl, hn.1.symm, by omega⟩
      obtain ⟨l, xs, x, hl, t1, t2, t3⟩ := items_of hr D.len hj
      have jm := List.mem_of_getElem? hj
      obtain ⟨j1, j2, j3⟩ := D.iz j jm
      have ij := M.it k j l hj hl
      rw [if_neg (by omega)] at ij
      refine wpAny_bind (wpAny_onRaise ?_)
      show wpAny _ _ (Builtin.SmallTypes.nextOf (.ref j) >>= _) _ _ _
      refine wpAny_bind (nextS_item ij (tup M.keep (List.mem_of_getElem? hl) t1) t2 fun h₂ h1₂ hs₂ => wpAny_pure ?_)
      have M2 := M.next D hj hl h1₂ hs₂
      have hz₂ : IsZipG h₂ z TI TO .ellipsis b := (hs₂.2 _ (Ne.symm j1)).trans hz'
      have hTO₂ : IsTupN h₂ TO ks' := (hs₂.2 _ (Ne.symm j3)).trans hTO'
      refine wpAny_bind (wpAny_seqItems hTO₂ rfl ?_)
      refine wpAny_bind (updateSeq_N hTO₂ (by omega) fun h₃ hTO₃ hs₃ => ?_)
      refine wpAny_bind (wpAny_letGo (wpAny_pure ⟨_, rfl, rfl, h₃, rfl, (hs₃.2 _ (Ne.symm D.TOz)).trans hz₂, M2.same D (.inr rfl) hs₃, _, by simpa using hks', hTO₃, fun q hq => ?_⟩))
      by_cases hqk : q = k
      · subst hqk
        have hlt := (List.getElem?_eq_some_iff.mp hj).1
        rw [t3, List.getElem?_set_self (by omega)]
      · rw [List.getElem?_set_ne (fun e => hqk e.symm)]
        exact hrow q (by omega)
    · rintro st s1 ⟨rfl, h', rfl, hz', M, ks', hks', hTO', hrow⟩
      simp only [List.length_zipIdx, List.length_map, Nat.zero_add] at M hrow
      have ek : ks' = row := by
        apply List.ext_getElem?
        intro n
        by_cases hn : n < its.length
        · exact hrow n hn
        · rw [List.getElem?_eq_none (by omega), List.getElem?_eq_none (by omega)]
      subst ek
      refine wpAny_bind (wpAny_seqItems hTO' rfl ?_)
      refine wpAny_bind (wpAny_newTuple ?_ (by simp; exact Nat.le_trans (by omega : ks'.length ≤ 1000) (by decide)))
      show wpAny _ _ (Builtin.SmallTypes.ownedTupleHandOut (.ref z) (.ref h'.objs.size) >>= _) _ _ _
      refine wpAny_bind ?_
      unfold Builtin.SmallTypes.ownedTupleHandOut
      have hz₆ : IsZipG (h'.push { cls := .type "tuple", data := .seq ks'.toArray }) z TI TO .ellipsis b := Heap.get?_push_of_some _ hz'
      refine wpAny_bind (wpAny_setField_rec (by simpa using hz₆) (by simp) fun h₇ hz₇ hs₇ => ?_)
      replace hz₇ : IsZipG h₇ z TI TO (rawInt h'.objs.size) b := hz₇
      refine wpAny_setField_rec hz₇ (by simp) fun h₈ hz₈ hs₈ => ?_
      replace hz₈ : IsZipG h₈ z TI TO (rawInt h'.objs.size) false := hz₈
      have zlt : z < h'.objs.size := Heap.lt_size hz'
      have up : ∀ c o, c ≠ z → h'.get? c = some o → h₈.get? c = some o := fun c o c1 e => (hs₈.2 _ c1).trans ((hs₇.2 _ c1).trans (by simpa using Heap.get?_push_of_some _ e))
      have hT₈ : IsTupN h₈ h'.objs.size ks' := (hs₈.2 _ (Nat.ne_of_gt zlt)).trans ((hs₇.2 _ (Nat.ne_of_gt zlt)).trans (by simpa using Heap.get?_push_size _ rfl))
      have sz8 : h₈.objs.size = h'.objs.size + 1 := by rw [hs₈.1, hs₇.1]; simp [Heap.size_push]
      rw [M.sz] at hT₈ sz8 hz₈
      refine wpAny_pure ⟨_, rfl, ?_⟩
      show Q (.ref h'.objs.size) _
      rw [M.sz]
      refine hQ h₈ ⟨⟨_, _, hz₈, .inr ⟨_, rfl⟩⟩, up _ _ D.TIz M.ti, ⟨ks', hks', up _ _ D.TOz hTO'⟩, fun n j l hj hl => ?_⟩ hT₈ sz8 fun c o hc e => up c o (fun q => hc (by simp [q])) (M.keep c o hc e)
      have ij := M.it n j l hj hl
      have hlt := (List.getElem?_eq_some_iff.mp hj).1
      rw [if_pos hlt] at ij
      obtain ⟨o, e, r⟩ := ij
      exact ⟨o, up j o (D.iz j (List.mem_of_getElem? hj)).1 e, r⟩
  | false =>
    rw [if_neg Bool.false_ne_true]
    obtain ⟨a0, rfl⟩ := hint rfl
    rw [List.forIn_toArray]
    refine wpAny_bind (wp_forIn (fun k st s' => st.1 = none ∧ st.2.toList = row.take k ∧ ∃ h' b', s' = { s with heap := h' } ∧ IsZipG h' z TI TO (rawInt a0) b' ∧ IsTupN h' TO ks ∧ ZM ts s.heap h' z TI TO its ls i k) _ 0 _ _ ?_ ⟨rfl, by simp, h0, b, rfl, hz0, hTO0, M0⟩ ?_)
    · rintro n it ⟨st1, st2⟩ s1 hn ⟨e1, e2, h', b', rfl, hz', hTO', M⟩
      rw [Nat.zero_add] at M e2 ⊢
      simp only at e1 e2
      subst e1
      obtain ⟨j, hj, rfl⟩ : ∃ j, its[n]? = some j ∧ it = .ref j := by
        rw [List.getElem?_map] at hn
        cases e : its[n]? with
        | none => rw [e] at hn; simp at hn
        | some j => rw [e] at hn; simp at hn; exact ⟨j, rfl, hn.symm⟩
      obtain ⟨l, xs, x, hl, t1, t2, t3⟩ := items_of hr D.len hj
      have jm := List.mem_of_getElem? hj
      obtain ⟨j1, j2, j3⟩ := D.iz j jm
      have ij := M.it n j l hj hl
      rw [if_neg (by omega)] at ij
      refine wpAny_bind (wpAny_holding ?_)
      show wpAny _ _ (Builtin.SmallTypes.nextOf (.ref j) >>= _) _ _ _
      refine wpAny_bind (nextS_item ij (tup M.keep (List.mem_of_getElem? hl) t1) t2 fun h₂ h1₂ hs₂ => wpAny_pure ?_)
      refine wpAny_pure ⟨_, rfl, rfl, ?_, h₂, b', rfl, (hs₂.2 _ (Ne.symm j1)).trans hz', (hs₂.2 _ (Ne.symm j3)).trans hTO', M.next D hj hl h1₂ hs₂⟩
      show (st2.push x).toList = _
      rw [Array.toList_push, e2, List.take_add_one, t3]
      rfl
    · rintro ⟨st1, st2⟩ s1 ⟨e1, e2, h', b', rfl, hz', hTO', M⟩
      simp only [List.length_map, Nat.zero_add] at M e2
      simp only at e1
      subst e1
      rw [← hrl, List.take_length] at e2
      dsimp only
      rw [e2]
      have zlt : z < h'.objs.size := Heap.lt_size hz'
      refine wpAny_bind (wpAny_newTuple ?_ (by rw [hrl]; exact Nat.le_trans few (by decide)))
      refine wpAny_pure ⟨_, rfl, ?_⟩
      show Q (.ref h'.objs.size) _
      have up : ∀ c o, h'.get? c = some o → (h'.push { cls := .type "tuple", data := .seq row.toArray }).get? c = some o := fun c o e => Heap.get?_push_of_some _ e
      have hT : IsTupN (h'.push { cls := .type "tuple", data := .seq row.toArray }) h'.objs.size row := Heap.get?_push_size _ rfl
      have szp : (h'.push { cls := .type "tuple", data := .seq row.toArray }).objs.size = h'.objs.size + 1 := Heap.size_push ..
      rw [M.sz] at hT szp
      rw [M.sz]
      refine hQ _ ⟨⟨_, _, up _ _ hz', .inr ⟨_, rfl⟩⟩, up _ _ M.ti, ⟨ks, hks, up _ _ hTO'⟩, fun n j l hj hl => ?_⟩ hT szp fun c o hc e => up _ _ (M.keep c o hc e)
      have ij := M.it n j l hj hl
      have hlt := (List.getElem?_eq_some_iff.mp hj).1
      rw [if_pos hlt] at ij
      obtain ⟨o, e, r⟩ := ij
      exact ⟨o, up _ _ e, r⟩
end
end WZ
set_option maxHeartbeats 2000000
/-! WiF: such a zip made, its iteration's end. -/
namespace WZ
open PySem
theorem typeCall_n : ∀ args : List Value, 1 ≤ args.length → args.length ≤ 6 → checkTypeCall "zip" ⟨args, []⟩ = pure ()
  | [a], _, _ => by kernel_rfl
  | [a, b], _, _ => by kernel_rfl
  | [a, b, c], _, _ => by kernel_rfl
  | [a, b, c, d], _, _ => by kernel_rfl
  | [a, b, c, d, e], _, _ => by kernel_rfl
  | [a, b, c, d, e, f], _, _ => by kernel_rfl
  | [], h, _ => by simp at h
  | _ :: _ :: _ :: _ :: _ :: _ :: _ :: _, _, h => by simp at h
theorem newCall_n : ∀ args : List Value, 1 ≤ args.length → args.length ≤ 6 → checkBuiltinCall "zip.__new__" ⟨.type "zip" :: args, []⟩ = pure ()
  | [a], _, _ => by kernel_rfl
  | [a, b], _, _ => by kernel_rfl
  | [a, b, c], _, _ => by kernel_rfl
  | [a, b, c, d], _, _ => by kernel_rfl
  | [a, b, c, d, e], _, _ => by kernel_rfl
  | [a, b, c, d, e, f], _, _ => by kernel_rfl
  | [], h, _ => by simp at h
  | _ :: _ :: _ :: _ :: _ :: _ :: _ :: _, _, h => by simp at h
theorem init_n (args : List Value) (h1 : 1 ≤ args.length) (h2 : args.length ≤ 6) (obj : Value) : argsOk "object.__init__" ⟨obj :: args, []⟩ := by
  unfold argsOk
  rw [signature?_of (id := "object.__init__") (n := ['_', '_', 't', 'i', 'n', 'i', '_', '_']) (o := ['t', 'c', 'e', 'j', 'b', 'o']) (by kernel_rfl) F.owner_object]
  match args, h1, h2 with
  | [a], _, _ => kernel_rfl
  | [a, b], _, _ => kernel_rfl
  | [a, b, c], _, _ => kernel_rfl
  | [a, b, c, d], _, _ => kernel_rfl
  | [a, b, c, d, e], _, _ => kernel_rfl
  | [a, b, c, d, e, f], _, _ => kernel_rfl
  | [], h, _ => simp at h
  | _ :: _ :: _ :: _ :: _ :: _ :: _ :: _, _, h => simp at h
section
variable {prog : Program} {w : World} {A : Around} {E : Value → Shared → Prop} {s : Shared} {ts : Addr → Bool}
/-- the iterators of so many tuples -/
theorem iterAll_n {ls : List Addr} {Q : List Value → Shared → Prop} (hl : ∀ l ∈ ls, ∃ xs, SSq ts s.heap l xs)
    (h : ∀ h' its, its = (List.range ls.length).map (fun k => s.heap.objs.size + k) → h'.objs.size = s.heap.objs.size + ls.length → (∀ (k : Nat) (j l : Addr), its[k]? = some j → ls[k]? = some l → SIt ts h' j l 0) → (∀ c o, s.heap.get? c = some o → h'.get? c = some o) → Q (its.map .ref) { s with heap := h' }) :
    wpAny (model prog w) A (Builtin.SmallTypes.iterAll (ls.map .ref)) Q E s := by
  unfold Builtin.SmallTypes.iterAll
  refine wpAny_bind (wp_forIn (fun k st s' => ∃ h', s' = { s with heap := h' } ∧ st.toList = ((List.range k).map (fun k => s.heap.objs.size + k)).map .ref ∧ h'.objs.size = s.heap.objs.size + k ∧ (∀ (n : Nat) (l : Addr), n < k → ls[n]? = some l → SIt ts h' (s.heap.objs.size + n) l 0) ∧ (∀ c o, s.heap.get? c = some o → h'.get? c = some o)) _ 0 _ _ ?_ ⟨s.heap, rfl, rfl, rfl, fun n l hn => absurd hn (by omega), fun _ _ e => e⟩ ?_)
  · rintro n x st s1 hn ⟨h', rfl, e1, e2, e3, e4⟩
    rw [Nat.zero_add] at e1 e2 e3 ⊢
    obtain ⟨l, hln, rfl⟩ : ∃ l, ls[n]? = some l ∧ x = .ref l := by
      rw [List.getElem?_map] at hn
      cases e : ls[n]? with
      | none => rw [e] at hn; simp at hn
      | some j => rw [e] at hn; simp at hn; exact ⟨j, rfl, hn.symm⟩
    obtain ⟨xs, o, ho, r⟩ := hl l (List.mem_of_getElem? hln)
    have ht : SSq ts (Shared.heap { s with heap := h' }) l xs := ⟨o, e4 _ _ ho, r⟩
    refine wpAny_bind (wpAny_holding (iterS ht ?_))
    refine wpAny_pure ⟨_, rfl, _, rfl, ?_, ?_, fun q l' hq hl' => ?_, fun c o e => Heap.get?_push_of_some _ (e4 c o e)⟩
    · show (st.push (.ref h'.objs.size)).toList = _
      rw [Array.toList_push, e1, e2, List.range_succ]
      simp
    · show (h'.push _).objs.size = _
      rw [Heap.size_push, e2]
      rfl
    · by_cases hqn : q < n
      · obtain ⟨o, e, r⟩ := e3 q l' hqn hl'
        exact ⟨o, Heap.get?_push_of_some _ e, r⟩
      · have : q = n := by omega
        subst this
        rw [hln] at hl'; cases hl'
        have g : (h'.push (itO ts l)).get? h'.objs.size = some _ := Heap.get?_push_size _ rfl
        rw [e2] at g
        exact ⟨_, g, rfl, rfl⟩
  · rintro st s1 ⟨h', rfl, e1, e2, e3, e4⟩
    simp only [List.length_map, Nat.zero_add] at e1 e2 e3
    refine wpAny_pure ?_
    rw [e1]
    refine h h' _ rfl e2 (fun k j l hj hl' => ?_) e4
    have hk := (List.getElem?_eq_some_iff.mp hl').1
    rw [List.getElem?_map, List.getElem?_range hk] at hj
    simp at hj
    subst hj
    exact e3 k l hk hl'
end
variable {ts : Addr → Bool}
def itsAt (n k : Nat) : List Addr := (List.range k).map fun j => n + j
/-- such a zip, as it is made -/
structure ZNew (ts : Addr → Bool) (h0 h : Heap) (ls : List Addr) : Prop where
  st : ZS ts h (h0.objs.size + ls.length + 2) (h0.objs.size + ls.length) (h0.objs.size + ls.length + 1) (itsAt h0.objs.size ls.length) ls 0
  up : ∀ c o, h0.get? c = some o → h.get? c = some o
  zp : ∃ f0 b, IsZipG h (h0.objs.size + ls.length + 2) (h0.objs.size + ls.length) (h0.objs.size + ls.length + 1) f0 b
abbrev zt (h : Heap) (xs : List Value) : Heap := h.push { cls := .type "tuple", data := .seq xs.toArray }
abbrev zz (h : Heap) (TI TO : Addr) : Heap := h.push { cls := .type "zip", data := .fields #[.none, .bool false, .bool false, .ref TI, .ref TO] }
theorem znew {h0 h' : Heap} {ls : List Addr} (hsz : h'.objs.size = h0.objs.size + ls.length) (hit : ∀ (k : Nat) (j l : Addr), (itsAt h0.objs.size ls.length)[k]? = some j → ls[k]? = some l → SIt ts h' j l 0) (up : ∀ c o, h0.get? c = some o → h'.get? c = some o) {A B : List Value} (hA : A = (itsAt h0.objs.size ls.length).map .ref) (hB : B.length = ls.length) :
    (zt (zt h' A) B).objs.size = h0.objs.size + ls.length + 2 ∧ ZNew ts h0 (zz (zt (zt h' A) B) h'.objs.size (zt h' A).objs.size) ls := by
  have s1 : (zt h' A).objs.size = h0.objs.size + ls.length + 1 := by rw [Heap.size_push, hsz]
  have s2 : (zt (zt h' A) B).objs.size = h0.objs.size + ls.length + 2 := by rw [Heap.size_push, s1]
  have g0 : (zz (zt (zt h' A) B) h'.objs.size (zt h' A).objs.size).get? h'.objs.size = some { cls := .type "tuple", data := .seq A.toArray } := Heap.get?_push_of_some _ (Heap.get?_push_of_some _ (Heap.get?_push_size _ rfl))
  have g1 : (zz (zt (zt h' A) B) h'.objs.size (zt h' A).objs.size).get? (zt h' A).objs.size = some { cls := .type "tuple", data := .seq B.toArray } := Heap.get?_push_of_some _ (Heap.get?_push_size _ rfl)
  have g2 : (zz (zt (zt h' A) B) h'.objs.size (zt h' A).objs.size).get? (zt (zt h' A) B).objs.size = some { cls := .type "zip", data := .fields #[.none, .bool false, .bool false, .ref h'.objs.size, .ref (zt h' A).objs.size] } := Heap.get?_push_size _ rfl
  have uu : ∀ c o, h'.get? c = some o → (zz (zt (zt h' A) B) h'.objs.size (zt h' A).objs.size).get? c = some o := fun c o e => Heap.get?_push_of_some _ (Heap.get?_push_of_some _ (Heap.get?_push_of_some _ e))
  refine ⟨s2, ?_⟩
  generalize zz (zt (zt h' A) B) h'.objs.size (zt h' A).objs.size = hh at *
  rw [s2, s1, hsz] at g2
  rw [s1] at g1
  rw [hsz] at g0
  subst hA
  exact ⟨⟨⟨_, _, g2, .inl rfl⟩, g0, ⟨B, by simp [itsAt, hB], g1⟩, fun k j l hj hl => by
    obtain ⟨o, e, r⟩ := hit k j l hj hl
    exact ⟨o, uu _ _ e, r⟩⟩, fun c o e => uu _ _ (up c o e), ⟨_, _, g2⟩⟩
theorem meets_n (ls : List Addr) :
    Meets (Builtin.«zip.__new__» ⟨.type "zip" :: ls.map .ref, []⟩) (fun _ R s => (∀ l ∈ ls, ∃ xs, SSq ts s.heap l xs) ∧ ls.length ≤ 100 ∧
      ∀ h', ZNew ts s.heap h' ls → R (.ok (.ret (.ref (s.heap.objs.size + ls.length + 2)))) { s with heap := h' }) :=
  .of_wp fun prog w A R s h => by
    have hsub := sub_zip
    obtain ⟨hl, hn, h⟩ := h
    wp_walk using iterAll_n hl
    intro h' its hits hsz hit up
    subst hits
    have sl : ls.length ≤ sizeLine := Nat.le_trans hn (by decide)
    refine wpAny_bind (wpAny_newTuple ?_ (by simpa using sl))
    refine wpAny_bind (wpAny_newTuple ?_ (by simpa using sl))
    refine wpAny_bind ?_
    unfold Builtin.SmallTypes.newRecord
    refine wpAny_newObj_type ?_ (by simp only [sizeOk, sizeLine_eq]; show 5 ≤ 16777216 + 2; decide)
    refine wpAny_pure ⟨_, rfl, ?_⟩
    obtain ⟨z1, z2⟩ := znew (h0 := s.heap) (ls := ls) hsz hit up (A := (itsAt s.heap.objs.size ls.length).map .ref) (B := ((itsAt s.heap.objs.size ls.length).map Value.ref).map fun _ => Value.none) rfl (by simp [itsAt])
    have := h _ z2
    rw [← z1] at this
    exact this
section
variable {prog : Program} {w : World} {A : Around} {E : Value → Shared → Prop} {s : Shared} {ts : Addr → Bool}
/-- zip(..) of one to six tuples -/
theorem call_zipN {ls : List Addr} {Q : Value → Shared → Prop} (h1 : 1 ≤ ls.length) (h6 : ls.length ≤ 6) (hl : ∀ l ∈ ls, ∃ xs, SSq ts s.heap l xs) (h : ∀ h', ZNew ts s.heap h' ls → Q (.ref (s.heap.objs.size + ls.length + 2)) { s with heap := h' }) :
    wpAny (model prog w) A (call (.type "zip") (ls.map .ref)) Q E s := by
  refine callType_new F.called_zip (by decide) (typeCall_n _ (by simpa using h1) (by simpa using h6)) (newCall_n _ (by simpa using h1) (by simpa using h6)) (fun obj => init_n _ (by simpa using h1) (by simpa using h6) obj) F.entry_zip_new (meets_n ls) ⟨hl, by omega, fun h' Z => ?_⟩
  obtain ⟨f0, b, hz⟩ := Z.zp
  exact ⟨⟨_, hz, rfl⟩, h h' Z⟩
theorem zipN_end {z TI TO : Addr} {its ls : List Addr} {i : Nat} {Q : Fin → Shared → Prop} (hh : A.handled = none) (D : ZA z TI TO its ls) (Z : ZS ts s.heap z TI TO its ls i)
    (hr : ∀ l ∈ ls, ∃ xs, SSq ts s.heap l xs ∧ xs[i]? = none)
    (hE : ∀ h' e, (∀ c o, c ∉ z :: TI :: TO :: its → s.heap.get? c = some o → h'.get? c = some o) → (∃ o, h'.get? e = some o ∧ o.cls = .type "StopIteration") → E (.ref e) { s with heap := h' }) :
    wpAny (model prog w) A (Builtin.«zip.__next__» ⟨[.ref z], []⟩) Q E s := by
  obtain ⟨f0, b, hz, hf⟩ := Z.z
  obtain ⟨ks, hks, hTO⟩ := Z.to
  obtain ⟨j, its', rfl⟩ : ∃ j its', its = j :: its' := by
    cases e : its with
    | nil => exact absurd e D.ne
    | cons a r => exact ⟨a, r, rfl⟩
  obtain ⟨l, ls', rfl⟩ : ∃ l ls', ls = l :: ls' := by
    cases e : ls with
    | nil => have := D.len; rw [e] at this; simp at this
    | cons a r => exact ⟨a, r, rfl⟩
  obtain ⟨xs, ht, hx⟩ := hr l (by simp)
  obtain ⟨j1, j2, j3⟩ := D.iz j (by simp)
  obtain ⟨l1, l2, l3, l4⟩ := D.lz l (by simp)
  have lj : l ≠ j := fun e => l4 (by simp [e])
  have ij := Z.it 0 j l rfl rfl
  show wpAny _ _ (field (.ref z) 2 >>= _) _ _ _
  refine wpAny_bind (wpAny_field hz rfl (x := .bool false) rfl ?_)
  show wpAny _ _ (field (.ref z) 3 >>= _) _ _ _
  refine wpAny_bind (wpAny_field hz rfl (x := .ref TI) rfl ?_)
  refine wpAny_bind (wpAny_seqItems Z.ti rfl ?_)
  dsimp only
  rw [if_neg (by simp)]
  refine wpAny_bind (wpAny_mono (isFree hz hf) (fun r s1 hr1 => ?_) fun _ _ z => z)
  obtain ⟨h0, f0, b, rfl, hz0, sb0, hint⟩ := hr1
  have ij0 : SIt ts h0 j l i := by obtain ⟨o, e, r⟩ := ij; exact ⟨o, (sb0.2 _ j1).trans e, r⟩
  have ht0 : SSq ts h0 l xs := by obtain ⟨o, e, r⟩ := ht; exact ⟨o, (sb0.2 _ l1).trans e, r⟩
  cases r with
  | true =>
    rw [if_pos rfl]
    refine wpAny_bind (wpAny_rule ?_)
    refine wpAny_bind (wpAny_field hz0 rfl (x := .ref TO) rfl ?_)
    dsimp only
    refine wpAny_bind (wpAny_setField_rec hz0 (by simp) fun h₁ hz₁ hs₁ => ?_)
    replace hz₁ : IsZipG h₁ z TI TO .ellipsis b := hz₁
    have ij1 : SIt ts h₁ j l i := by obtain ⟨o, e, r⟩ := ij0; exact ⟨o, (hs₁.2 _ j1).trans e, r⟩
    have ht1 : SSq ts h₁ l xs := by obtain ⟨o, e, r⟩ := ht0; exact ⟨o, (hs₁.2 _ l1).trans e, r⟩
    refine wpAny_bind ?_
    rw [List.map_cons, List.zipIdx_cons]
    refine wp_forIn_raise ?_
    refine wpAny_bind (wpAny_onRaise ?_)
    show wpAny _ _ (Builtin.SmallTypes.nextOf (.ref j) >>= _) _ _ _
    refine wpAny_bind (nextS_end hh ij1 ht1 hx fun h₂ e hs₂ he => ?_)
    obtain ⟨oe, hoe, hce⟩ := he
    have hz₂ : IsZipG h₂ z TI TO .ellipsis b := hs₂ _ _ (Ne.symm j1) hz₁
    have hez : e ≠ z := fun x => by subst x; rw [hz₂] at hoe; cases hoe; simp at hce
    refine wpAny_setField_rec hz₂ (by simp) fun h₃ _ hs₃ => hE h₃ e (fun c o hc x => ?_) ⟨oe, hs₃.extBut _ _ hez hoe, hce⟩
    have c1 : c ≠ z := fun q => hc (by simp [q])
    have c2 : c ≠ j := fun q => hc (by simp [q])
    exact hs₃.extBut _ _ c1 (hs₂ _ _ c2 (hs₁.extBut _ _ c1 (sb0.extBut _ _ c1 x)))
  | false =>
    rw [if_neg Bool.false_ne_true]
    rw [List.forIn_toArray, List.map_cons]
    refine wpAny_bind (wp_forIn_raise ?_)
    refine wpAny_bind (wpAny_holding ?_)
    show wpAny _ _ (Builtin.SmallTypes.nextOf (.ref j) >>= _) _ _ _
    refine wpAny_bind (nextS_end hh ij0 ht0 hx fun h₂ e hs₂ he => hE h₂ e (fun c o hc x => ?_) he)
    have c1 : c ≠ z := fun q => hc (by simp [q])
    have c2 : c ≠ j := fun q => hc (by simp [q])
    exact hs₂ _ _ c2 (sb0.extBut _ _ c1 x)
theorem pyNextN_item {z TI TO : Addr} {its ls : List Addr} {i : Nat} {row : List Value} {Q : Option Value → Shared → Prop} (D : ZA z TI TO its ls) (Z : ZS ts s.heap z TI TO its ls i)
    (hr : ∀ (k : Nat) (l : Addr), ls[k]? = some l → ∃ xs x, SSq ts s.heap l xs ∧ xs[i]? = some x ∧ row[k]? = some x) (hrl : row.length = its.length)
    (hQ : ∀ h', ZS ts h' z TI TO its ls (i + 1) → IsTupN h' s.heap.objs.size row → h'.objs.size = s.heap.objs.size + 1 → (∀ c o, c ∉ z :: TI :: TO :: its → s.heap.get? c = some o → h'.get? c = some o) → Q (some (.ref s.heap.objs.size)) { s with heap := h' }) :
    wpAny (model prog w) A (pyNext (.ref z)) Q E s := by
  obtain ⟨f0, b, hz, hf⟩ := Z.z
  have hT : s.TypeIs (.ref z) "zip" := ⟨_, hz, rfl⟩
  unfold pyNext
  exact wpAny_bind (wpAny_attempt (wpAny_callSpecial?_slot (name := Str.ofString "__next__") hT F.slot_zip_next
    (wpAny_call_entry F.slot_zip_next hT F.entry_zip_next (zipN_item D Z hr hrl fun h' a1 a2 a3 a4 => wpAny_pure (hQ h' a1 a2 a3 a4)) (F.args_zip_next_1 _))))
theorem pyNextN_end {z TI TO : Addr} {its ls : List Addr} {i : Nat} {Q : Option Value → Shared → Prop} (hh : A.handled = none) (D : ZA z TI TO its ls) (Z : ZS ts s.heap z TI TO its ls i)
    (hr : ∀ l ∈ ls, ∃ xs, SSq ts s.heap l xs ∧ xs[i]? = none)
    (hQ : ∀ h', (∀ c o, c ∉ z :: TI :: TO :: its → s.heap.get? c = some o → h'.get? c = some o) → Q none { s with heap := h' }) : wpAny (model prog w) A (pyNext (.ref z)) Q E s := by
  obtain ⟨f0, b, hz, hf⟩ := Z.z
  have hT : s.TypeIs (.ref z) "zip" := ⟨_, hz, rfl⟩
  unfold pyNext
  refine wpAny_bind (wpAny_attempt (wpAny_callSpecial?_slot (name := Str.ofString "__next__") hT F.slot_zip_next
    (wpAny_call_entry F.slot_zip_next hT F.entry_zip_next (zipN_end hh D Z hr fun h' e hk he => ?_) (F.args_zip_next_1 _))))
  obtain ⟨o, ho, hc⟩ := he
  refine wpAny_bind (wpAny_isInstance (T := "StopIteration") (b := true) ⟨o, ho, hc⟩ isSubtype_stop ?_)
  exact wpAny_pure (hQ _ hk)
theorem pyIterN {z TI TO : Addr} {f0 : Value} {b : Bool} {Q : Value → Shared → Prop} (hz : IsZipG s.heap z TI TO f0 b) (h : Q (.ref z) s) : wpAny (model prog w) A (pyIter (.ref z)) Q E s := by
  have hT : s.TypeIs (.ref z) "zip" := ⟨_, hz, rfl⟩
  refine wpAny_pyIter_slot hT F.slot_zip_iter (wpAny_call_entry F.slot_zip_iter hT F.entry_zip_iter ?_ (F.args_zip_iter_1 _))
  show wpAny _ _ (ret (.ref z)) _ _ s
  exact wpAny_pure ⟨_, rfl, "zip", _, hT, F.slot_zip_next.lookup, h⟩
end
end WZ
set_option maxHeartbeats 2000000
/-! WiG: a loop or a comprehension over zip(*x), the target one name. -/
namespace Wg
open PySem PySem.Spec PyProof.Rows L2 WZ
/-- so many tuples at once, the items in new tuples -/
def ItzN (K : PySem.W.Frag) (as : List Addr) : It :=
  ⟨fun i H => ∃ row : List V, row.length = as.length ∧ ∀ (k : Nat) (a : Addr), as[k]? = some a → ∃ xs x, SqT K H a xs ∧ xs[i]? = some x ∧ row[k]? = some x,
    fun i H v H' => ∃ T o row, v = .ref T ∧ H T = none ∧ Obj.dict o = none ∧ H' = upd H T (.frz o (.tup row)) ∧ row.length = as.length ∧ ∀ (k : Nat) (a : Addr) (xs : List V), as[k]? = some a → SqT K H a xs → ∃ x, xs[i]? = some x ∧ row[k]? = some x,
    fun i H => ∀ a ∈ as, ∃ xs : List V, SqT K H a xs ∧ xs.length ≤ i⟩
theorem zrow {X : Cx} {pins : List (Addr × Obj)} {σ : L2.St} {H : Hp} {s : Shared} {i : Nat} (I : Inv X pins σ H s) : ∀ (as : List Addr) (row : List V), row.length = as.length → (∀ (k : Nat) (a : Addr), as[k]? = some a → ∃ xs x, SqT X.K H a xs ∧ xs[i]? = some x ∧ row[k]? = some x) →
    ∃ us : List Value, Vals row us ∧ us.length = as.length ∧ ∀ (k : Nat) (l : Addr), as[k]? = some l → ∃ xs x, SSq (fun _ => true) s.heap l xs ∧ xs[i]? = some x ∧ us[k]? = some x
  | [], [], _, _ => ⟨[], .nil, rfl, fun k l h => by simp at h⟩
  | a :: as, r :: row, hl, h => by
    obtain ⟨us, h1, h2, h3⟩ := zrow I as row (by simpa using hl) fun k b hb => by simpa using h (k + 1) b (by simpa using hb)
    obtain ⟨xs, x, hq, hx, hr⟩ := h 0 a rfl
    simp at hr
    subst hr
    obtain ⟨its, rv, p, _⟩ := I.tuple hq
    obtain ⟨u, hu, ru⟩ := rv.get hx
    refine ⟨u :: us, .cons ru h1, by simp [h2], fun k l hk => ?_⟩
    cases k with
    | zero =>
      simp at hk
      subst hk
      exact ⟨its.toArray, u, p, by simpa using hu, rfl⟩
    | succ k =>
      simp at hk
      simpa using h3 k l hk
  | [], _ :: _, hl, _ => by simp at hl
  | _ :: _, [], hl, _ => by simp at hl
theorem turn_zipN {P : Program} {w : World} {K : PySem.W.Frag} {x : Str} {p : Pos} {as its : List Addr} {z TI TO : Addr} (D : ZA z TI TO its as) :
    Turn P w K (.Name x p) (ItzN K as) (z :: TI :: TO :: its) z (fun i h => ZS (fun _ => true) h z TI TO its as i) where
  mem := by simp
  obj := fun i h st c hc => by
    obtain ⟨f0, b, hz, _⟩ := st.z
    obtain ⟨ks, _, hTO⟩ := st.to
    rcases List.mem_cons.mp hc with rfl | hc
    · exact ⟨_, hz, fun v q => nomatch q⟩
    rcases List.mem_cons.mp hc with rfl | hc
    · exact ⟨_, st.ti, fun v q => nomatch q⟩
    rcases List.mem_cons.mp hc with rfl | hc
    · exact ⟨_, hTO, fun v q => nomatch q⟩
    obtain ⟨k, hk, e⟩ := List.mem_iff_getElem.mp hc
    have hk2 : k < as.length := by rw [← D.len]; exact hk
    obtain ⟨o, e1, _, d1⟩ := st.it k c as[k] (by rw [List.getElem?_eq_getElem hk, e]) (List.getElem?_eq_getElem hk2)
    exact ⟨o, e1, fun v q => by rw [d1] at q; cases q⟩
  keep := fun i h h' st k => st.keep D.len k
  item := by
    intro X hP hw hK hc i pins s σ H E I hf st hg
    subst hP hw hK
    obtain ⟨row, hl, hrow⟩ := hg
    obtain ⟨us, rv, ul, hus⟩ := zrow I as row hl hrow
    have lt : ∀ c ∈ z :: TI :: TO :: its, c < s.heap.objs.size := fun c hc => by
      obtain ⟨f0, b, hz, _⟩ := st.z
      obtain ⟨ks, _, hTO⟩ := st.to
      rcases List.mem_cons.mp hc with rfl | hc
      · exact Heap.lt_size hz
      rcases List.mem_cons.mp hc with rfl | hc
      · exact Heap.lt_size st.ti
      rcases List.mem_cons.mp hc with rfl | hc
      · exact Heap.lt_size hTO
      obtain ⟨k, hk, e⟩ := List.mem_iff_getElem.mp hc
      have hk2 : k < as.length := by rw [← D.len]; exact hk
      obtain ⟨o, e1, _, d1⟩ := st.it k c as[k] (by rw [List.getElem?_eq_getElem hk, e]) (List.getElem?_eq_getElem hk2)
      exact Heap.lt_size e1
    refine pyNextN_item D st hus (ul.trans D.len.symm) fun h' st' hT hsz hk => ?_
    have few : us.length ≤ 1000 := by rw [ul, ← D.len]; exact D.few
    have new : ObjOk X.prog X.w (upd H s.heap.objs.size (.frz { cls := .type "tuple", data := .seq us.toArray } (.tup row))) h' s.heap.objs.size (.frz { cls := .type "tuple", data := .seq us.toArray } (.tup row)) :=
      ⟨hT, by rw [hl, ← ul]; exact Nat.le_trans few (by decide), us, rv, ⟨_, hT, rfl, _, rfl⟩⟩
    have I1 : Inv X pins σ (upd H s.heap.objs.size (.frz { cls := .type "tuple", data := .seq us.toArray } (.tup row))) { s with heap := h' } :=
      I.turnedNew (t' := s.toks) (ch := z :: TI :: TO :: its) (fun c o hb q => hk c o hb q) hf (Nat.le_refl _) new
    refine ⟨_, rfl, wpAny_pure ⟨.ref s.heap.objs.size, _, I1, rfl, ⟨_, _, row, rfl, I.hok.fresh (Nat.le_refl _), rfl, rfl, hl, fun k a xs ha hq => ?_⟩, st', fun c hcm => ?_⟩⟩
    · obtain ⟨ys, y, h1, h2, h3⟩ := hrow k a ha
      rw [I.tuple_inj hq h1]
      exact ⟨y, h2, h3⟩
    · rw [upd_ne (Nat.ne_of_lt (lt c hcm))]
      exact (hf c hcm).1
  done := by
    intro X hP hw hK hc i pins s σ H E I hf st hg
    subst hP hw hK
    refine pyNextN_end (I.ok.hd hc) D st (fun l hl => ?_) fun h' hk => ⟨rfl, I.turnedL (t' := s.toks) (ch := z :: TI :: TO :: its) hk hf⟩
    obtain ⟨xs, hq, hx⟩ := hg l hl
    obtain ⟨its', rv, p, _⟩ := I.tuple hq
    have l1 := rv.length
    exact ⟨_, p, by simp; omega⟩
  self := fun A i s Q E st h => by
    obtain ⟨f0, b, hz, _⟩ := st.z
    exact pyIterN hz h
theorem za_new {n : Nat} {as : List Addr} (h1 : 1 ≤ as.length) (h6 : as.length ≤ 6) (lt : ∀ a ∈ as, a < n) : ZA (n + as.length + 2) (n + as.length) (n + as.length + 1) (itsAt n as.length) as := by
  have mem : ∀ i ∈ itsAt n as.length, ∃ j : Nat, j < as.length ∧ i = n + j := fun i hi => by
    simp only [itsAt, List.mem_map, List.mem_range] at hi
    obtain ⟨j, hj, rfl⟩ := hi
    exact ⟨j, hj, rfl⟩
  have neN : ∀ {a b : Nat}, a ≠ b → @Ne Addr a b := fun h => h
  constructor
  · exact neN (by omega)
  · exact neN (by omega)
  · exact neN (by omega)
  · unfold itsAt
    refine List.Pairwise.map _ (fun a b h => ?_) List.nodup_range
    have h' : @Ne Nat a b := h
    exact neN (by omega)
  · intro i hi
    obtain ⟨j, hj, rfl⟩ := mem i hi
    exact ⟨neN (by omega), neN (by omega), neN (by omega)⟩
  · intro l hl
    have q : @LT.lt Nat instLTNat l n := lt l hl
    refine ⟨neN (by omega), neN (by omega), neN (by omega), fun h => ?_⟩
    obtain ⟨j, hj, e⟩ := mem l h
    have e' : @Eq Nat l (n + j) := e
    omega
  · simp [itsAt]
  · intro h
    have := congrArg List.length h
    simp [itsAt] at this
    rw [this] at h1
    simp at h1
  · simp only [itsAt, List.length_map, List.length_range]
    omega
def iZipN (K : PySem.W.Frag) (te : TE) : L2.TI := fun σ H R => te σ H fun y H1 => ∃ a as, y = .ref a ∧ SqT K H1 a (as.map .ref) ∧ 1 ≤ as.length ∧ as.length ≤ 6 ∧ (∀ l ∈ as, ∃ xs, SqT K H1 l xs) ∧ R (ItzN K as) H1
theorem looks_type {M : Model} {h : Heap} {T : String} : ∃ k, (k = Keeper.frame ∨ k = Keeper.machine ∨ k = Keeper.boundFrame) ∧ PySem.W.Looks M h (keeperOf (.type T)) k :=
  ⟨.machine, .inr (.inl rfl), fun A Q E s k q => by unfold keeperOf; exact wpAny_pure q⟩
theorem pi_zipN {X : Cx} {e : Expr} {te : TE} {p pos tpos sp : Pos} {x : Str} (hg : Gl X "zip") (hm : X.mg "zip" = none) (he : PE X e te) (hst : starEach [.Starred e sp] X.env = [(true, eval e X.env)] := by rfl) :
    PI X (.Name x tpos) (.Call (.Name "zip" p) [.Starred e sp] [] pos) (iZipN X.K te) := by
  refine ⟨fun pins s σ H R I h => ?_⟩
  refine Call_ (ld_blt I hg hm PyProof.Rows.boot_zip ?_)
  rw [hst]
  refine PySem.W.ks_call (P := fun _ => True) rfl (fun _ _ => looks_type) (PySem.W.ks_lone (thn (he.run pins s σ H _ I h) fun v s1 ⟨y, H1, I1, ry, q⟩ => ?_))
  obtain ⟨a, as, rfl, hq, h1, h6, hl, q⟩ := q
  obtain rfl : v = Value.ref a := ry
  refine StX.star_any I1 (.inl hq) fun us s2 I2 rv => ⟨trivial, ?_⟩
  have e1 : us = as.map Value.ref := by
    clear hq hl q h1 h6
    induction as generalizing us with
    | nil => cases rv; rfl
    | cons b as ih =>
      cases rv with
      | cons r rr =>
        cases r
        rw [ih _ rr]
        rfl
  subst e1
  have tl : ∀ l ∈ as, ∃ xs, SSq (fun _ => true) s2.heap l xs := fun l hm => by
    obtain ⟨xs, h⟩ := hl l hm
    obtain ⟨its, _, p, _⟩ := I2.tuple h
    exact ⟨_, p⟩
  have lt : ∀ l ∈ as, l < s2.heap.objs.size := fun l hm => by
    obtain ⟨xs, o, ho, _⟩ := tl l hm
    exact Heap.lt_size ho
  refine call_zipN h1 h6 tl fun h' Z => ?_
  obtain ⟨f0, b, hz⟩ := Z.zp
  refine pyIterN hz ?_
  have I3 : Inv X pins σ H1 { s2 with heap := h' } := I2.kept (t' := s2.toks) Z.up
  refine ⟨s2.heap.objs.size + as.length + 2, (s2.heap.objs.size + as.length + 2) :: (s2.heap.objs.size + as.length) :: (s2.heap.objs.size + as.length + 1) :: itsAt s2.heap.objs.size as.length, _, _, H1, rfl, I3, turn_zipN (za_new h1 h6 lt), Z.st, fun c hcm => ?_, q⟩
  have hle : s2.heap.objs.size ≤ c := by
    rcases List.mem_cons.mp hcm with rfl | hc
    · exact Nat.le_trans (Nat.le_add_right _ _) (Nat.le_add_right _ _)
    rcases List.mem_cons.mp hc with rfl | hc
    · exact Nat.le_add_right _ _
    rcases List.mem_cons.mp hc with rfl | hc
    · exact Nat.le_trans (Nat.le_add_right _ _) (Nat.le_add_right _ _)
    simp only [itsAt, List.mem_map, List.mem_range] at hc
    obtain ⟨j, hj, rfl⟩ := hc
    exact Nat.le_add_right _ _
  exact I2.fpOk hle (I2.hok.fresh hle)
/-! ### in the interpreter's terms -/
inductive ZR (K : PySem.W.Frag) (ι : Nat → Addr) (n : Nat) (H : Hp) : List (List IV) → List Addr → Prop
  | nil : ZR K ι n H [] []
  | cons {xs : List IV} {a : Addr} {vs : List V} {xss : List (List IV)} {as : List Addr} (h1 : SqT K H a vs) (h2 : RVs K ι n H xs vs) (h3 : ZR K ι n H xss as) : ZR K ι n H (xs :: xss) (a :: as)
theorem ZR.length {K : PySem.W.Frag} {ι : Nat → Addr} {n : Nat} {H : Hp} : ∀ {xss as}, ZR K ι n H xss as → as.length = xss.length
  | _, _, .nil => rfl
  | _, _, .cons _ _ h => by simp [ZR.length h]
theorem ZR.step {K : PySem.W.Frag} {cm : Cm} {ι ι' : Nat → Addr} {S S' : Sto} {H H' : Hp} (r : Rel K cm ι S H) (st : Step ι S H ι' S' H') : ∀ {xss as}, ZR K ι S.length H xss as → ZR K ι' S'.length H' xss as
  | _, _, .nil => .nil
  | _, _, .cons h1 h2 h3 => .cons (SqT.step r st h1) (h2.step r st) (ZR.step r st h3)
theorem ZR.tuple {K : PySem.W.Frag} {ι : Nat → Addr} {n : Nat} {H : Hp} : ∀ {xss as}, ZR K ι n H xss as → ∀ l ∈ as, ∃ vs, SqT K H l vs
  | _, _, .nil, l, hl => by simp at hl
  | _, _, .cons h1 h2 h3, l, hl => by
    rcases List.mem_cons.mp hl with rfl | hl
    · exact ⟨_, h1⟩
    · exact ZR.tuple h3 l hl
theorem zr_of {K : PySem.W.Frag} {ι : Nat → Addr} {n : Nat} {H : Hp} : ∀ {ts : List IV} {xss : List (List IV)} {vs : List V}, optAll tupsOf ts = some xss → RVs K ι n H ts vs → ∃ as, vs = as.map .ref ∧ ZR K ι n H xss as
  | [], xss, vs, e, h => by
    simp only [optAll, Option.some.injEq] at e
    subst e
    simp only [RVs] at h
    subst h
    exact ⟨[], rfl, .nil⟩
  | t :: ts, xss, vs, e, h => by
    obtain ⟨x, r, rfl, h1, h2⟩ := optAll_cons e
    obtain ⟨v, rest, rfl, k1, k2⟩ := h.uncons
    obtain ⟨as, rfl, z⟩ := zr_of h2 k2
    cases t with
    | tup xs =>
      simp only [tupsOf, Option.some.injEq] at h1
      subst h1
      simp only [RV] at k1
      obtain ⟨a, ws, rfl, q1, q2⟩ := k1
      exact ⟨a :: as, rfl, .cons q1.toT q2 z⟩
    | _ => simp [tupsOf] at h1
theorem row_go {K : PySem.W.Frag} {ι : Nat → Addr} {n m i : Nat} {H : Hp} (hi : i < m) : ∀ {xss as}, ZR K ι n H xss as → (∀ xs ∈ xss, xs.length = m) → ∃ row : List V, row.length = as.length ∧ ∀ (k : Nat) (a : Addr), as[k]? = some a → ∃ xs x, SqT K H a xs ∧ xs[i]? = some x ∧ row[k]? = some x
  | _, _, .nil, _ => ⟨[], rfl, fun k a h => by simp at h⟩
  | _, _, .cons (xs := xs) (vs := vs) h1 h2 h3, hl => by
    obtain ⟨row, r1, r2⟩ := row_go hi h3 fun ys hy => hl ys (List.mem_cons_of_mem _ hy)
    have hlt : i < xs.length := by rw [hl xs (by simp)]; exact hi
    have hx : xs[i]? = some xs[i] := List.getElem?_eq_getElem hlt
    obtain ⟨v, hv, _⟩ := h2.get hx
    refine ⟨v :: row, by simp [r1], fun k a ha => ?_⟩
    cases k with
    | zero =>
      simp at ha
      subst ha
      exact ⟨_, v, h1, hv, rfl⟩
    | succ k =>
      simp at ha
      simpa using r2 k a ha
theorem row_rv {K : PySem.W.Frag} {ι : Nat → Addr} {n m i : Nat} {H : Hp} (hi : i < m) : ∀ {xss as}, ZR K ι n H xss as → (∀ xs ∈ xss, xs.length = m) → ∀ row : List V, row.length = as.length → (∀ (k : Nat) (a : Addr) (xs : List V), as[k]? = some a → SqT K H a xs → ∃ x, xs[i]? = some x ∧ row[k]? = some x) → RVs K ι n H (xss.map fun xs => xs.getD i .non) row
  | _, _, .nil, _, row, hr, _ => by
    have : row = [] := by simpa using hr
    subst this
    exact .nil
  | _, _, .cons (xs := xs) (a := a) (vs := vs) h1 h2 h3, hl, row, hr, h => by
    cases row with
    | nil => simp at hr
    | cons r row =>
      have hlt : i < xs.length := by rw [hl xs (by simp)]; exact hi
      have hx : xs[i]? = some xs[i] := List.getElem?_eq_getElem hlt
      obtain ⟨v, hv, rv⟩ := h2.get hx
      obtain ⟨x, q1, q2⟩ := h 0 a vs rfl h1
      rw [hv] at q1; cases q1
      simp at q2
      subst q2
      refine .cons ?_ (row_rv hi h3 (fun ys hy => hl ys (List.mem_cons_of_mem _ hy)) row (by simpa using hr) fun k b ys hb hq => by simpa using h (k + 1) b ys (by simpa using hb) hq)
      have e : xs.getD i .non = xs[i] := by simp [List.getD, hx]
      show RV K ι n H (xs.getD i .non) r
      rw [e]
      exact rv
theorem wk_zipN {xss : List (List IV)} {as : List Addr} {K : PySem.W.Frag} {cm : Cm} {ι0 : Nat → Addr} {S0 : Sto} {H0 : Hp} {m : Nat} (r0 : Rel K cm ι0 S0 H0) (z : ZR K ι0 S0.length H0 xss as) (hl : ∀ xs ∈ xss, xs.length = m) : WkOk false K cm ι0 S0 H0 ⟨rowsI xss m, none⟩ (ItzN K as) := by
  have len : (rowsI xss m).length = m := by simp [rowsI]
  refine ⟨fun i ι S H st r h hi => ?_, fun i ι S H x H' iv st r h hi y => ?_, fun i ι S H st r h hi => ?_⟩
  · rw [len] at hi
    exact row_go hi (z.step r0 st) hl
  · have hi' : i < m := by rw [← len]; exact (List.getElem?_eq_some_iff.mp hi).1
    obtain ⟨T, o, row, rfl, hT, hd, rfl, hr, y⟩ := y
    have e : iv = .tup (xss.map fun xs => xs.getD i .non) := by
      simp only [rowsI, List.getElem?_map, List.getElem?_range hi', Option.map_some, Option.some.injEq] at hi
      exact hi.symm
    subst e
    have rv := row_rv hi' (z.step r0 st) hl row hr y
    obtain ⟨r1, st1⟩ := r.upd_new (o := .frz o (.tup row)) hT
    refine ⟨r1, st1, .inl ?_⟩
    simp only [RV]
    exact ⟨T, row, rfl, .inl ⟨o, hd, upd_same⟩, rv.step r st1⟩
  · rw [len] at hi
    have key : ∀ {xss as}, ZR K ι S.length H xss as → (∀ xs ∈ xss, xs.length = m) → ∀ a ∈ as, ∃ xs : List V, SqT K H a xs ∧ xs.length ≤ i := by
      intro xss as z
      induction z with
      | nil => intro _ a ha; simp at ha
      | cons h1 h2 h3 ih =>
        intro hl a ha
        rcases List.mem_cons.mp ha with rfl | ha
        · exact ⟨_, h1, by rw [h2.length, hl _ (by simp)]; exact hi⟩
        · exact ih (fun ys hy => hl ys (List.mem_cons_of_mem _ hy)) a ha
    exact key (z.step r0 st) hl
section
variable {X : Cx} {cm : Cm} {W : WX} {Γ : Gam} {tg e : Expr} {p : PX}
theorem sound_zips {pp pos tpos sp : Pos} {x : Str} (hg : Gl X "zip") (hm : X.mg "zip" = none) (he : PE X e (tI X.K cm W (evE Γ p))) (hst : starEach [.Starred e sp] X.env = [(true, eval e X.env)]) :
    PI X (.Name x tpos) (.Call (.Name "zip" pp) [.Starred e sp] [] pos) (tW (isTup (.Name x tpos)) X.K cm W (evI Γ (.zips p))) := by
  refine PI.weak (pi_zipN hg hm he hst) fun σ H R q => ?_
  obtain ⟨ι, S, τ, rl, rs, o⟩ := q
  refine ⟨ι, S, τ, rl, rs, ?_⟩
  simp only [evI] at o
  cases e1 : evE Γ p τ S with
  | bad => rw [e1] at o; exact o.elim
  | exc c S1 => rw [e1] at o; exact o
  | ok a S1 =>
    rw [e1] at o
    simp only [Rs.bind] at o ⊢
    intro ι1 H1 v st r1 rv
    cases a with
    | tup ts =>
      simp only [zipsV] at o
      cases e2 : optAll tupsOf ts with
      | none => rw [e2] at o; exact o.elim
      | some xss =>
        rw [e2] at o
        dsimp only at o
        cases e3 : sameL xss with
        | false => rw [e3] at o; exact o.elim
        | true =>
          rw [e3] at o
          simp only [RVS, RV] at rv
          obtain ⟨a, vs, rfl, h1, h2⟩ := rv
          obtain ⟨as, rfl, z⟩ := zr_of e2 h2
          simp only [sameL, Bool.and_eq_true, decide_eq_true_eq, List.all_eq_true, beq_iff_eq] at e3
          refine ⟨a, as, rfl, h1.toT, by rw [z.length]; exact e3.1.1, by rw [z.length]; exact e3.1.2, z.tuple, o ι1 H1 _ st r1 (wk_zipN r1 z e3.2)⟩
    | _ => exact o.elim
end
end Wg
set_option maxHeartbeats 2000000
/-! WiM: zip of a tuple and a list of the same length, the target a tuple. -/
namespace WZ
open PySem
section
variable {prog : Program} {w : World} {A : Around} {E : Value → Shared → Prop} {s : Shared} {ts : Addr → Bool}
/-- a loop takes the pair apart: the zip may have its tuple back -/
theorem letGo {elts : List Expr} {kk : Nat} {pos : Pos} {z TI TO T : Addr} {its ls : List Addr} {i : Nat} {Q : Unit → Shared → Prop} (D : ZA z TI TO its ls) (Z : ZS ts s.heap z TI TO its ls i)
    (hQ : ∀ h', ZS ts h' z TI TO its ls i → Heap.SameBut z s.heap h' → Q () { s with heap := h' }) : wpAny (model prog w) A (letOwnedTupleGo (.Tuple elts kk pos) (.ref z) (.ref T)) Q E s := by
  obtain ⟨f0, b, hz, hf⟩ := Z.z
  unfold letOwnedTupleGo
  refine wpAny_bind (wpAny_load hz ?_)
  dsimp only
  split
  · refine wpAny_bind (wpAny_rule ?_)
    show wpAny _ _ (setField (.ref z) 0 .none) Q E s
    refine wpAny_setField_rec hz (by simp) fun h' hz' hs => hQ h' ?_ hs
    replace hz' : IsZipG h' z TI TO .none b := hz'
    obtain ⟨ks, k1, k2⟩ := Z.to
    refine ⟨⟨_, b, hz', .inl rfl⟩, (hs.2 _ D.TIz).trans Z.ti, ⟨ks, k1, (hs.2 _ D.TOz).trans k2⟩, fun k j l hj hl => ?_⟩
    obtain ⟨o, e, r⟩ := Z.it k j l hj hl
    exact ⟨o, (hs.2 _ (D.iz j (List.mem_of_getElem? hj)).1).trans e, r⟩
  · exact wpAny_pure (hQ s.heap Z (Heap.SameBut.refl _ _))
end
end WZ
namespace Wg
open PySem PySem.Spec PyProof.Rows L2 WZ
/-- the tuple at a, the list at b as they stand at each turn -/
def ItzM (K : PySem.W.Frag) (a b : Addr) : It :=
  ⟨fun i H => ∃ (xs ys : List V) (x y : V), SqT K H a xs ∧ SqL K H b ys ∧ xs[i]? = some x ∧ ys[i]? = some y,
    fun i H v H' => ∃ T o x y, v = .ref T ∧ H T = none ∧ H' = upd H T (.frz o (.tup [x, y])) ∧ (∀ xs, SqT K H a xs → xs[i]? = some x) ∧ ∀ ys, SqL K H b ys → ys[i]? = some y,
    fun i H => ∃ xs ys : List V, SqT K H a xs ∧ SqL K H b ys ∧ xs.length ≤ i ∧ ys.length ≤ i⟩
/-- a is the tuple of the two -/
abbrev tsM (a : Addr) : Addr → Bool := fun l => decide (l = a)
theorem apart_M {X : Cx} {pins : List (Addr × Obj)} {σ : L2.St} {H : Hp} {s : Shared} {a b : Addr} {xs ys : List V} (I : Inv X pins σ H s) (hx : SqT X.K H a xs) (hy : SqL X.K H b ys) :
    ∃ us ws : List Value, Vals xs us ∧ Vals ys ws ∧ SSq (tsM a) s.heap a us.toArray ∧ SSq (tsM a) s.heap b ws.toArray := by
  obtain ⟨us, r1, p1, _⟩ := I.tuple hx
  obtain ⟨ws, r2, p2, _⟩ := I.list hy
  obtain ⟨o1, e1, c1, d1⟩ := p1
  obtain ⟨o2, e2, c2, d2⟩ := p2.isList
  have ne : ¬ b = a := fun q => by
    subst q
    rw [e1] at e2; cases e2
    rw [c1] at c2
    exact absurd c2 (by decide +kernel)
  refine ⟨us, ws, r1, r2, ⟨o1, e1, ?_, d1⟩, ⟨o2, e2, ?_, d2⟩⟩
  · rw [show tsM a a = true from decide_eq_true rfl]; exact c1
  · rw [show tsM a b = false from decide_eq_false ne]; exact c2
theorem turn_zipM {P : Program} {w : World} {K : PySem.W.Frag} {elts : List Expr} {kk : Nat} {tpos : Pos} {a b : Addr} {its : List Addr} {z TI TO : Addr} (D : ZA z TI TO its [a, b]) :
    Turn P w K (.Tuple elts kk tpos) (ItzM K a b) (z :: TI :: TO :: its) z (fun i h => ZS (tsM a) h z TI TO its [a, b] i) where
  mem := by simp
  obj := fun i h st c hc => by
    obtain ⟨f0, bb, hz, _⟩ := st.z
    obtain ⟨ks, _, hTO⟩ := st.to
    rcases List.mem_cons.mp hc with rfl | hc
    · exact ⟨_, hz, fun v q => nomatch q⟩
    rcases List.mem_cons.mp hc with rfl | hc
    · exact ⟨_, st.ti, fun v q => nomatch q⟩
    rcases List.mem_cons.mp hc with rfl | hc
    · exact ⟨_, hTO, fun v q => nomatch q⟩
    obtain ⟨k, hk, e⟩ := List.mem_iff_getElem.mp hc
    have hk2 : k < [a, b].length := by rw [← D.len]; exact hk
    obtain ⟨o, e1, _, d1⟩ := st.it k c [a, b][k] (by rw [List.getElem?_eq_getElem hk, e]) (List.getElem?_eq_getElem hk2)
    exact ⟨o, e1, fun v q => by rw [d1] at q; cases q⟩
  keep := fun i h h' st k => st.keep D.len k
  item := by
    intro X hP hw hK hc i pins s σ H E I hf st hg
    subst hP hw hK
    obtain ⟨xs, ys, x, y, hx, hy, gx, gy⟩ := hg
    obtain ⟨us, ws, rx, ry, px, py⟩ := apart_M I hx hy
    obtain ⟨u, hu, ru⟩ := rx.get gx
    obtain ⟨u2, hu2, ru2⟩ := ry.get gy
    have lt : ∀ c ∈ z :: TI :: TO :: its, c < s.heap.objs.size := fun c hc => by
      obtain ⟨f0, bb, hz, _⟩ := st.z
      obtain ⟨ks, _, hTO⟩ := st.to
      rcases List.mem_cons.mp hc with rfl | hc
      · exact Heap.lt_size hz
      rcases List.mem_cons.mp hc with rfl | hc
      · exact Heap.lt_size st.ti
      rcases List.mem_cons.mp hc with rfl | hc
      · exact Heap.lt_size hTO
      obtain ⟨k, hk, e⟩ := List.mem_iff_getElem.mp hc
      have hk2 : k < [a, b].length := by rw [← D.len]; exact hk
      obtain ⟨o, e1, _, d1⟩ := st.it k c [a, b][k] (by rw [List.getElem?_eq_getElem hk, e]) (List.getElem?_eq_getElem hk2)
      exact Heap.lt_size e1
    have hrow : ∀ (k : Nat) (l : Addr), [a, b][k]? = some l → ∃ vs v, SSq (tsM a) s.heap l vs ∧ vs[i]? = some v ∧ [u, u2][k]? = some v := fun k l hk => by
      match k, hk with
      | 0, hk =>
        have e : a = l := by simpa using hk
        subst e
        exact ⟨_, u, px, by simpa using hu, rfl⟩
      | 1, hk =>
        have e : b = l := by simpa using hk
        subst e
        exact ⟨_, u2, py, by simpa using hu2, rfl⟩
    refine pyNextN_item D st hrow (by rw [D.len]; rfl) fun h' st' hT hsz hk => ?_
    refine ⟨_, rfl, letGo (s := { s with heap := h' }) D st' fun h2 st2 sb => ?_⟩
    have zlt : @LT.lt Nat instLTNat z s.heap.objs.size := lt z (by simp)
    have hT2 : IsTupN h2 s.heap.objs.size [u, u2] := (sb.2 _ (Nat.ne_of_gt zlt)).trans hT
    have new : ObjOk X.prog X.w (upd H s.heap.objs.size (.frz { cls := .type "tuple", data := .seq [u, u2].toArray } (.tup [x, y]))) h2 s.heap.objs.size (.frz { cls := .type "tuple", data := .seq [u, u2].toArray } (.tup [x, y])) :=
      ⟨hT2, by show 2 ≤ sizeLine; decide, [u, u2], .cons ru (.cons ru2 .nil), ⟨_, hT2, rfl, _, rfl⟩⟩
    have I1 : Inv X pins σ (upd H s.heap.objs.size (.frz { cls := .type "tuple", data := .seq [u, u2].toArray } (.tup [x, y]))) { s with heap := h2 } :=
      I.turnedNew (t' := s.toks) (ch := z :: TI :: TO :: its) (fun c o hb q => (sb.2 c (fun q' => hb (by simp [q']))).trans (hk c o hb q)) hf (Nat.le_refl _) new
    refine ⟨.ref s.heap.objs.size, _, I1, rfl, ⟨_, _, x, y, rfl, I.hok.fresh (Nat.le_refl _), rfl, fun l hl => by rw [I.tuple_inj hl hx]; exact gx, fun l hl => by rw [I.list_inj hl hy]; exact gy⟩, st2, fun c hcm => ?_⟩
    rw [upd_ne (Nat.ne_of_lt (lt c hcm))]
    exact (hf c hcm).1
  done := by
    intro X hP hw hK hc i pins s σ H E I hf st hg
    subst hP hw hK
    obtain ⟨xs, ys, hx, hy, gx, gy⟩ := hg
    obtain ⟨us, ws, rx, ry, px, py⟩ := apart_M I hx hy
    have l1 := rx.length
    have l2 := ry.length
    refine pyNextN_end (I.ok.hd hc) D st (fun l hl => ?_) fun h' hk => ⟨rfl, I.turnedL (t' := s.toks) (ch := z :: TI :: TO :: its) hk hf⟩
    simp only [List.mem_cons, List.not_mem_nil, or_false] at hl
    rcases hl with rfl | rfl
    · exact ⟨_, px, by simp; omega⟩
    · exact ⟨_, py, by simp; omega⟩
  self := fun A i s Q E st h => by
    obtain ⟨f0, bb, hz, _⟩ := st.z
    exact pyIterN hz h
theorem za_two {n : Nat} {a b : Addr} (ha : a < n) (hb : b < n) : ZA (n + 2 + 2) (n + 2) (n + 2 + 1) (itsAt n 2) [a, b] := by
  have q1 : @LT.lt Nat instLTNat a n := ha
  have q2 : @LT.lt Nat instLTNat b n := hb
  have neN : ∀ {a b : Nat}, a ≠ b → @Ne Addr a b := fun h => h
  have mem : ∀ i ∈ itsAt n 2, ∃ j : Nat, j < 2 ∧ i = n + j := fun i hi => by
    simp only [itsAt, List.mem_map, List.mem_range] at hi
    obtain ⟨j, hj, rfl⟩ := hi
    exact ⟨j, hj, rfl⟩
  refine ⟨neN (by omega), neN (by omega), neN (by omega), ?_, fun i hi => ?_, fun l hl => ?_, rfl, fun h => by simp [itsAt] at h, by simp [itsAt]⟩
  · unfold itsAt
    refine List.Pairwise.map _ (fun a b h => ?_) List.nodup_range
    have h' : @Ne Nat a b := h
    exact neN (by omega)
  · obtain ⟨j, hj, rfl⟩ := mem i hi
    exact ⟨neN (by omega), neN (by omega), neN (by omega)⟩
  · have q : @LT.lt Nat instLTNat l n := by
      simp only [List.mem_cons, List.not_mem_nil, or_false] at hl
      rcases hl with rfl | rfl
      · exact q1
      · exact q2
    refine ⟨neN (by omega), neN (by omega), neN (by omega), fun h => ?_⟩
    obtain ⟨j, hj, e⟩ := mem l h
    have e' : @Eq Nat l (n + j) := e
    omega
def iZipM (K : PySem.W.Frag) (ta : TA) : L2.TI := fun σ H R => ta σ H fun vs H1 => ∃ a b xs ys, vs = [.ref a, .ref b] ∧ SqT K H1 a xs ∧ SqL K H1 b ys ∧ R (ItzM K a b) H1
theorem pi_zipM {X : Cx} {e e2 : Expr} {ta : TA} {p pos tpos : Pos} {elts : List Expr} {kk : Nat} (hg : Gl X "zip") (hm : X.mg "zip" = none) (ha : PA X [e, e2] ta)
    (hs : starEach [e, e2] X.env = (false, eval e X.env) :: starEach [e2] X.env) (hpl : (backTo pos (starEach [e2] X.env)).any (·.1) = false) : PI X (.Tuple elts kk tpos) (.Call (.Name "zip" p) [e, e2] [] pos) (iZipM X.K ta) := by
  refine ⟨fun pins s σ H R I h => ?_⟩
  refine Call_ (ld_blt I hg hm boot_zip (callWith_type1 (thn (ha.run pos pins s σ H _ I h) fun us s1 hh => ?_) hs hpl))
  obtain ⟨vs, H1, I1, rvs, a, b, xs, ys, rfl, hx, hy, q⟩ := hh
  obtain ⟨ua, ub, e1, ea, eb⟩ : ∃ ua ub, us = [ua, ub] ∧ RelV (.ref a) ua ∧ RelV (.ref b) ub := by
    cases rvs with
    | cons r1 r => cases r with
      | cons r2 r => cases r; exact ⟨_, _, rfl, r1, r2⟩
  subst e1
  obtain rfl : ua = Value.ref a := ea
  obtain rfl : ub = Value.ref b := eb
  obtain ⟨ws, zs, rx, ry, px, py⟩ := apart_M I1 hx hy
  have la : a < s1.heap.objs.size := by obtain ⟨o, ho, _⟩ := px; exact Heap.lt_size ho
  have lb : b < s1.heap.objs.size := by obtain ⟨o, ho, _⟩ := py; exact Heap.lt_size ho
  refine call_zipN (ts := tsM a) (ls := [a, b]) (by simp) (by simp) (fun l hl => ?_) fun h' Z => ?_
  · simp only [List.mem_cons, List.not_mem_nil, or_false] at hl
    rcases hl with rfl | rfl
    · exact ⟨_, px⟩
    · exact ⟨_, py⟩
  · obtain ⟨f0, bb, hz⟩ := Z.zp
    refine pyIterN hz ?_
    have I3 : Inv X pins σ H1 { s1 with heap := h' } := I1.kept (t' := s1.toks) Z.up
    refine ⟨s1.heap.objs.size + 2 + 2, (s1.heap.objs.size + 2 + 2) :: (s1.heap.objs.size + 2) :: (s1.heap.objs.size + 2 + 1) :: itsAt s1.heap.objs.size 2, _, _, H1, rfl, I3, turn_zipM (za_two la lb), Z.st, fun c hcm => ?_, q⟩
    have hle : s1.heap.objs.size ≤ c := by
      rcases List.mem_cons.mp hcm with rfl | hc
      · exact Nat.le_trans (Nat.le_add_right _ _) (Nat.le_add_right _ _)
      rcases List.mem_cons.mp hc with rfl | hc
      · exact Nat.le_add_right _ _
      rcases List.mem_cons.mp hc with rfl | hc
      · exact Nat.le_trans (Nat.le_add_right _ _) (Nat.le_add_right _ _)
      simp only [itsAt, List.mem_map, List.mem_range] at hc
      obtain ⟨j, hj, rfl⟩ := hc
      exact Nat.le_add_right _ _
    exact I1.fpOk hle (I1.hok.fresh hle)
theorem wk_zipM {xs ys : List IV} {a : Addr} {n : Nat} {vs : List V} {K : PySem.W.Frag} {cm : Cm} {ι0 : Nat → Addr} {S0 : Sto} {H0 : Hp} (r0 : Rel K cm ι0 S0 H0) (h1 : SqT K H0 a vs) (h2 : RVs K ι0 S0.length H0 xs vs) (hn : n < S0.length) (hl : xs.length = ys.length) :
    WkOk true K cm ι0 S0 H0 ⟨zipI xs ys, some (n, .lst ys)⟩ (ItzM K a (ι0 n)) := by
  have hlen : (zipI xs ys).length = xs.length := by simp [zipI, hl]
  have cell : ∀ {ι S H}, Step ι0 S0 H0 ι S H → Rel K cm ι S H → holds (some (n, .lst ys)) S = true → ∃ ws, SqL K H (ι0 n) ws ∧ RVs K ι S.length H ys ws := fun st r h => by
    obtain ⟨ws, e, rv⟩ := r.cell n _ (held_cell h)
    rw [st.ext n hn] at e
    exact ⟨ws, .inl (.inl e), rv⟩
  refine ⟨fun i ι S H st r h hi => ?_, fun i ι S H x H' iv st r h hi y => ?_, fun i ι S H st r h hi => ?_⟩
  · rw [hlen] at hi
    obtain ⟨ws, q1, q2⟩ := cell st r h
    obtain ⟨v, hv, _⟩ := h2.get (i := i) (List.getElem?_eq_getElem (by omega))
    obtain ⟨v', hv', _⟩ := q2.get (i := i) (List.getElem?_eq_getElem (by omega))
    exact ⟨vs, ws, v, v', SqT.step r0 st h1, q1, hv, hv'⟩
  · obtain ⟨T, o, u, u', rfl, hT, rfl, y, y'⟩ := y
    obtain ⟨ws, q1, q2⟩ := cell st r h
    have hi' : i < xs.length := by rw [← hlen]; exact (List.getElem?_eq_some_iff.mp hi).1
    have g1 : xs[i]? = some xs[i] := List.getElem?_eq_getElem hi'
    have g2 : ys[i]? = some ys[i] := List.getElem?_eq_getElem (by omega)
    have hi2 : iv = .tup [xs[i], ys[i]] := by
      simp only [zipI, List.getElem?_map, List.zip, List.getElem?_zipWith, g1, g2, Option.map_some, Option.some.injEq] at hi
      exact hi.symm
    subst hi2
    obtain ⟨v, hv, rv⟩ := h2.get g1
    obtain ⟨v', hv', rv'⟩ := q2.get g2
    have e1 := y vs (SqT.step r0 st h1)
    rw [hv] at e1; cases e1
    have e2 := y' ws q1
    rw [hv'] at e2; cases e2
    obtain ⟨r1, st1⟩ := r.upd_new (o := .frz o (.tup [u, u'])) hT
    exact ⟨r1, st1, .inr ⟨rfl, _, T, _, rfl, rfl, .inl (.inr ⟨o, upd_same⟩), .cons ((rv.step r0 st).step r st1) (.cons (rv'.step r st1) .nil)⟩⟩
  · rw [hlen] at hi
    obtain ⟨ws, q1, q2⟩ := cell st r h
    exact ⟨vs, ws, SqT.step r0 st h1, q1, by rw [h2.length]; exact hi, by rw [q2.length]; omega⟩
section
variable {X : Cx} {cm : Cm} {W : WX} {Γ : Gam} {e : Expr} {p : PX}
theorem sound_zip {pp pos tpos : Pos} {elts : List Expr} {kk : Nat} {e2 : Expr} {p2 : PX} (hg : Gl X "zip") (hm : X.mg "zip" = none) (ha : PA X [e, e2] (tIs X.K cm W (evEs Γ [p, p2]))) (hs : starEach [e, e2] X.env = (false, eval e X.env) :: starEach [e2] X.env) (hpl : (backTo pos (starEach [e2] X.env)).any (·.1) = false) : PI X (.Tuple elts kk tpos) (.Call (.Name "zip" pp) [e, e2] [] pos) (tW true X.K cm W (evI Γ (.zip p p2))) := by
  refine ⟨fun pins s σ H R I q => ?_⟩
  obtain ⟨ι, S, τ, rl, rs, o⟩ := q
  simp only [evI] at o
  cases e1 : evE Γ p τ S with
  | bad => rw [e1] at o; exact o.elim
  | exc c S1 => rw [e1] at o; exact (RZ.pi_zipA hg hm ha hs hpl).run pins s σ H R I ⟨ι, S, τ, rl, rs, by simp only [evEs, e1]; exact o⟩
  | ok a S1 =>
    rw [e1] at o
    simp only [Rs.bind] at o
    cases e2 : evE Γ p2 τ S1 with
    | bad => rw [e2] at o; exact o.elim
    | exc c S2 => rw [e2] at o; exact (RZ.pi_zipA hg hm ha hs hpl).run pins s σ H R I ⟨ι, S, τ, rl, rs, by simp only [evEs, e1, e2, Rs.bind]; exact o⟩
    | ok b S2 =>
      rw [e2] at o
      dsimp only at o
      cases a with
      | tup xs =>
        cases b with
        | tup ys =>
          refine (RZ.pi_zipA hg hm ha hs hpl).run pins s σ H R I ⟨ι, S, τ, rl, rs, ?_⟩
          simp only [evEs, e1, e2, Rs.bind]
          intro ι1 H1 vs st r1 rv
          obtain ⟨v, v', rfl, rx, ry⟩ := RVs.two (S := S2) (X := X) (by exact rv)
          simp only [RV] at rx ry
          obtain ⟨a, vs, rfl, h1, h2⟩ := rx
          obtain ⟨b, ws, rfl, h3, h4⟩ := ry
          exact ⟨a, b, vs, ws, rfl, .inr ⟨h1.toT, h3.toT, o ι1 H1 _ st r1 (wk_zipT r1 h1.toT h2 h3.toT h4)⟩⟩
        | ref n =>
          refine (pi_zipM hg hm ha hs hpl).run pins s σ H R I ⟨ι, S, τ, rl, rs, ?_⟩
          simp only [evEs, e1, e2, Rs.bind]
          intro ι1 H1 vs st r1 rv
          obtain ⟨v, v', rfl, rx, ry⟩ := RVs.two (S := S2) (X := X) (by exact rv)
          simp only [RV] at rx ry
          obtain ⟨a, vs, rfl, h1, h2⟩ := rx
          obtain ⟨hn, rfl⟩ := ry
          dsimp only at o
          cases e3 : S2[n]? with
          | none => rw [e3] at o; exact o.elim
          | some cl =>
            rw [e3] at o
            cases cl with
            | lst ys =>
              dsimp only at o
              split at o
              · rename_i hl
                obtain ⟨ws, q1, q2⟩ := r1.cell n _ e3
                exact ⟨a, ι1 n, vs, ws, rfl, h1.toT, .inl (.inl q1), o ι1 H1 _ st r1 (wk_zipM r1 h1.toT h2 hn hl)⟩
              · exact o.elim
            | _ => exact o.elim
        | _ => exact o.elim
      | _ => exact o.elim
end
end Wg
/-! WgM: the soundness of expressions. -/
namespace Wg
open PySem PySem.Spec PyProof.Rows L2 StX ClX
theorem starEach_cons {e : Expr} {es : List Expr} {env : Env} (h : ∀ x p, e ≠ .Starred x p) : starEach (e :: es) env = (false, eval e env) :: starEach es env := by
  cases e <;> first | rfl | exact absurd rfl (h _ _)
theorem cpE_star {g : GI} {n : Nat} {c : CC} {e : Expr} {p : PX} (h : cpE g n c e = some p) : ∀ x q, e ≠ .Starred x q := by
  intro x q z
  subst z
  cases n <;> simp [cpE] at h
theorem cpEs_any {g : GI} {n : Nat} {c : CC} {env : Env} {pos : Pos} : ∀ {es : List Expr} {ps : List PX}, optAll (cpE g n c) es = some ps → (backTo pos (starEach es env)).any (·.1) = false
  | [], _, _ => rfl
  | e :: es, ps, h => by
    obtain ⟨p, r, rfl, h1, h2⟩ := optAll_cons h
    rw [starEach_cons (cpE_star h1)]
    have ih := cpEs_any (env := env) (pos := pos) h2
    simpa [backTo] using ih
theorem plainIx {g : GI} {n : Nat} {c : CC} {b : Expr} {p : PX} (h : cpE g n c b = some p) : PlainIx b := by
  intro o i
  cases b <;> first | rfl | (cases n <;> simp [cpE] at h)
theorem noSup_base {o : Expr} {m : Str} {env : Env} {w : Sem Value} (h : noSup o = true) : attributeBase o m env w = w := by
  unfold attributeBase
  split
  · simp [noSup] at h
  · rfl
theorem fold_no {e : Expr} {env : Env} (h : noFold e = true) : ∀ x, foldedSetIterable e env x = pure x := by
  intro x
  cases e <;> first | rfl | simp [noFold] at h
/-! ### names of a comprehension's block -/
theorem lookup_rel (sc : Scope) (x : Str) : ∀ names : List (Str × NameKind), (names.map fun (n, k) => if (k == .free && sc.kind == .function && sc.names.lookup n == some .cell) then (n, NameKind.cell) else (n, k)).lookup x
      = (names.lookup x).map fun k => if (k == .free && sc.kind == .function && sc.names.lookup x == some .cell) then .cell else k
  | [] => rfl
  | (n, k) :: r => by
    simp only [List.map_cons, List.lookup_cons]
    cases e : x == n with
    | true =>
      have : x = n := by simpa using e
      subst this
      by_cases hc : (k == .free && sc.kind == .function && sc.names.lookup x == some .cell) = true
      · rw [if_pos hc]; simp only [List.lookup_cons, beq_self_eq_true, Option.map_some]; rw [if_pos hc]
      · rw [if_neg hc]; simp only [List.lookup_cons, beq_self_eq_true, Option.map_some]; rw [if_neg hc]
    | false =>
      have ih := lookup_rel sc x r
      by_cases hc : (k == .free && sc.kind == .function && sc.names.lookup n == some .cell) = true
      · rw [if_pos hc]; simp only [List.lookup_cons, e]; exact ih
      · rw [if_neg hc]; simp only [List.lookup_cons, e]; exact ih
section
variable {g : GI} {c : CC} {cm : Cm} {Γ : Gam} {X : Cx} {W : WX} {k : Nat}
theorem CxE.blk (C : CxE g c cm Γ X W k) (hh : c.hot = false) (scope : Scope) (s : Shared) (H : Hp) (D : Addr) (cl : List (Str × Addr)) (fp : List Addr) : CxE g ⟨c.N, relS scope c.sc, false⟩ cm Γ (X.blk s H scope (compEnvC scope cl D X.env) fp) W0 k :=
  ⟨C.wd, C.N, C.nd, by rw [← C.sc]; rfl, fun _ => C.calm hh, fun _ => C.room hh, C.un, C.grd, takes0⟩
theorem PgOk.blk (C : CxE g c cm Γ X W k) (hh : c.hot = false) (scope : Scope) (s : Shared) (H : Hp) (D : Addr) (cl : List (Str × Addr)) (fp : List Addr) : PgOk (X.blk s H scope (compEnvC scope cl D X.env) fp) ⟨c.N, scope, false⟩ := by
  refine ⟨C.N, C.nd, fun _ => C.calm hh, fun x hx => ?_⟩
  have hx : scope.names.lookup x = some .local ∨ scope.names.lookup x = some .cell := hx
  have e : (compEnvC scope cl D X.env).scope.names.lookup x = (scope.names.lookup x).map fun k => if (k == .free && X.env.scope.kind == .function && X.env.scope.names.lookup x == some .cell) then .cell else k := lookup_rel X.env.scope x scope.names
  rcases hx with hx | hx
  · have e2 : (compEnvC scope cl D X.env).scope.names.lookup x = some .local := by rw [e, hx]; rfl
    exact ⟨.inl e2, .inr e2⟩
  · have e2 : (compEnvC scope cl D X.env).scope.names.lookup x = some .cell := by rw [e, hx]; rfl
    exact ⟨.inr e2, .inl (by show (scope.names.lookup x == some .cell) = true; rw [hx]; rfl)⟩
theorem CxE.units (C : CxE g c cm Γ X W k) : X.A.units + 70 < cLine := C.un
theorem CxE.room1 (C : CxE g c cm Γ X W k) (hh : c.hot = false) : Room (2 * k + 1) X.A := (C.room hh).mono (by omega)
/-- several expressions -/
theorem sound_A (C : CxE g c cm Γ X W k) {n : Nat} (ih : ∀ e p, cpE g n c e = some p → PE X e (tI X.K cm W (evE Γ p))) : ∀ (es : List Expr) (ps : List PX), optAll (cpE g n c) es = some ps → PA X es (tIs X.K cm W (evEs Γ ps))
  | [], ps, h => by
    rw [optAll_nil h]
    exact PA.weak pa_nil fun σ H Q q => tNil_st q
  | e :: es, ps, h => by
    obtain ⟨p, r, rfl, h1, h2⟩ := optAll_cons h
    exact PA.weak (pa_cons (ih e p h1) (sound_A C ih es r h2) (starEach_cons (cpE_star h1))) fun σ H Q q => tCons_st q
theorem sound_O (ih : ∀ e p, cpE g n c e = some p → PE X e (tI X.K cm W (evE Γ p))) {lo : Option Expr} {l : Option PX} (h : (match lo with | none => some none | some x => (cpE g n c x).map some) = some l) : PO X lo (tIO X.K cm W (evO Γ l)) := by
  cases lo with
  | none => cases h; exact PO.weak po_none fun σ H Q q => tO_none q
  | some x =>
    cases e : cpE g n c x with
    | none => simp only [e] at h; cases h
    | some p =>
      simp only [e] at h; cases h
      exact PO.weak (po_some (ih x p e)) fun σ H Q q => tO_some q
theorem isTup_ok {e : Expr} (h : isTup e = true) : ∃ es kk p, e = .Tuple es kk p := by
  cases e <;> first | exact ⟨_, _, _, rfl⟩ | simp [isTup] at h
theorem star_any_true {env : Env} {pos : Pos} {g : GI} {n : Nat} {c : CC} : ∀ (es : List Expr) (ps : List PX) (q : PX), cpStar (cpE g n c) es = some (ps, q) → (backTo pos (starEach es env)).any (·.1) = true
  | [], ps, q, h => by simp [cpStar] at h
  | [e], ps, q, h => by
    by_cases hs : ∃ x p, e = .Starred x p
    · obtain ⟨x, p, rfl⟩ := hs
      rfl
    · exfalso
      unfold cpStar at h
      split at h
      · cases ‹[e] = []›
      · rename_i he; cases he; exact hs ⟨_, _, rfl⟩
      · rename_i he; cases he; simp [cpStar] at h
  | e :: e2 :: es, ps, q, h => by
    simp only [cpStar] at h
    split at h
    · rename_i p ps' q' h1 h2
      cases h
      have ih := star_any_true (env := env) (pos := pos) (e2 :: es) ps' q h2
      rw [starEach_cons (cpE_star h1)]
      simpa [backTo] using ih
    · cases h
theorem sound_AS (ih : ∀ e p, cpE g n c e = some p → PE X e (tI X.K cm W (evE Γ p))) : ∀ (es : List Expr) (ps : List PX) (q : PX), cpStar (cpE g n c) es = some (ps, q) → PA X es (tIs X.K cm W (evA Γ ps q)) ∧ ((∃ x p, es = [.Starred x p] ∧ ps = [] ∧ cpE g n c x = some q) ∨ ∃ e r, es = e :: r ∧ (∃ p, cpE g n c e = some p) ∧ ∃ ps', cpStar (cpE g n c) r = some (ps', q))
  | [], ps, q, h => by simp [cpStar] at h
  | [e], ps, q, h => by
    by_cases hs : ∃ x p, e = .Starred x p
    · obtain ⟨x, p, rfl⟩ := hs
      simp only [cpStar] at h
      cases e1 : cpE g n c x with
      | none => rw [e1] at h; cases h
      | some q' =>
        rw [e1] at h; cases h
        exact ⟨PA.weak (pa_star (ih x q e1) pa_nil) fun σ H Q z => starL_st z, .inl ⟨x, p, rfl, rfl, e1⟩⟩
    · exfalso
      unfold cpStar at h
      split at h
      · cases ‹[e] = []›
      · rename_i he; cases he; exact hs ⟨_, _, rfl⟩
      · rename_i he; cases he; simp [cpStar] at h
  | e :: e2 :: es, ps, q, h => by
    simp only [cpStar] at h
    split at h
    · rename_i p ps' q' h1 h2
      cases h
      obtain ⟨h3, _⟩ := sound_AS ih (e2 :: es) ps' q h2
      exact ⟨PA.weak (pa_cons (ih e p h1) h3 (starEach_cons (cpE_star h1))) fun σ H Q z => starC_st z, .inr ⟨e, e2 :: es, rfl, ⟨p, h1⟩, ps', h2⟩⟩
    · cases h
theorem isNm_ok : ∀ {e : Expr}, isNm e = true → ∃ x p, e = .Name x p := fun {e} h => by
  cases e <;> first | exact ⟨_, _, rfl⟩ | cases h
theorem cpT_tp {c : CC} {n : Nat} {tg : Expr} {t : Tg} (h : cpT n c tg = some t) (hb : isTup tg = true) : ∃ ts, t = .tp ts := by
  obtain ⟨es, kk, pp, rfl⟩ := isTup_ok hb
  cases n with
  | zero => simp [cpT] at h
  | succ n =>
    simp only [cpT] at h
    split at h
    · cases h
    · cases e : optAll (cpT n c) es with
      | none => rw [e] at h; cases h
      | some ts => rw [e] at h; cases h; exact ⟨ts, rfl⟩
theorem sound_It (C : CxE g c cm Γ X W k) {n : Nat} (ih : ∀ e p, cpE g n c e = some p → PE X e (tI X.K cm W (evE Γ p))) {tg e : Expr} {it : PIt} (h : cpIt (cpE g n c) g c tg e = some it) : PI X tg e (tW (isTup tg) X.K cm W (evI Γ it)) := by
  have val : ∀ {it}, (cpE g n c e).map PIt.val = some it → PI X tg e (tW (isTup tg) X.K cm W (evI Γ it)) := fun {it} h => by
    cases e1 : cpE g n c e with
    | none => rw [e1] at h; cases h
    | some p => rw [e1] at h; cases h; exact sound_val (ih e p e1)
  unfold cpIt at h
  split at h
  · rename_i x p a sp pos
    split at h
    · rename_i hx
      subst hx
      split at h
      · rename_i hg
        simp only [Bool.and_eq_true, decide_eq_true_eq] at hg
        cases e1 : cpE g n c a with
        | none => rw [e1] at h; cases h
        | some q =>
          rw [e1] at h; cases h
          obtain ⟨y, yp, rfl⟩ := isNm_ok hg.2
          exact sound_zips (C.gl hg.1.1) (C.wd.blt _ hg.1.2) (ih a q e1) rfl
      · cases h
    · exact val h
  · rename_i x p a pos _
    split at h
    · rename_i hx
      subst hx
      split at h
      · rename_i hg
        simp only [Bool.and_eq_true, decide_eq_true_eq] at hg
        cases e1 : cpE g n c a with
        | none => rw [e1] at h; cases h
        | some q =>
          rw [e1] at h; cases h
          exact sound_rng (C.gl hg.1) (C.wd.blt _ hg.2) (sound_A C ih [a] [q] (by simp only [optAll, e1])) (starEach_cons (cpE_star e1))
      · cases h
    · split at h
      · rename_i hx
        subst hx
        split at h
        · rename_i hg
          simp only [Bool.and_eq_true, decide_eq_true_eq] at hg
          cases e1 : cpE g n c a with
          | none => rw [e1] at h; cases h
          | some q =>
            rw [e1] at h; cases h
            obtain ⟨es, kk, pp, rfl⟩ := isTup_ok hg.2
            exact sound_enum (C.gl hg.1.1) (C.wd.blt _ hg.1.2) (sound_A C ih [a] [q] (by simp only [optAll, e1])) (starEach_cons (cpE_star e1))
        · cases h
      · exact val h
  · rename_i x p a b pos
    split at h
    · rename_i hx
      subst hx
      split at h
      · rename_i hg
        simp only [Bool.and_eq_true, decide_eq_true_eq] at hg
        split at h
        · rename_i q1 q2 e1 e2
          cases h
          obtain ⟨es, kk, pp, rfl⟩ := isTup_ok hg.2
          exact sound_zip (C.gl hg.1.1) (C.wd.blt _ hg.1.2) (sound_A C ih [a, b] [q1, q2] (by simp only [optAll, e1, e2])) (starEach_cons (cpE_star e1)) (cpEs_any (g := g) (n := n) (c := c) (ps := [q2]) (by simp only [optAll, e2]))
        · cases h
      · cases h
    · split at h
      · rename_i hx
        subst hx
        split at h
        · rename_i hg
          simp only [Bool.and_eq_true, decide_eq_true_eq] at hg
          split at h
          · rename_i q1 q2 e1 e2
            cases h
            exact sound_rng2 (C.gl hg.1) (C.wd.blt _ hg.2) (sound_A C ih [a, b] [q1, q2] (by simp only [optAll, e1, e2])) (starEach_cons (cpE_star e1)) (starEach_cons (cpE_star e2))
          · cases h
        · cases h
      · exact val h
  · exact val h
theorem mkT {e : Expr} {p : PX} (h : PE X e (tI X.K cm W (evE Γ p))) (he : ∀ whole, isTrue e X.env whole = (do let v ← whole; standAt e.pos; holding [v] (truthy v))) : PE X e (tI X.K cm W (evE Γ p)) ∧ (noIf e = true → PT X e (tT X.K cm W (evE Γ p))) :=
  ⟨h, fun _ => PT.weak (pt_val h he) fun σ H Q q => tT_val q⟩
end
theorem tTest_of {K : PySem.W.Frag} {cm : Cm} {W : WX} {m : Sl → Sto → Rs IV} {t : TE} {σ : L2.St} {H : Hp} {R : Bool → Hp → Prop} (go : ∀ Q, tI K cm W m σ H Q → t σ H Q) (h : tT K cm W m σ H R) : tTest t σ H R := go _ (tT_val h)
end Wg
/-! WiI: sorted(set(x)) of a list of ints. -/
namespace Wg
open PySem PySem.Spec PyProof.Rows L2 StX ClX
abbrev bareSet (w : World) : Obj := { cls := .type "set", dict := none, data := .set #[] 0 (.fresh 0 0 (!w.params.followText "set-order")) }
abbrev listIt (l : Addr) : Obj := { cls := .type "list_iterator", data := .fields #[.ref l, .int 0 0] }
section
variable {P : Program} {w : World} {A : Around} {E : Value → Shared → Prop} {s : Shared}
/-- what the set's own __init__ leaves -/
def Filled (w : World) (s : Shared) (ns : List Int) (s2 : Shared) : Prop := ∃ (hp : Heap) (tk c : Nat), s2 = { s with heap := hp, toks := tk } ∧ SetR w hp s.heap.objs.size (fun j => decide (j ∈ ns)) c ∧ c ≤ ns.length ∧ ∀ b o, s.heap.get? b = some o → hp.get? b = some o
/-- the loop of the update over a list -/
theorem fill_list {l : Addr} {items : Array Value} {ns : List Int} {R : Result → Shared → Prop} (hn : A.handled = none) (hl : s.heap.IsList l items) (hi : IntsAre items.toList ns) (hb : ns.length + 1 < scanBound)
    (h : ∀ s2, Filled w s ns s2 → R (.ok (.ret .none)) s2) :
    codeAny (model P w) A (.builtin "set.update.loop" ⟨[.ref s.heap.objs.size, .ref (s.heap.push (bareSet w)).objs.size], []⟩) R { s with heap := (s.heap.push (bareSet w)).push (listIt l) } := by
  obtain ⟨ol, eol, _⟩ := id hl
  have lt0 : l < s.heap.objs.size := Heap.lt_size eol
  have e1 : (s.heap.push (bareSet w)).objs.size = s.heap.objs.size + 1 := Heap.size_push ..
  have ne : l ≠ (s.heap.push (bareSet w)).objs.size := by rw [e1]; exact Nat.ne_of_lt (Nat.lt_succ_of_lt lt0)
  have len : items.size = ns.length := by rw [← IntsAre.length hi, Array.length_toList]
  have far : s.heap.objs.size ∉ [(s.heap.push (bareSet w)).objs.size, l] := by
    rw [e1]
    intro z
    rcases List.mem_cons.mp z with z | z
    · exact absurd z (Nat.ne_of_lt (Nat.lt_succ_self _))
    · exact absurd (List.mem_singleton.mp z) (Nat.ne_of_gt lt0)
  have at0 : (s.heap.push (bareSet w)).get? s.heap.objs.size = some (bareSet w) := Heap.get?_push_size _ rfl
  have lst : (s.heap.push (bareSet w)).IsList l items := hl.push _
  refine set_update_ints (Walks.list (by simp [hn]) _ l ne items).toS s.heap.objs.size far ns len hb (fun i v hv => ?_) (items.size - 0) 0 _ rfl (Nat.zero_le _) ⟨⟨_, Heap.get?_push_size _ rfl, rfl, rfl⟩, lst.push _⟩
    ⟨0, Nat.zero_le _, setR_new_at (Heap.get?_push_of_some _ at0)⟩ fun s2 c mv hc S2 => ?_
  · have lt : i < ns.length := by rw [← len]; exact (Array.getElem?_eq_some_iff.mp hv).1
    obtain ⟨t, e⟩ := IntsAre.int_at hi i v (by rw [Array.getElem?_toList]; exact hv)
    exact ⟨ns[i], t, List.getElem?_eq_getElem lt, by rw [e, List.getD_eq_getElem?_getD, List.getElem?_eq_getElem lt]; rfl⟩
  · refine h s2 ⟨s2.heap, s2.toks, c, ?_, S2, by omega, fun b o e => ?_⟩
    · obtain ⟨hp, gg, dr, tk, os⟩ := s2
      have z1 : gg = s.gens := mv.gens
      have z2 : dr = s.drawn := mv.drawn
      have z3 : os = s.os := mv.os
      subst z1 z2 z3
      rfl
    · have ltb := Heap.lt_size e
      refine mv.heap b o (fun z => ?_) (Heap.get?_push_of_some _ (Heap.get?_push_of_some _ e))
      rcases List.mem_cons.mp z with z | z
      · exact absurd z (Nat.ne_of_lt ltb)
      · have := List.mem_singleton.mp z
        rw [e1] at this
        exact absurd this (Nat.ne_of_lt (Nat.lt_succ_of_lt ltb))
set_option maxHeartbeats 3200000 in
theorem set_of_list {l : Addr} {items : Array Value} {ns : List Int} {Q : Value → Shared → Prop} (hn : A.handled = none) (hl : s.heap.IsList l items) (hi : IntsAre items.toList ns) (hb : ns.length + 1 < scanBound)
    (h : ∀ s2, Filled w s ns s2 → Q (.ref s.heap.objs.size) s2) : wpAny (model P w) A (call (.type "set") [.ref l]) Q E s := by
  obtain ⟨m0, m1, hm⟩ := PySem.F.called_set.mro; have k1 := PySem.F.called_set.made; have k2 := PySem.F.called_set.sub
  refine wpAny_call (codeAny_of_tree ?_); show wpAny _ _ (callAny (.type "set") _) _ _ _
  refine wpAny_pure ⟨Code.quiet_builtin _ (by decide +kernel), ?_⟩
  refine codeAny_builtin PySem.F.entry_type_call ?_; rw [Around.under_plain (weight_type_call_type "set" [.ref l] []) rfl]
  have k3 := PySem.F.called_set.notType; have k4 := PySem.F.called_set.canCreate; have k5 := PySem.F.typeCall_set_1 (.ref l)
  repeat (any_goals first | assumption | wp_step)
  refine codeAny_mono (code_set_led1 (.ref l) (E := E) (Q₁ := fun o u => o = .ref s.heap.objs.size ∧ u = { s with heap := s.heap.push (bareSet w) }) ⟨rfl, rfl⟩) fun r u hu => ?_
  match r, hu with
  | .error _, hu => exact hu
  | .ok (.ret _), ⟨e1, e2⟩ =>
    subst e1 e2
    have at0 : (s.heap.push (bareSet w)).get? s.heap.objs.size = some (bareSet w) := Heap.get?_push_size _ rfl
    have ty : Shared.TypeIs { s with heap := s.heap.push (bareSet w) } (.ref s.heap.objs.size) "set" := ⟨_, at0, rfl⟩
    have k6 := PySem.F.called_set.init.lookup; have k7 := PySem.F.called_set.init.bind (.ref s.heap.objs.size)
    repeat (any_goals first | assumption | wp_step)
    refine codeAny_mono (codeAny_call_builtin (R := wants (fun v u => v = .none ∧ Filled w s ns u) E) PySem.F.called_set.init.plain PySem.F.entry_set_init (check_set_init_1 ty ?_)) fun r2 u2 hu2 => ?_
    · obtain ⟨⟨oc, od, oda, osl⟩, eo, hc, nl, hd⟩ := id hl
      simp only at hc hd; subst hc hd
      have eo' : (s.heap.push (bareSet w)).get? l = some { cls := .type "list", dict := od, data := .seq items nl, slots := osl } := Heap.get?_push_of_some _ eo
      have k8 := PySem.F.sub_list_set; have k9 := PySem.F.sub_list_frozenset
      have k10 : (Value.type "list" == Value.type "dict") = false := by decide
      have lst : (s.heap.push (bareSet w)).IsList l items := ⟨_, eo', rfl, nl, rfl⟩
      unfold Builtin.«set.__init__» noKeywords Builtin.Frozenset.updateFrom
      generalize hPI : pyIter = PI; wp_walk; subst hPI
      refine wpAny_pyIter_list lst ?_; refine wpAny_bind (wpAny_runValue ?_)
      refine fill_list (by simp [hn]) hl hi hb fun s2 F => ?_
      show wpAny _ _ _ _ _ _
      refine wpAny_pure ?_; show wpAny _ _ (ret Value.none) _ _ _
      exact wpAny_pure ⟨rfl, F⟩
    · match r2, hu2 with
      | .error _, hu2 => exact hu2
      | .ok (.ret _), ⟨e1, F⟩ =>
        subst e1
        repeat (any_goals first | assumption | wp_step)
        exact h _ F
end
/-! ### rising lists -/
theorem insU_mem {x y : Int} : ∀ l : List Int, y ∈ insU x l ↔ y = x ∨ y ∈ l
  | [] => by simp [insU]
  | z :: l => by
    simp only [insU]
    split
    · simp
    · split
      · rename_i h; subst h; simp
      · simp only [List.mem_cons, insU_mem l]
        constructor
        · rintro (h | h | h)
          · exact .inr (.inl h)
          · exact .inl h
          · exact .inr (.inr h)
        · rintro (h | h | h)
          · exact .inr (.inl h)
          · exact .inl h
          · exact .inr (.inr h)
theorem insU_rise {x : Int} : ∀ l : List Int, l.Pairwise (· < ·) → (insU x l).Pairwise (· < ·)
  | [], _ => by simp [insU]
  | z :: l, h => by
    obtain ⟨h1, h2⟩ := List.pairwise_cons.mp h
    simp only [insU]
    split
    · rename_i hx
      refine List.pairwise_cons.mpr ⟨fun y hy => ?_, h⟩
      rcases List.mem_cons.mp hy with rfl | hy
      · exact hx
      · exact Int.lt_trans hx (h1 y hy)
    · split
      · exact h
      · rename_i h3 h4
        refine List.pairwise_cons.mpr ⟨fun y hy => ?_, insU_rise l h2⟩
        rcases (insU_mem l).mp hy with rfl | hy
        · omega
        · exact h1 y hy
theorem sortU_mem {y : Int} : ∀ l : List Int, y ∈ sortU l ↔ y ∈ l
  | [] => by simp [sortU]
  | x :: l => by simp only [sortU, insU_mem, sortU_mem l, List.mem_cons]
theorem sortU_rise : ∀ l : List Int, (sortU l).Pairwise (· < ·)
  | [] => List.Pairwise.nil
  | x :: l => insU_rise _ (sortU_rise l)
theorem rise_uniq : ∀ a b : List Int, a.Pairwise (· < ·) → b.Pairwise (· < ·) → (∀ x, x ∈ a ↔ x ∈ b) → a = b
  | [], [], _, _, _ => rfl
  | [], y :: b, _, _, h => by have := (h y).mpr (by simp); simp at this
  | x :: a, [], _, _, h => by have := (h x).mp (by simp); simp at this
  | x :: a, y :: b, ha, hb, h => by
    obtain ⟨a1, a2⟩ := List.pairwise_cons.mp ha
    obtain ⟨b1, b2⟩ := List.pairwise_cons.mp hb
    have e : x = y := by
      rcases List.mem_cons.mp ((h x).mp (by simp)) with e | e
      · exact e
      · rcases List.mem_cons.mp ((h y).mpr (by simp)) with e2 | e2
        · exact e2.symm
        · have := b1 x e; have := a1 y e2; omega
    subst e
    rw [rise_uniq a b a2 b2 fun z => ?_]
    have hz := h z
    simp only [List.mem_cons] at hz
    constructor
    · intro m
      rcases hz.mp (.inr m) with e | e
      · subst e; exact absurd (a1 _ m) (Int.lt_irrefl _)
      · exact e
    · intro m
      rcases hz.mpr (.inr m) with e | e
      · subst e; exact absurd (b1 _ m) (Int.lt_irrefl _)
      · exact e
/-- sorted(set(e)) -/
def tSset (K : PySem.W.Frag) (ta : TE) : TE := fun σ H Q => ta σ H fun x H1 => ∃ (l : Addr) (ns : List Int), x = .ref l ∧ SqL K H1 l (ns.map V.int) ∧ ns.length ≤ 60 ∧ ∀ p, H1 p = none → Q (.ref p) (upd H1 p (.lst ((sortU ns).map V.int)))
theorem pe_sset {X : Cx} {a : Expr} {ta : TE} {p p2 q pos : Pos} (hg : Gl X "sorted") (hm : X.mg "sorted" = none) (hg2 : Gl X "set") (hm2 : X.mg "set" = none) (ha : PE X a ta) (hc : X.calm = true)
    (na : starEach [a] X.env = (false, eval a X.env) :: starEach [] X.env) : PE X (.Call (.Name "sorted" p) [.Call (.Name "set" p2) [a] [] q] [] pos) (tSset X.K ta) := by
  refine ⟨fun pins s σ H Q I h => ?_⟩
  refine Call_ (ld_blt I hg hm (show bootBuiltins "sorted" = some (.builtin "sorted") by decide +kernel) ?_)
  refine PyProof.Rows.callWith_builtin1 (PyProof.Rows.args_cons ?_ rfl) rfl rfl
  refine Call_ (ld_blt I hg2 hm2 boot_set ?_)
  refine PyProof.Rows.callWith_type1 (PyProof.Rows.args_cons (thn (ha.run pins s σ H _ I h) fun v s1 ⟨x, H1, I1, r1, q1⟩ => PyProof.Rows.args_nil ?_) na) na rfl
  obtain ⟨l, ns, rfl, hq, hl, q1⟩ := q1
  cases r1
  obtain ⟨its, r, pl, hz⟩ := I1.list hq
  refine set_of_list (I1.ok.hd hc) pl.isList (by simpa using RZ.intsAre_vals r) (by unfold scanBound; omega) fun s2 F => ?_
  obtain ⟨hp, tk, c, e2, R, hc2, hk⟩ := F
  refine PyProof.Rows.args_nil ?_
  have I2 : Inv X pins σ H1 s2 := by rw [e2]; exact I1.kept hk
  have R2 : SetR X.w s2.heap s1.heap.objs.size (fun j => decide (j ∈ ns)) c := by rw [e2]; exact R
  clear e2 R hk
  refine sorted_set R2 (I2.ok.hd hc) (by omega) fun s3 b out c3 ms k3 g3 o3 hb hget hi hs hmem hlen => ?_
  have em : ms = sortU ns := rise_uniq _ _ hs (sortU_rise ns) fun x => by rw [hmem x, decide_eq_true_eq, sortU_mem]
  subst em
  have hlen2 : ((sortU ns).map V.int).length ≤ sizeLine := by rw [List.length_map, hlen, sizeLine_eq]; omega
  have hnb : H1 b = none := I2.hok.fresh hb
  have J : Inv X pins σ (upd H1 b (.lst ((sortU ns).map V.int))) { s2 with heap := s3.heap, gens := s3.gens, drawn := s3.drawn, toks := s3.toks } :=
    I2.call (ch := []) (Un.laid k3 hb hnb) (I2.hok.laid k3 hb ⟨hlen2, out.toList, c3, vals_of_ints hi, hget⟩) (by rw [g3]; exact I2.bare) (fun _ z => nomatch z)
  have es : s3 = { s2 with heap := s3.heap, gens := s3.gens, drawn := s3.drawn, toks := s3.toks } := by
    obtain ⟨h3, gg3, d3, tk3, os3⟩ := s3
    obtain ⟨h2, gg2, d2, tk2, os2⟩ := s2
    have : os3 = os2 := o3
    subst this
    rfl
  rw [es]
  exact ⟨.ref b, _, J, rfl, q1 b hnb⟩
end Wg
/-! WiK: methods of texts, f-strings. -/
namespace Wg
open PySem PySem.Spec PyProof.Rows L2 StX ClX
theorem tG.mono {α β : Type} {K : PySem.W.Frag} {cm : Cm} {W : WX} {RA : (Nat → Addr) → Sto → Hp → α → β → Prop} {m : Sl → Sto → Rs α} {σ : L2.St} {H : Hp} {Q Q' : β → Hp → Prop} (h : tG K cm W RA m σ H Q) (g : ∀ v H, Q v H → Q' v H) : tG K cm W RA m σ H Q' := by
  obtain ⟨ι, S, τ, rl, rs, o⟩ := h
  exact ⟨ι, S, τ, rl, rs, Out.imp o g⟩
section
variable {cm : Cm} {Γ : Gam}
theorem smI_ne {m : Str} {x y : IV} {S : Sto} {c : Str} {S' : Sto} : smI m x y S ≠ .exc c S' := by
  intro h
  unfold smI at h
  repeat' split at h
  all_goals first | (simp [Wg.alloc] at h; done) | cases h
def rSm (K : PySem.W.Frag) (cm : Cm) (m : Str) : V → List V → Hp → VK → Prop := fun x xs H Q => ∃ y, xs = [y] ∧ rI2 K cm (smI m) x y H Q
theorem smt_st {K : PySem.W.Frag} {W : WX} {σ : L2.St} {H : Hp} {Q : VK} {m : Str} {p q : PX} (h : tI K cm W (evE Γ (.smt m p q)) σ H Q) : tM1 (rSm K cm m) (tI K cm W (evE Γ p)) (tI K cm W (evE Γ q)) σ H Q := by
  have h' : tI K cm W (fun τ S => (evE Γ p τ S).bind fun x S1 => match x with
    | .str a => (evE Γ q τ S1).bind fun y S2 => smI m (.str a) y S2
    | _ => .bad) σ H Q := by
    obtain ⟨ι, S, τ, rl, rs, o⟩ := h
    exact ⟨ι, S, τ, rl, rs, by simp only [evE] at o; exact o⟩
  refine tG.bind (f := fun τ x S1 => match x with
    | .str a => (evE Γ q τ S1).bind fun y S2 => smI m (.str a) y S2
    | _ => .bad) h' fun ι1 S1 H1 τ a v r1 rs1 ra o1 => ?_
  cases a with
  | str z =>
    have hv : v = .str z := by simpa only [RVS, RV] using ra
    refine ⟨⟨z, hv⟩, ι1, S1, τ, r1, rs1, Out.bindR (RA := RVS K) o1 fun b S2 ι2 H2 y _ st r2 rb o2 => ?_⟩
    exact ⟨y, rfl, ι2, S2, .str z, b, r2, RV.step ra r1 st, rb, OutV.of o2 fun _ _ => smI_ne⟩
  | non => exact o1.elim
  | bl b => exact o1.elim
  | int i => exact o1.elim
  | tup xs => exact o1.elim
  | ref n => exact o1.elim
  | cls c => exact o1.elim
theorem strs_ok {K : PySem.W.Frag} {ι : Nat → Addr} {n : Nat} {H : Hp} : ∀ {xs : List IV} {ys : List Str} {vs : List V}, optAll strOf xs = some ys → RVs K ι n H xs vs → vs = ys.map V.str
  | [], ys, vs, h, r => by
    rw [optAll_nil h]
    simp only [RVs] at r
    exact r
  | x :: xs, ys, vs, h, r => by
    obtain ⟨y, l, rfl, h1, h2⟩ := optAll_cons h
    obtain ⟨v, w, rfl, r1, r2⟩ := r.uncons
    have e : x = .str y := by cases x <;> simp [strOf] at h1; rw [h1]
    subst e
    simp only [RV] at r1
    subst r1
    rw [strs_ok h2 r2]
    rfl
theorem rvs_strs {K : PySem.W.Frag} {ι : Nat → Addr} {n : Nat} {H : Hp} : ∀ ys : List Str, RVs K ι n H (ys.map .str) (ys.map V.str)
  | [] => by simp only [List.map_nil, RVs]
  | y :: ys => by
    rw [List.map_cons, List.map_cons]
    exact .cons (by simp only [RV]) (rvs_strs ys)
variable {X : Cx}
theorem sm_split : MtR X "str.split" (rSm X.K cm "split") := by
  intro pins s σ H x xs v us Q I rx rs h
  obtain ⟨y, rfl, ι, S, a, b, rl, ra, rb, q⟩ := h
  unfold smI at q
  split at q
  · rename_i z
    simp only [RV] at ra; subst ra
    rw [if_pos rfl] at q
    split at q
    · rename_i w
      simp only [RV] at rb; subst rb
      split at q
      · rename_i hz
        exact mt_split pins s σ H _ _ v us Q I rx rs ⟨z, w, rfl, rfl, hz.1, by rw [sizeLine_eq]; omega, q.lst rl (rvs_strs _)⟩
      · exact q.elim
    · exact q.elim
  · exact q.elim
theorem sm_starts : MtR X "str.startswith" (rSm X.K cm "startswith") := by
  intro pins s σ H x xs v us Q I rx rs h
  obtain ⟨y, rfl, ι, S, a, b, rl, ra, rb, q⟩ := h
  unfold smI at q
  split at q
  · rename_i z
    simp only [RV] at ra; subst ra
    rw [if_neg (by decide), if_pos rfl] at q
    split at q
    · rename_i w
      simp only [RV] at rb; subst rb
      exact mt_startswith pins s σ H _ _ v us Q I rx rs ⟨z, w, rfl, rfl, q.here rl (by simp only [RV])⟩
    · exact q.elim
  · exact q.elim
theorem sm_rempre : MtR X "str.removeprefix" (rSm X.K cm "removeprefix") := by
  intro pins s σ H x xs v us Q I rx rs h
  obtain ⟨y, rfl, ι, S, a, b, rl, ra, rb, q⟩ := h
  unfold smI at q
  split at q
  · rename_i z
    simp only [RV] at ra; subst ra
    rw [if_neg (by decide), if_neg (by decide), if_pos rfl] at q
    split at q
    · rename_i w
      simp only [RV] at rb; subst rb
      split at q
      · rename_i hz
        exact mt_removeprefix pins s σ H _ _ v us Q I rx rs ⟨z, w, rfl, rfl, by rw [sizeLine_eq]; omega, q.here rl (by simp only [RV])⟩
      · exact q.elim
    · exact q.elim
  · exact q.elim
theorem sm_join : MtR X "str.join" (rSm X.K cm "join") := by
  intro pins s σ H x xs v us Q I rx rs h
  obtain ⟨y, rfl, ι, S, a, b, rl, ra, rb, q⟩ := h
  unfold smI at q
  split at q
  · rename_i z
    simp only [RV] at ra; subst ra
    rw [if_neg (by decide), if_neg (by decide), if_neg (by decide), if_pos rfl] at q
    split at q
    · rename_i ws e
      split at q
      · rename_i ys e2
        split at q
        · rename_i hz
          obtain ⟨p, vs, rfl, h1, h2⟩ := items_ok rl rb e
          have := strs_ok e2 h2
          subst this
          exact mt_join pins s σ H _ _ v us Q I rx rs ⟨z, p, ys, rfl, rfl, h1, by omega, q.here rl (by simp only [RV])⟩
        · exact q.elim
      · exact q.elim
    · exact q.elim
  · exact q.elim
/-- a method of a text -/
theorem pe_smt {o a : Expr} {p q : PX} {W : WX} {m : Str} {apos pos : Pos} (hm : txM m = true) (ho : PE X o (tI X.K cm W (evE Γ p))) (ha : PE X a (tI X.K cm W (evE Γ q))) (hs : starEach [a] X.env = [(false, eval a X.env)])
    (hb : attributeBase o m X.env (eval o X.env) = eval o X.env) (hl : (apos.endLine == pos.line) = true) : PE X (.Call (.Attribute o m apos) [a] [] pos) (tI X.K cm W (evE Γ (.smt m p q))) := by
  simp only [txM, Bool.or_eq_true, decide_eq_true_eq] at hm
  rcases hm with ((rfl | rfl) | rfl) | rfl
  · exact PE.weak (pe_m1 PySem.F.slot_str_split PySem.F.type_str_split sm_split ho ha hs hb hl) fun σ H Q z => smt_st z
  · exact PE.weak (pe_m1 PySem.F.slot_str_startswith PySem.F.type_str_startswith sm_starts ho ha hs hb hl) fun σ H Q z => smt_st z
  · exact PE.weak (pe_m1 PySem.F.slot_str_removeprefix PySem.F.type_str_removeprefix sm_rempre ho ha hs hb hl) fun σ H Q z => smt_st z
  · exact PE.weak (pe_m1 PySem.F.slot_str_join PySem.F.type_str_join sm_join ho ha hs hb hl) fun σ H Q z => smt_st z
/-- the parts of an f-string -/
theorem parts_st {W : WX} {f : Expr → Option PX} (ih : ∀ e p, f e = some p → PE X e (tI X.K cm W (evE Γ p))) : ∀ (es : List Expr) (ps : List PX), optAll (cpPt f) es = some ps →
    ∃ ts, PJ X es ts ∧ ∀ (acc : Str) (σ : L2.St) (H : Hp) (R : Str → Hp → Prop), tG X.K cm W RId (fun τ S => evF Γ ps acc τ S) σ H R → tJs ts acc σ H R
  | [], ps, h => by
    rw [optAll_nil h]
    refine ⟨[], .nil, fun acc σ H R z => ?_⟩
    obtain ⟨ι, S, τ, rl, rs, o⟩ := z
    simp only [evF] at o
    exact o ι H acc Step.refl rl rfl
  | e :: es, ps, h => by
    obtain ⟨p, r, rfl, h1, h2⟩ := optAll_cons h
    obtain ⟨ts, hj, go⟩ := parts_st ih es r h2
    have key : ∀ (acc : Str) (σ : L2.St) (H : Hp) (R : Str → Hp → Prop), tG X.K cm W RId (fun τ S => evF Γ (p :: r) acc τ S) σ H R →
        tI X.K cm W (evE Γ p) σ H fun x H1 => (∃ y : Str, x = .str y ∧ (acc ++ y).length ≤ sizeLine ∧ tJs ts (acc ++ y) σ H1 R) ∨ ∃ i : Int, x = .int i ∧ i.natAbs.log2 < 1920 ∧ (acc ++ (toString i : Str)).length ≤ sizeLine ∧ tJs ts (acc ++ (toString i : Str)) σ H1 R := fun acc σ H R z => by
      have z' : tG X.K cm W RId (fun τ S => (evE Γ p τ S).bind fun x S1 => match fmtI x with
          | some y => if (acc ++ y).length ≤ 1000000 then evF Γ r (acc ++ y) τ S1 else .bad
          | none => .bad) σ H R := by
        obtain ⟨ι, S, τ, rl, rs, o⟩ := z
        exact ⟨ι, S, τ, rl, rs, by simp only [evF] at o; exact o⟩
      refine tG.bind (RA := RVS X.K) (f := fun τ x S1 => match fmtI x with
          | some y => if (acc ++ y).length ≤ 1000000 then evF Γ r (acc ++ y) τ S1 else .bad
          | none => .bad) z' fun ι1 S1 H1 τ a v r1 rs1 ra o1 => ?_
      cases a with
      | str y =>
        have hv : v = .str y := by simpa only [RVS, RV] using ra
        simp only [fmtI] at o1
        split at o1
        · rename_i hz
          exact .inl ⟨y, hv, by rw [sizeLine_eq]; omega, go _ _ _ _ ⟨ι1, S1, τ, r1, rs1, o1⟩⟩
        · exact o1.elim
      | int i =>
        have hv : v = .int i := by simpa only [RVS, RV] using ra
        simp only [fmtI] at o1
        by_cases hi : i.natAbs.log2 < 1920
        · rw [if_pos hi] at o1
          simp only [] at o1
          split at o1
          · rename_i hz
            exact .inr ⟨i, hv, hi, by rw [sizeLine_eq]; omega, go _ _ _ _ ⟨ι1, S1, τ, r1, rs1, o1⟩⟩
          · exact o1.elim
        · rw [if_neg hi] at o1
          exact o1.elim
      | non => exact o1.elim
      | bl b => exact o1.elim
      | tup xs => exact o1.elim
      | ref n => exact o1.elim
      | cls c => exact o1.elim
    unfold cpPt at h1
    split at h1
    · rename_i x k1 k2
      cases h1
      refine ⟨_ :: ts, .cons pe_str hj, fun acc σ H R z => ?_⟩
      have w := k_st (cm := cm) (Γ := Γ) (W := W) (v := .str x) (x := .str x) (fun _ _ _ => by simp only [RV]) (key acc σ H R z)
      rcases w with w | ⟨i, hi, _⟩
      · exact w
      · cases hi
    · rename_i e' k pos
      split at h1
      · rename_i hk
        subst hk
        refine ⟨_ :: ts, .cons (pe_fmt (ih e' p h1)) hj, fun acc σ H R z => tG.mono (key acc σ H R z) fun v H1 w => ?_⟩
        rcases w with ⟨y, rfl, h3, h4⟩ | ⟨i, rfl, h0, h3, h4⟩
        · refine .inl ⟨y, rfl, ?_, y, rfl, h3, h4⟩
          have : (acc ++ y).length = acc.length + y.length := by first | exact Str.length_append .. | simp
          omega
        · exact .inr ⟨i, rfl, h0, _, rfl, h3, h4⟩
      · cases h1
    · cases h1
theorem sound_fst {W : WX} {f : Expr → Option PX} (ih : ∀ e p, f e = some p → PE X e (tI X.K cm W (evE Γ p))) {v1 v2 : Expr} {vs : List Expr} {ps : List PX} {pos : Pos} (h : optAll (cpPt f) (v1 :: v2 :: vs) = some ps) : PE X (.JoinedStr (v1 :: v2 :: vs) pos) (tI X.K cm W (evE Γ (.fst ps))) := by
  obtain ⟨ts, hj, go⟩ := parts_st ih _ _ h
  refine PE.weak (pe_joined hj) fun σ H Q z => go _ _ _ _ ?_
  have z' : tI X.K cm W (fun τ S => (evF Γ ps Str.empty τ S).bind fun z S1 => .ok (.str z) S1) σ H Q := by
    obtain ⟨ι, S, τ, rl, rs, o⟩ := z
    exact ⟨ι, S, τ, rl, rs, by simp only [evE] at o; exact o⟩
  refine tG.bind (RA := RId) (f := fun τ z S1 => .ok (IV.str z) S1) z' fun ι1 S1 H1 τ a v r1 rs1 ra o1 => ?_
  cases ra
  exact o1 ι1 H1 (.str a) Step.refl r1 (by simp only [RVS, RV])
end
end Wg
/-! WgN: the soundness of expressions, by induction. -/
namespace Wg
open PySem PySem.Spec PyProof.Rows L2 StX ClX
theorem gcW_E {cm : Cm} {Γ : Gam} {X : Cx} {W : WX} {e : Expr} {ps : List PX} {p : PX} (h : PE X e (tI X.K cm W (evE Γ p))) : PE X e (tI X.K cm W (evE Γ (gcW ps p))) := by
  unfold gcW
  split
  · exact PE.weak h fun σ H Q q => settle_st (m := evE Γ p) (by
      obtain ⟨ι, S, τ, rl, rs, o⟩ := q
      exact ⟨ι, S, τ, rl, rs, by simp only [evE] at o; exact o⟩)
  · exact h
/-- a test: what is made on the way is dropped -/
theorem settle_tT {K : PySem.W.Frag} {cm : Cm} {W : WX} {σ : L2.St} {H : Hp} {R : Bool → Hp → Prop} {m : Sl → Sto → Rs IV} (h : tT K cm W (fun τ S => (m τ S).settle S) σ H R) : tT K cm W m σ H R := by
  obtain ⟨ι, S, τ, rl, rs, o⟩ := h
  refine ⟨ι, S, τ, rl, rs, ?_⟩
  dsimp only [asB] at o ⊢
  cases e : m τ S with
  | bad => rw [e] at o; exact o
  | exc c S1 =>
    rw [e] at o
    intro ι1 H1 st r1 C hC
    obtain ⟨a1, a2, a3⟩ := settle_ok (v := .non) (x := .non) rl st r1 (by simp only [RV])
    exact o ι1 H1 a1 a2 C hC
  | ok v S1 =>
    rw [e] at o
    cases v with
    | bl b =>
      intro ι1 H1 b' st r1 eb
      obtain ⟨a1, a2, a3⟩ := settle_ok (v := .bl b) (x := .bl b) rl st r1 (by simp only [RV])
      exact o ι1 H1 b' a1 a2 eb
    | non => exact o.elim
    | int b => exact o.elim
    | str b => exact o.elim
    | tup b => exact o.elim
    | ref b => exact o.elim
    | cls b => exact o.elim
theorem gcW_T {cm : Cm} {Γ : Gam} {X : Cx} {W : WX} {e : Expr} {ps : List PX} {p : PX} (h : PT X e (tT X.K cm W (evE Γ p))) : PT X e (tT X.K cm W (evE Γ (gcW ps p))) := by
  unfold gcW
  split
  · exact PT.weak h fun σ H Q q => settle_tT (m := evE Γ p) (by
      obtain ⟨ι, S, τ, rl, rs, o⟩ := q
      exact ⟨ι, S, τ, rl, rs, by simp only [evE] at o; exact o⟩)
  · exact h
theorem PW.weak {X : Cx} {e : Expr} {t t' : TT} (h : PW X e t) (g : ∀ σ H Q, t' σ H Q → t σ H Q) : PW X e t' := ⟨fun wh pins s σ H Q I q => h.run wh pins s σ H Q I (g σ H Q q)⟩
section
variable {g : GI} {c : CC} {cm : Cm} {Γ : Gam} {X : Cx} {W : WX} {k : Nat} {n : Nat}
abbrev Snd (cm : Cm) (Γ : Gam) (X : Cx) (W : WX) (e : Expr) (p : PX) : Prop := PE X e (tI X.K cm W (evE Γ p)) ∧ (noIf e = true → PT X e (tT X.K cm W (evE Γ p)))
theorem sound_and (ih : ∀ e p, cpE g n c e = some p → Snd cm Γ X W e p) {pos : Pos} : ∀ (es : List Expr) (ps : List PX) (p : PX), es.all noIf = true → optAll (cpE g n c) es = some ps → andL ps = some p →
    PE X (.BoolOp .And es pos) (tI X.K cm W (evE Γ p)) ∧ PW X (.BoolOp .And es pos) (tT X.K cm W (evE Γ p))
  | [], ps, p, _, h, e => by rw [optAll_nil h] at e; simp [andL] at e
  | [a], ps, p, hi, h, e => by
    obtain ⟨q, r, rfl, h1, h2⟩ := optAll_cons h
    rw [optAll_nil h2] at e
    simp only [andL, Option.some.injEq] at e; subst e
    simp only [List.all_cons, List.all_nil, Bool.and_true] at hi
    exact ⟨pe_one (ih a q h1).1, pw_and1 ((ih a q h1).2 hi)⟩
  | a :: b :: rest, ps, p, hi, h, e => by
    obtain ⟨q, r, rfl, h1, h2⟩ := optAll_cons h
    obtain ⟨q2, r2, rfl, h3, h4⟩ := optAll_cons h2
    rw [List.all_cons, Bool.and_eq_true] at hi
    simp only [andL] at e
    cases e2 : andL (q2 :: r2) with
    | none => rw [e2] at e; cases e
    | some w =>
      rw [e2] at e; cases e
      obtain ⟨i1, i2⟩ := sound_and ih (pos := pos) (b :: rest) (q2 :: r2) w hi.2 h2 e2
      exact ⟨PE.weak (pe_and (ih a q h1).1 i1) fun σ H Q z => and_st z, PW.weak (pw_and ((ih a q h1).2 hi.1) i2) fun σ H Q z => t_and z⟩
theorem sound_or (ih : ∀ e p, cpE g n c e = some p → Snd cm Γ X W e p) {pos : Pos} : ∀ (es : List Expr) (ps : List PX) (p : PX), es.all noIf = true → optAll (cpE g n c) es = some ps → orL ps = some p →
    PE X (.BoolOp .Or es pos) (tI X.K cm W (evE Γ p)) ∧ PW X (.BoolOp .Or es pos) (tT X.K cm W (evE Γ p))
  | [], ps, p, _, h, e => by rw [optAll_nil h] at e; simp [orL] at e
  | [a], ps, p, hi, h, e => by
    obtain ⟨q, r, rfl, h1, h2⟩ := optAll_cons h
    rw [optAll_nil h2] at e
    simp only [orL, Option.some.injEq] at e; subst e
    simp only [List.all_cons, List.all_nil, Bool.and_true] at hi
    exact ⟨pe_one (ih a q h1).1, pw_or1 ((ih a q h1).2 hi)⟩
  | a :: b :: rest, ps, p, hi, h, e => by
    obtain ⟨q, r, rfl, h1, h2⟩ := optAll_cons h
    obtain ⟨q2, r2, rfl, h3, h4⟩ := optAll_cons h2
    rw [List.all_cons, Bool.and_eq_true] at hi
    simp only [orL] at e
    cases e2 : orL (q2 :: r2) with
    | none => rw [e2] at e; cases e
    | some w =>
      rw [e2] at e; cases e
      obtain ⟨i1, i2⟩ := sound_or ih (pos := pos) (b :: rest) (q2 :: r2) w hi.2 h2 e2
      exact ⟨PE.weak (pe_or (ih a q h1).1 i1) fun σ H Q z => or_st z, PW.weak (pw_or ((ih a q h1).2 hi.1) i2) fun σ H Q z => t_or z⟩
theorem op_tI {m : Sl → Sto → Rs IV} {m' : Sl → Sto → Rs IV} (h : ∀ τ S, m τ S = m' τ S) {σ : L2.St} {H : Hp} {Q : VK} {K : PySem.W.Frag} (q : tI K cm W m σ H Q) : tI K cm W m' σ H Q := by
  have : m = m' := funext fun τ => funext fun S => h τ S
  rw [← this]; exact q
end
theorem rg_int (n : Int) : ((List.range (n - 0).toNat).map fun i : Nat => V.int (0 + (i : Nat))) = (List.range n.toNat).map fun i : Nat => V.int (i : Nat) := by
  rw [Int.sub_zero]
  exact List.map_congr_left fun i _ => by rw [Int.zero_add]
theorem rvs_rng {K : PySem.W.Frag} {ι : Nat → Addr} {H : Hp} {m : Nat} (n : Int) : RVs K ι m H (rngI n.toNat) (rgV 0 n) := by
  have e : rngI n.toNat = ((List.range n.toNat).map fun i : Nat => (i : Int)).map IV.int := by simp [rngI]
  have e2 : rgV 0 n = ((List.range n.toNat).map fun i : Nat => (i : Int)).map V.int := by
    unfold rgV
    rw [rg_int, List.map_map]
    rfl
  rw [e, e2]
  exact rvs_ints _
def tLenSetG (K : PySem.W.Frag) (ta : TE) : TE := fun σ H Q => ta σ H fun x H1 => ∃ (l : Addr) (ns : List Int), x = .ref l ∧ SqL K H1 l (ns.map V.int) ∧ ns.length ≤ 4000 ∧ Q (.int ((PyProof.Rows.firstMet (fun i => ns.getD i 0) ns.length).length : Nat)) H1
theorem pe_lenSetG {X : Cx} {a : Expr} {ta : TE} {p p2 q pos : Pos} (hg : Gl X "len") (hm : X.mg "len" = none) (hg2 : Gl X "set") (hm2 : X.mg "set" = none) (ha : PE X a ta) (hc : X.calm = true)
    (na : starEach [a] X.env = (false, eval a X.env) :: starEach [] X.env) : PE X (.Call (.Name "len" p) [.Call (.Name "set" p2) [a] [] q] [] pos) (tLenSetG X.K ta) := by
  refine ⟨fun pins s σ H Q I h => ?_⟩
  refine Call_ (ld_blt I hg hm boot_len ?_)
  refine PyProof.Rows.callWith_builtin1 (PyProof.Rows.args_cons ?_ rfl) rfl rfl
  refine Call_ (ld_blt I hg2 hm2 boot_set ?_)
  refine PyProof.Rows.callWith_type1 (PyProof.Rows.args_cons (thn (ha.run pins s σ H _ I h) fun v s1 ⟨x, H1, I1, r1, q1⟩ => PyProof.Rows.args_nil ?_) na) na rfl
  obtain ⟨l, ns, rfl, hq, hl, q1⟩ := q1
  cases r1
  obtain ⟨its, r, pl, hz⟩ := I1.list hq
  have hlen : its.toArray.size = ns.length := by rw [List.size_toArray, ← r.length, List.length_map]
  refine call_set_list (I1.ok.hd hc) pl.isList (by simpa using RZ.intsAre_vals r) (by rw [hlen]; unfold scanBound; omega) fun h' tk hS hk => ?_
  refine PyProof.Rows.args_nil ?_
  rw [hlen] at hS
  have hfl := PyProof.Rows.firstMet_length_le (fun i => ns.getD i 0) ns.length
  obtain ⟨o, es, ep, t, ho, hex, hd, _, _, _, hf, hn⟩ := hS
  have I2 : Inv X pins σ H1 { s1 with heap := h', toks := tk } := I1.kept fun b o e => hk b o (Heap.lt_size e) e
  exact call_len_set ho hex hd hf (by rw [hn] <;> omega) ⟨.int _, H1, I2.tok _, ⟨_, by rw [hn]⟩, q1⟩
theorem sound_lset {g : GI} {c : CC} {cm : Cm} {Γ : Gam} {X : Cx} {W : WX} {k n : Nat} (C : CxE g c cm Γ X W k) (hc : X.calm = true) {fp pos : Pos} {args : List Expr} {a : Expr} {p1 : PX} (hgl : Gl X "len") (hm : X.mg "len" = none) (hr : stOf g c args = some a) (h1 : cpE g n c a = some p1)
    (ha : PE X a (tI X.K cm W (evE Γ p1))) : Snd cm Γ X W (.Call (.Name "len" fp) args [] pos) (.lset p1) := by
  unfold stOf at hr
  split at hr
  · rename_i x px a' rpos
    split at hr
    · rename_i hx
      simp only [Bool.and_eq_true, decide_eq_true_eq] at hx
      cases hr
      obtain ⟨⟨rfl, hx2⟩, hx3⟩ := hx
      refine mkT ?_ (by intro _; rfl)
      refine PE.weak (pe_lenSetG hgl hm (C.gl hx2) (C.wd.blt _ hx3) ha hc (starEach_cons (cpE_star h1))) fun σ H Q q => ?_
      exact tG.bind (f := fun τ x S1 => lsetI x S1) (op_tI (fun τ S => by simp only [evE]) q) fun ι1 S1 H1 τ a v r1 rs ra o => by
        unfold lsetI at o
        split at o
        · split at o
          · rename_i m xs e
            split at o
            · rename_i ns e2
              split at o
              · rename_i hle
                obtain ⟨vs, rfl, h1, h2⟩ := lst_ok r1 ra e
                have := ints_ok e2 h2
                subst this
                have o' : OutV X.K cm ι1 S1 H1 (.ok (.int ((PyProof.Rows.firstMet (fun i => ns.getD i 0) ns.length).length : Nat)) S1) Q := OutV.of o fun _ _ => by simp
                exact ⟨_, ns, rfl, .inl (.inl h1), hle, o'.here r1 (by simp only [RV])⟩
              · exact o.elim
            · exact o.elim
          · exact o.elim
        · exact o.elim
    · cases hr
  · cases hr
theorem sound_sset {g : GI} {c : CC} {cm : Cm} {Γ : Gam} {X : Cx} {W : WX} {k n : Nat} (C : CxE g c cm Γ X W k) (hc : X.calm = true) {fp pos : Pos} {args : List Expr} {a : Expr} {p1 : PX} (hgl : Gl X "sorted") (hm : X.mg "sorted" = none) (hr : stOf g c args = some a) (h1 : cpE g n c a = some p1)
    (ha : PE X a (tI X.K cm W (evE Γ p1))) : Snd cm Γ X W (.Call (.Name "sorted" fp) args [] pos) (.sset p1) := by
  unfold stOf at hr
  split at hr
  · rename_i x px a' rpos
    split at hr
    · rename_i hx
      simp only [Bool.and_eq_true, decide_eq_true_eq] at hx
      cases hr
      obtain ⟨⟨rfl, hx2⟩, hx3⟩ := hx
      refine mkT ?_ (by intro _; rfl)
      refine PE.weak (pe_sset hgl hm (C.gl hx2) (C.wd.blt _ hx3) ha hc (starEach_cons (cpE_star h1))) fun σ H Q q => ?_
      exact tG.bind (f := fun τ x S1 => ssetI x S1) (op_tI (fun τ S => by simp only [evE]) q) fun ι1 S1 H1 τ a v r1 rs ra o => by
        unfold ssetI at o
        split at o
        · split at o
          · rename_i m xs e
            split at o
            · rename_i ns e2
              split at o
              · rename_i hle
                obtain ⟨vs, rfl, h1, h2⟩ := lst_ok r1 ra e
                have := ints_ok e2 h2
                subst this
                exact ⟨_, ns, rfl, .inl (.inl h1), hle, OutV.lst (OutV.of o fun _ _ => by simp [Wg.alloc]) r1 (rvs_ints _)⟩
              · exact o.elim
            · exact o.elim
          · exact o.elim
        · exact o.elim
    · cases hr
  · cases hr
/-- tuple(range(n)), its object seen whole -/
def tTupRgN (te : L2.St → Hp → (Int → Int → Hp → Prop) → Prop) : TE := fun σ H Q => te σ H fun a b H1 => RgOk a b ∧ ∀ (q : Addr) (o : Obj), H1 q = none → o.dict = none → Q (.ref q) (upd H1 q (.frz o (.tup (rgV a b))))
theorem pe_tupRgN {X : Cx} {e : Expr} {te : L2.St → Hp → (Int → Int → Hp → Prop) → Prop} {p pos : Pos} (hc : X.calm = true) (hg : Gl X "tuple") (hm : X.mg "tuple" = none) (he : PRg X e te) (na : starEach [e] X.env = (false, eval e X.env) :: starEach [] X.env) :
    PE X (.Call (.Name "tuple" p) [e] [] pos) (tTupRgN te) := ⟨fun pins s σ H Q I h =>
  Call_ (ld_blt I hg hm boot_tuple (PyProof.Rows.callWith_type1 (args_cons (thn (he pins s σ H _ I h) fun x s1 ⟨r, a, b, t, u, v, H1, ex, hr, I1, ok, q⟩ => args_nil (by
    subst ex
    obtain ⟨c1, c2, c3, c4, c5⟩ := ok
    refine call_tuple_range (n := (b - a).toNat) (I1.ok.hd hc) hr (small_one c1 c2 c3 c4) (rangeSize_nat a b) c5 fun h' tk acc hk hi => ?_
    have I2 := tNew (us := acc.toList) (vs := rgV a b) (I1.kept (t' := tk) hk) (vals_rg hi) (by rw [rgV_length, sizeLine_eq]; omega)
    have ea : acc.toList.toArray = acc := Array.toArray_toList
    unfold tObj at I2
    rw [ea] at I2
    exact ⟨.ref _, _, I2.1, rfl, q _ _ I2.2 rfl⟩)) na) na))⟩
theorem sound_rgs {g : GI} {c : CC} {cm : Cm} {Γ : Gam} {X : Cx} {W : WX} {k n : Nat} (C : CxE g c cm Γ X W k) (hc : X.calm = true) {bf : Bf} {fp pos : Pos} {args : List Expr} {a : Expr} {t : Bool} {p1 : PX} (hgl : Gl X (bN bf)) (hm : X.mg (bN bf) = none) (hr : rgOf g c args = some a) (ht : isLT bf = some t) (h1 : cpE g n c a = some p1)
    (ha : PE X a (tI X.K cm W (evE Γ p1))) : Snd cm Γ X W (.Call (.Name (bN bf) fp) args [] pos) (.rgs t p1) := by
  unfold rgOf at hr
  split at hr
  · rename_i x px a' rpos
    split at hr
    · rename_i hx
      simp only [Bool.and_eq_true, decide_eq_true_eq] at hx
      cases hr
      obtain ⟨⟨rfl, hx2⟩, hx3⟩ := hx
      have hrg : PRg X (.Call (.Name "range" px) [a] [] rpos) (tRg1 (tI X.K cm W (evE Γ p1))) := prg_1 (C.gl hx2) (C.wd.blt _ hx3) ha (starEach_cons (cpE_star h1))
      have go : ∀ (R : Int → Int → Hp → Prop) (σ : L2.St) (H : Hp) (f : IV → Sto → Rs IV) (Q : VK), tI X.K cm W (fun τ S => (evE Γ p1 τ S).bind fun x S1 => f x S1) σ H Q → (∀ ι1 S1 H1 (i : Int), Rel X.K cm ι1 S1 H1 → Out X.K cm W ι1 S1 H1 σ (RVS X.K) (f (.int i) S1) Q → R 0 i H1) → (∀ a S1, (∀ i, a ≠ .int i) → f a S1 = .bad) → tRg1 (tI X.K cm W (evE Γ p1)) σ H R := fun R σ H f Q q hR hf =>
        tG.bind (f := fun τ x S1 => f x S1) q fun ι1 S1 H1 τ a v r1 rs ra o => by
          cases a with
          | int i =>
            have : v = .int i := by simpa only [RVS, RV] using ra
            exact ⟨i, this, hR ι1 S1 H1 i r1 o⟩
          | non => rw [hf _ _ (fun i => by simp)] at o; exact o.elim
          | bl b => rw [hf _ _ (fun i => by simp)] at o; exact o.elim
          | str b => rw [hf _ _ (fun i => by simp)] at o; exact o.elim
          | tup b => rw [hf _ _ (fun i => by simp)] at o; exact o.elim
          | ref b => rw [hf _ _ (fun i => by simp)] at o; exact o.elim
          | cls b => rw [hf _ _ (fun i => by simp)] at o; exact o.elim
      refine mkT ?_ (by intro _; rfl)
      have bad : ∀ a S1, (∀ i, a ≠ .int i) → rgsI t a S1 = .bad := fun a S1 h => by
        unfold rgsI
        split
        · exact absurd rfl (h _)
        · rfl
      cases bf <;> simp only [isLT, Option.some.injEq] at ht
      all_goals first | (cases ht; done) | skip
      · subst ht
        refine PE.weak (pe_listRg hc hgl hm hrg rfl) fun σ H Q q => go _ σ H (rgsI false) Q (op_tI (fun τ S => by simp only [evE]) q) (fun ι1 S1 H1 i r1 o => ?_) bad
        unfold rgsI at o
        simp only [Bool.false_eq_true, if_false] at o
        split at o
        · rename_i hb
          simp only [Bool.and_eq_true, decide_eq_true_eq] at hb
          refine ⟨RgOk.of_le (by omega) (by omega) (by omega) (by omega), fun q hq => ?_⟩
          have o' : OutV X.K cm ι1 S1 H1 (alloc (.lst (rngI i.toNat)) S1) Q := OutV.of o fun _ _ => by simp [alloc]
          exact o'.lst r1 (rvs_rng i) q hq
        · exact o.elim
      · subst ht
        refine PE.weak (pe_tupRgN hc hgl hm hrg rfl) fun σ H Q q => go _ σ H (rgsI true) Q (op_tI (fun τ S => by simp only [evE]) q) (fun ι1 S1 H1 i r1 o => ?_) bad
        unfold rgsI at o
        simp only [if_true] at o
        split at o
        · rename_i hb
          simp only [Bool.and_eq_true, decide_eq_true_eq] at hb
          have o' : OutV X.K cm ι1 S1 H1 (.ok (.tup (rngI i.toNat)) S1) Q := OutV.of o fun _ _ => by simp
          exact ⟨RgOk.of_le (by omega) (by omega) (by omega) (by omega), o'.tup r1 (rvs_rng i)⟩
        · exact o.elim
    · cases hr
  · cases hr
set_option maxHeartbeats 1000000 in
theorem sound_E (g : GI) (cm : Cm) (Γ : Gam) : ∀ (n : Nat) (c : CC) (X : Cx) (W : WX) (k : Nat) (e : Expr) (p : PX), CxE g c cm Γ X W k → cpE g n c e = some p → Snd cm Γ X W e p := by
  intro n
  induction n with
  | zero => intro c X W k e p _ h; simp [cpE] at h
  | succ n IH =>
    intro c X W k e p C h
    have ih : ∀ e p, cpE g n c e = some p → Snd cm Γ X W e p := fun e p h => IH c X W k e p C h
    have ihE : ∀ e p, cpE g n c e = some p → PE X e (tI X.K cm W (evE Γ p)) := fun e p h => (ih e p h).1
    simp only [cpE] at h
    split at h
    · cases h; exact mkT (PE.weak pe_int fun σ H Q q => k_st (fun _ _ _ => by simp only [RV]) q) (by intro _; rfl)
    · cases h; exact mkT (PE.weak pe_bl fun σ H Q q => k_st (fun _ _ _ => by simp only [RV]) q) (by intro _; rfl)
    · cases h; exact mkT (PE.weak pe_non fun σ H Q q => k_st (fun _ _ _ => by simp only [RV]) q) (by intro _; rfl)
    · cases h; exact mkT (PE.weak pe_str fun σ H Q q => k_st (fun _ _ _ => by simp only [RV]) q) (by intro _; rfl)
    · -- a name
      rename_i x pos
      split at h
      · rename_i hp
        obtain ⟨d1, d2, d3⟩ := plain_dbg hp
        split at h
        · rename_i hv
          cases e1 : ixOf c.N x with
          | none => rw [e1] at h; cases h
          | some i =>
            rw [e1] at h; cases h
            exact mkT (PE.weak (pe_var (by rw [C.N]; exact ixOf_get e1) (C.vis hv) d1 d2) fun σ H Q q => loc_st q) (by intro _; rfl)
        · split at h
          · rename_i hg
            simp only [Bool.and_eq_true, decide_eq_true_eq] at hg
            cases h
            refine mkT ?_ (by intro _; rfl)
            cases e1 : Γ.glob x with
            | none =>
              refine ⟨fun pins s σ H Q I q => ?_⟩
              obtain ⟨ι, S, τ, rl, rs, o⟩ := q
              simp only [evE, e1] at o
              exact o.elim
            | some v =>
              obtain ⟨u, z, h1, h2, h3⟩ := C.wd.glob x v hg.2 e1
              refine PE.weak (pe_glob (C.gl hg.1) h1 h2 d1) fun σ H Q q => ?_
              obtain ⟨ι, S, τ, rl, rs, o⟩ := q
              simp only [evE, e1] at o
              exact o ι H z Step.refl rl (h3 _ _ _)
          · split at h
            · rename_i hg
              simp only [Bool.and_eq_true, decide_eq_true_eq] at hg
              cases h
              obtain ⟨Cx', h1, ck⟩ := C.wd.cls x hg.2
              refine mkT (PE.weak (pe_glob (v := .ref Cx') (C.gl hg.1) ck.mg rfl d1) fun σ H Q q => k_st (fun _ _ _ => ?_) q) (by intro _; rfl)
              simp only [RV]
              exact ⟨Cx', rfl, ck.ns⟩
            · cases h
      · cases h
    · -- e.f
      rename_i o f pos
      split at h
      · rename_i hf
        simp only [Bool.and_eq_true, decide_eq_true_eq, Bool.not_eq_true'] at hf
        cases e1 : cpE g n c o with
        | none => rw [e1] at h; cases h
        | some q1 =>
          rw [e1] at h; cases h
          exact mkT (PE.weak (pe_attG (k := k) (ihE o q1 e1) (C.room hf.2) C.grd (noSup_base hf.1.2)) fun σ H Q q => att_st C.wd hf.1.1 q) (by intro _; rfl)
      · cases h
    · -- a binary operator
      rename_i a op b pos
      split at h
      · rename_i o p1 q1 e1 e2 e3
        cases h
        have := opOf_ok e1
        subst this
        exact mkT (PE.weak (pe_op (op_bin (cm := cm) o) (ihE a p1 e2) (ihE b q1 e3)) fun σ H Q q => tOp_of (fun _ _ _ _ _ => binI_ne) (op_tI (fun τ S => by simp only [evE]) q)) (by intro _; rfl)
      · cases h
    · rename_i a pos
      cases e1 : cpE g n c a with
      | none => rw [e1] at h; cases h
      | some q1 =>
        rw [e1] at h; cases h
        exact mkT (PE.weak (pe_un (op_neg (cm := cm)) (ihE a q1 e1)) fun σ H Q q => tUn_of (fun _ _ _ _ => negI_ne) (op_tI (fun τ S => by simp only [evE]) q)) (by intro _; rfl)
    · rename_i a pos
      split at h
      · rename_i hn
        cases e1 : cpE g n c a with
        | none => rw [e1] at h; cases h
        | some q1 =>
          rw [e1] at h; cases h
          exact ⟨PE.weak (pe_not (ihE a q1 e1)) fun σ H Q q => not_st q, fun _ => PT.weak (pt_not ((ih a q1 e1).2 hn)) fun σ H Q q => t_not q⟩
      · cases h
    · -- a comparison
      rename_i a op b pos
      split at h
      · cases h
      · rename_i hm
        split at h
        · rename_i o p1 q1 e1 e2 e3
          cases h
          have := cpOf_ok e1
          subst this
          have hm' : behindInMarks (cOp o) b = false := by simpa using hm
          have go : ∀ σ H Q, tI X.K cm W (evE Γ (.cmp o p1 q1)) σ H Q → tOp (rI2 X.K cm (cmpI o)) (tI X.K cm W (evE Γ p1)) (tI X.K cm W (evE Γ q1)) σ H Q := fun σ H Q q => tOp_of (fun _ _ _ _ _ => cmpI_ne) (op_tI (fun τ S => by simp only [evE]) q)
          exact ⟨gcW_E (PE.weak (pe_cmpR (op_cmpA C.units C.wd.noEq o) (ihE a p1 e2) (ihE b q1 e3) hm') go), fun _ => gcW_T (PT.weak (pt_cmpR (op_cmpA C.units C.wd.noEq o) (ihE a p1 e2) (ihE b q1 e3) hm') fun σ H R q => tTest_of (go σ H) q)⟩
        · cases h
    · rename_i a op op' b d pos
      split at h
      · cases h
      · rename_i hm
        split at h
        · rename_i o o' p1 q1 r1 e1 e2 e3 e4 e5
          cases h
          have := cpOf_ok e1
          subst this
          have := cpOf_ok e2
          subst this
          have hm' : lastMarks [cOp o, cOp o'] [b, d] = false := by simpa using hm
          exact ⟨PE.weak (pe_chain (op_cmpA C.units C.wd.noEq o) (op_cmpA C.units C.wd.noEq o') (ihE a p1 e3) (ihE b q1 e4) (ihE d r1 e5) hm') fun σ H Q q => chain_st q,
            fun _ => PT.weak (pt_chain (op_cmpA C.units C.wd.noEq o) (op_cmpA C.units C.wd.noEq o') (ihE a p1 e3) (ihE b q1 e4) (ihE d r1 e5) hm') fun σ H R q => tTest_of (fun Q z => chain_st z) q⟩
        · cases h
    · rename_i es pos
      split at h
      · cases h
      · rename_i hi
        split at h
        · rename_i ps e1
          obtain ⟨i1, i2⟩ := sound_and ih (pos := pos) es ps p (by simpa using hi) e1 h
          exact ⟨i1, fun _ => i2.pt⟩
        · cases h
    · rename_i es pos
      split at h
      · cases h
      · rename_i hi
        split at h
        · rename_i ps e1
          obtain ⟨i1, i2⟩ := sound_or ih (pos := pos) es ps p (by simpa using hi) e1 h
          exact ⟨i1, fun _ => i2.pt⟩
        · cases h
    · rename_i t a b pos
      split at h
      · cases h
      · rename_i hi
        split at h
        · rename_i p1 q1 r1 e1 e2 e3
          cases h
          exact ⟨PE.weak (pe_ifExp ((ih t p1 e1).2 (by simpa using hi)) (ihE a q1 e2) (ihE b r1 e3)) fun σ H Q q => ite_st q, fun z => by simp [noIf] at z⟩
        · cases h
    · rename_i es kk pos
      cases e1 : optAll (cpE g n c) es with
      | none => rw [e1] at h; cases h
      | some ps =>
        rw [e1] at h; cases h
        exact mkT (PE.weak (pe_tupN (sound_A C ihE es ps e1)) fun σ H Q q => tTup_st q) (by intro _; rfl)
    · rename_i es pos
      cases e1 : optAll (cpE g n c) es with
      | none => rw [e1] at h; cases h
      | some ps =>
        rw [e1] at h; cases h
        exact mkT (PE.weak (pe_lst (sound_A C ihE es ps e1)) fun σ H Q q => tLst_st q) (by intro _; rfl)
    · split at h
      · cases h; exact mkT (PE.weak pe_dnewX fun σ H Q q => dnt_st q) (by intro _; rfl)
      · cases h; exact mkT (PE.weak pe_dnewK fun σ H Q q => dnew_st q) (by intro _; rfl)
    · cases h
      exact mkT (PE.weak (pe_disp (pps_cons pe_int pe_int pps_nil) rfl rfl (by simp) (by simp)) fun σ H Q q => ddisp_st q) (by intro _; rfl)
    · rename_i a b pos hnc
      split at h
      · rename_i p1 q1 e1 e2
        cases h
        exact mkT (PE.weak (pe_disp (pps_cons (ihE a p1 e1) (ihE b q1 e2) pps_nil) rfl rfl (by simp) (by simp)) fun σ H Q q => dc1_st q) (by intro _; rfl)
      · cases h
    · rename_i a k p1 p2 p3 pos
      cases e1 : cpE g n c a with
      | none => rw [e1] at h; cases h
      | some q1 =>
        rw [e1] at h; cases h
        exact mkT (PE.weak (pe_revA (rev_any (cm := cm)) (ihE a q1 e1)) fun σ H Q q => tUn_of (fun _ _ _ _ => revI_ne) (op_tI (fun τ S => by simp only [evE]) q)) (by intro _; rfl)
    · -- a slice
      rename_i a lo hi p2 pos
      split at h
      · rename_i p1 l u e1 e2 e3
        cases h
        exact mkT (PE.weak (pe_slice (sl_any (cm := cm)) (ihE a p1 e1) (sound_O ihE e2) (sound_O ihE e3)) fun σ H Q q => tSl_st q) (by intro _; rfl)
      · cases h
    · rename_i a b pos hn1 hns
      split at h
      · rename_i p1 q1 e1 e2
        cases h
        exact mkT (PE.weak (pe_ix (ix_any (cm := cm) C.units) (ihE a p1 e1) (ihE b q1 e2) (plainIx e2)) fun σ H Q q => tOp_of (fun _ _ _ _ _ => ixI_ne) (op_tI (fun τ S => by simp only [evE]) q)) (by intro _; rfl)
      · cases h
    · -- a call
      rename_i f fp args pos
      split at h
      · rename_i hp
        rw [Bool.and_eq_true, Bool.and_eq_true] at hp
        obtain ⟨d1, d2, d3⟩ := plain_dbg hp.1.1
        have hgl := C.gl hp.1.2
        split at h
        · rename_i hd
          split at h
          · cases h
          rename_i hot
          have hot' : c.hot = false := by simpa using hot
          obtain ⟨ad, m1, m2, F⟩ := C.wd.fn f hd
          cases e1 : optAll (cpE g n c) args with
          | none =>
            rw [e1] at h
            cases e2 : cpStar (cpE g n c) args with
            | none => simp only [e2] at h; cases h
            | some z =>
              obtain ⟨ps, q1⟩ := z
              simp only [e2, Option.map_some, Option.some.injEq] at h
              subst h
              refine mkT ?_ (by intro _; rfl)
              have go : ∀ σ H Q, tI X.K cm W (evE Γ (.calls f ps q1)) σ H Q → tCallS (spI X.K cm (Γ.call f)) (WE W) (tIs X.K cm W (evA Γ ps q1)) σ H Q := fun σ H Q q => calls_st q
              obtain ⟨hA, hs⟩ := sound_AS ihE args ps q1 e2
              rcases hs with ⟨x, p, rfl, rfl, hx⟩ | ⟨e0, r0, rfl, ⟨p0, hp0⟩, ps', hr0⟩
              · exact PE.weak (pe_callGS1 F (C.room1 hot') C.grd hgl m1 m2 C.tk (ihE x q1 hx) d1 rfl) fun σ H Q q => star1_st (go σ H Q q)
              · exact PE.weak (pe_callGS2 F (C.room1 hot') C.grd hgl m1 m2 C.tk hA d1 (starEach_cons (cpE_star hp0)) (star_any_true _ _ _ hr0)) go
          | some ps =>
            rw [e1] at h; cases h
            refine mkT ?_ (by intro _; rfl)
            have go : ∀ σ H Q, tI X.K cm W (evE Γ (.call f ps)) σ H Q → tCallS (spI X.K cm (Γ.call f)) (WE W) (tIs X.K cm W (evEs Γ ps)) σ H Q := fun σ H Q q => tCall_st (op_tI (fun τ S => by simp only [evE]) q)
            cases args with
            | nil =>
              have : ps = [] := optAll_nil e1
              subst this
              refine gcW_E (PE.weak (pe_callG0 F (C.room1 hot') C.grd hgl m1 m2 C.tk d1) fun σ H Q q => ?_)
              exact tNil_st (go σ H Q q)
            | cons a as =>
              have hA := sound_A C ihE (a :: as) ps e1
              obtain ⟨p1, r1, rfl, h1, h2⟩ := optAll_cons e1
              exact gcW_E (PE.weak (pe_callG F (C.room1 hot') C.grd hgl m1 m2 C.tk hA d1 (starEach_cons (cpE_star h1)) (cpEs_any h2)) go)
        · split at h
          · rename_i hb
            split at h
            · rename_i hi
              subst hi
              split at h
              · rename_i a T pT
                split at h
                · rename_i hT
                  simp only [Bool.and_eq_true, decide_eq_true_eq] at hT
                  obtain ⟨t1, t2, t3⟩ := plain_dbg hT.1.1
                  split at h
                  · rename_i ty p1 e1 e2
                    cases h
                    obtain ⟨k1, k2⟩ := tyOf_ok e1
                    have hTn : PE X (.Name T pT) (tC (.ty (tyN ty))) := pe_bltn (C.gl hT.1.2) (C.wd.blt T hT.2) (u := .type (tyN ty)) (by rw [← k1]; exact tyN_boot ty k2) rfl t3 t1
                    refine mkT (PE.weak (pe_callB (call_isi (X := X)) hgl (C.wd.blt _ hb) (by decide +kernel) (pa_cons (ihE a p1 e2) (pa_cons hTn pa_nil) (starEach_cons (cpE_star e2))) d3 d1 (starEach_cons (cpE_star e2)) rfl) fun σ H Q q => ?_) (by intro _; rfl)
                    have q' : tI X.K cm W (fun τ S => (evE Γ p1 τ S).bind fun x S1 => isiI x ty S1) σ H Q := op_tI (fun τ S => by simp only [evE]) q
                    exact tG.bind (f := fun τ x S1 => isiI x ty S1) q' fun ι1 S1 H1 τ a v r1 rs ra o1 => isi_ok (cm := cm) ty k2 H1 v Q ⟨ι1, S1, a, r1, ra, OutV.of o1 fun _ _ => isiI_ne⟩
                  · cases h
                · split at h
                  · rename_i hT
                    simp only [Bool.and_eq_true, decide_eq_true_eq] at hT
                    obtain ⟨t1, t2, t3⟩ := plain_dbg hT.1.1
                    cases e2 : cpE g n c a with
                    | none => rw [e2] at h; cases h
                    | some p1 =>
                      rw [e2] at h; cases h
                      obtain ⟨Cx', h1, ck⟩ := C.wd.cls T hT.2
                      have hTn : PE X (.Name T pT) (tC (.ref Cx')) := pe_glob (C.gl hT.1.2) ck.mg rfl t1
                      refine mkT (PE.weak (pe_callB (call_isi (X := X)) hgl (C.wd.blt _ hb) (by decide +kernel) (pa_cons (ihE a p1 e2) (pa_cons hTn pa_nil) (starEach_cons (cpE_star e2))) d3 d1 (starEach_cons (cpE_star e2)) rfl) fun σ H Q q => ?_) (by intro _; rfl)
                      have q' : tI X.K cm W (fun τ S => (evE Γ p1 τ S).bind fun x S1 => isoI Γ x T S1) σ H Q := op_tI (fun τ S => by simp only [evE]) q
                      exact tG.bind (f := fun τ x S1 => isoI Γ x T S1) q' fun ι1 S1 H1 τ a v r1 rs ra o1 => iso_R C.wd hT.2 ck.ns r1 ra (OutV.of o1 fun _ _ => isoI_ne)
                  · cases h
              · cases h
            · split at h
              · cases h
              rename_i hot
              have hot' : c.hot = false := by simpa using hot
              split at h
              · rename_i bf a as e1
                cases e2 : optAll (cpE g n c) (a :: as) with
                | none =>
                  rw [e2] at h
                  simp only [] at h
                  split at h
                  · rename_i a' t hr ht
                    cases e3 : cpE g n c a' with
                    | none => rw [e3] at h; cases h
                    | some q1 =>
                      rw [e3] at h; cases h
                      have hn := bfOf_ok e1
                      subst hn
                      exact sound_rgs (k := k) (W := W) (Γ := Γ) (cm := cm) C (C.calm hot') hgl (C.wd.blt _ hb) hr ht e3 (ihE a' q1 e3) 
                  · split at h
                    · rename_i a' hr hx0
                      cases e3 : cpE g n c a' with
                      | none => rw [e3] at h; cases h
                      | some q1 =>
                        rw [e3] at h; cases h
                        have hn := bfOf_ok e1
                        subst hn
                        exact sound_lset (k := k) (W := W) (Γ := Γ) (cm := cm) C (C.calm hot') hgl (C.wd.blt _ hb) hr e3 (ihE a' q1 e3)
                    · rename_i a' hr hx0
                      cases e3 : cpE g n c a' with
                      | none => rw [e3] at h; cases h
                      | some q1 =>
                        rw [e3] at h; cases h
                        have hn := bfOf_ok e1
                        subst hn
                        exact sound_sset (k := k) (W := W) (Γ := Γ) (cm := cm) C (C.calm hot') hgl (C.wd.blt _ hb) hr e3 (ihE a' q1 e3)
                    · cases h
                | some ps =>
                  rw [e2] at h; cases h
                  have hA := sound_A C ihE (a :: as) ps e2
                  obtain ⟨p1, r1, rfl, h1, h2⟩ := optAll_cons e2
                  have hn := bfOf_ok e1
                  subst hn
                  have go : ∀ σ H Q, tI X.K cm W (evE Γ (.blt bf (p1 :: r1))) σ H Q → tCB (rIl X.K cm (bltI bf)) (tIs X.K cm W (evEs Γ (p1 :: r1))) σ H Q := fun σ H Q q => tCB_st (fun _ _ _ _ => bltI_ne) (settle_st (op_tI (fun τ S => by simp only [evE]) q))
                  have hbo := bN_boot bf
                  have hR := blt_ok (cm := cm) (C.calm hot') C.grd (by have := C.units; omega) C.wd.dig bf
                  have hst := starEach_cons (es := as) (env := X.env) (cpE_star h1)
                  refine mkT (PE.weak ?_ go) (by intro _; rfl)
                  cases bf
                  case str => exact pe_callTy hR hgl (C.wd.blt _ hb) hbo hA d3 d1 hst (cpEs_any h2)
                  case int => exact pe_callTy hR hgl (C.wd.blt _ hb) hbo hA d3 d1 hst (cpEs_any h2)
                  case list => exact pe_callTy hR hgl (C.wd.blt _ hb) hbo hA d3 d1 hst (cpEs_any h2)
                  case tuple => exact pe_callTy hR hgl (C.wd.blt _ hb) hbo hA d3 d1 hst (cpEs_any h2)
                  all_goals exact pe_callB hR hgl (C.wd.blt _ hb) hbo hA d3 d1 hst (cpEs_any h2)
              · cases h
          · cases h
      · -- C(..)
        split at h
        · cases h
        rename_i hot
        have hot' : c.hot = false := by simpa using hot
        split at h
        · rename_i q0 e0
          have hf := ihE _ _ e0
          split at h
          · rename_i ps e1
            cases h
            refine mkT ?_ (by intro _; rfl)
            cases args with
            | nil =>
              have : ps = [] := optAll_nil e1
              subst this
              refine gcW_E (PE.weak (pe_newG0 (k := k) (W := W) hf (C.room hot') C.grd C.tk) fun σ H Q q => ?_)
              have z := new_st C.wd q
              unfold tNewG at z ⊢
              obtain ⟨ι, S, τ, rl, rs, o⟩ := z
              exact ⟨ι, S, τ, rl, rs, Out.imp o fun v H1 ⟨Cc, sp, h1, h2, h3⟩ => ⟨Cc, sp, h1, h2, tNil_st h3⟩⟩
            | cons a as =>
              have hA := sound_A C ihE (a :: as) ps e1
              obtain ⟨p1, r1, rfl, h1, h2⟩ := optAll_cons e1
              exact gcW_E (PE.weak (pe_newG (k := k) (W := W) hf (C.room hot') C.grd C.tk hA (starEach_cons (cpE_star h1)) (cpEs_any h2)) fun σ H Q q => new_st C.wd q)
          · cases e2 : cpStar (cpE g n c) args with
            | none => rw [e2] at h; cases h
            | some z =>
              obtain ⟨ps, q1⟩ := z
              simp only [e2, Option.map_some, Option.some.injEq] at h
              subst h
              refine mkT ?_ (by intro _; rfl)
              obtain ⟨hA, hs⟩ := sound_AS ihE args ps q1 e2
              rcases hs with ⟨x, p, rfl, rfl, hx⟩ | ⟨e0', r0, rfl, ⟨p0, hp0⟩, ps', hr0⟩
              · refine PE.weak (pe_newGS1 (k := k) (W := W) hf (C.room hot') C.grd C.tk (ihE x q1 hx) rfl) fun σ H Q q => ?_
                have z := news_st C.wd q
                obtain ⟨ι, S, τ, rl, rs, o⟩ := z
                exact ⟨ι, S, τ, rl, rs, Out.imp o fun v H1 ⟨Cc, sp, h1, h2, h3⟩ => ⟨Cc, sp, h1, h2, star1_st h3⟩⟩
              · exact PE.weak (pe_newGS2 (k := k) (W := W) hf (C.room hot') C.grd C.tk hA (starEach_cons (cpE_star hp0)) (star_any_true _ _ _ hr0)) fun σ H Q q => news_st C.wd q
        · cases h
    · -- o.m(..)
      rename_i o m apos args pos
      split at h
      · rename_i hm
        simp only [Bool.and_eq_true, decide_eq_true_eq] at hm
        obtain ⟨⟨hl, hs⟩, hlen⟩ := hm
        split at h
        · rename_i hmm
          split at h
          · cases h
          rename_i hot
          have hot' : c.hot = false := by simpa using hot
          split at h
          · rename_i p1 ps e1 e2
            cases h
            refine mkT ?_ (by intro _; rfl)
            cases args with
            | nil =>
              have : ps = [] := optAll_nil e2
              subst this
              exact gcW_E (PE.weak (pe_metG0 (k := k) (W := W) (ihE o p1 e1) (C.room1 hot') C.grd C.tk (noSup_base hs) hl) fun σ H Q q => met_st0 C.wd hmm.2 q)
            | cons a as =>
              have hA := sound_A C ihE (a :: as) ps e2
              obtain ⟨p2, r2, rfl, h1, h2⟩ := optAll_cons e2
              exact gcW_E (PE.weak (pe_metG (k := k) (W := W) (ihE o p1 e1) (C.room1 hot') C.grd C.tk hA (starEach_cons (cpE_star h1)) (cpEs_any h2) (noSup_base hs) hlen hl) fun σ H Q q => met_st C.wd hmm.2 q)
          · cases h
        · split at h
          · rename_i al0 al1 a
            split at h
            · rename_i hm1
              simp only [Bool.or_eq_true, decide_eq_true_eq] at hm1
              split at h
              · rename_i p1 q1 e1 e2
                cases h
                have hA := sound_A C ihE [a] [q1] (by simp only [optAll, e2])
                have hst := starEach_cons (es := []) (env := X.env) (cpE_star e2)
                have hfw : ((backTo pos (starEach [a] X.env)).all (fun x => !x.1) && (backToKw pos (keywordEach [] X.env)).all (fun x => x.1.isSome) && decide ([a].length + ([] : List Keyword).length + (if ([] : List Keyword).isEmpty then 0 else 1) < 30)) = true := by
                  rw [hst]; rfl
                rcases hm1 with ((rfl | rfl) | rfl) | rfl
                · exact mkT (gcW_E (PE.weak (pe_bmL (ihE o p1 e1) hA (noSup_base hs) hfw hl hst rfl) fun σ H Q q => mth_st PySem.F.slot_list_append PySem.F.type_list_append mt_append mth_append' q)) (by intro _; rfl)
                · exact mkT (gcW_E (PE.weak (pe_bmL (ihE o p1 e1) hA (noSup_base hs) hfw hl hst rfl) fun σ H Q q => mth_st PySem.F.slot_list_index PySem.F.type_list_index (mt_indexA (cm := cm) C.units) (fun H x y Q ⟨ι, S, a, b, h1, h2, h3, h4⟩ => ⟨ι, S, a, b, y, rfl, h1, h2, h3, h4⟩) q)) (by intro _; rfl)
                · exact mkT (gcW_E (PE.weak (pe_bmL (ihE o p1 e1) hA (noSup_base hs) hfw hl hst rfl) fun σ H Q q => mth_st PySem.F.slot_list_extend PySem.F.type_list_extend mt_extend mth_extend' q)) (by intro _; rfl)
                · exact mkT (gcW_E (PE.weak (pe_bmL (ihE o p1 e1) hA (noSup_base hs) hfw hl hst rfl) fun σ H Q q => mth_st PySem.F.slot_list_pop PySem.F.type_list_pop mt_popAt mth_pop' q)) (by intro _; rfl)
              · cases h
            · split at h
              · rename_i hm2
                split at h
                · rename_i p1 q1 e1 e2
                  cases h
                  exact mkT (gcW_E (pe_smt hm2 (ihE o p1 e1) (ihE a q1 e2) (starEach_cons (cpE_star e2)) (noSup_base hs) hl)) (by intro _; rfl)
                · cases h
              · cases h
          · cases h
      · cases h
    · rename_i v1 v2 vs pos
      cases e1 : optAll (cpPt (cpE g n c)) (v1 :: v2 :: vs) with
      | none => rw [e1] at h; cases h
      | some ps =>
        rw [e1] at h; cases h
        exact mkT (sound_fst ihE e1) (by intro _; rfl)
    · -- a comprehension
      rename_i elt tg iter ifs scope pos
      split at h
      · rename_i hb
        rw [Bool.and_eq_true, Bool.and_eq_true] at hb
        have hot' : c.hot = false := by simpa using hb.2
        split at h
        · rename_i t it fs p1 e1 e2 e3 e4
          split at h
          · rename_i hz
            simp only [Bool.and_eq_true, decide_eq_true_eq] at hz
            obtain ⟨⟨hz1, hz2⟩, hz3⟩ := hz
            cases h
            have hT : ∀ (s : Shared) (H : Hp) (D : Addr) (cl : List (Str × Addr)) (fp : List Addr), PTs (X.blk s H scope (compEnvC scope cl D X.env) fp) ifs (tTs X.K cm W0 (evTs Γ fs)) := fun s H D cl fp => by
              have CB := C.blk hot' scope s H D cl fp
              match ifs, fs, e3, hz1, hz2 with
              | [], fs, e3, _, _ =>
                rw [optAll_nil e3]
                refine ⟨fun pins s σ H Q I q => pts_nil.run pins s σ H Q I ?_⟩
                obtain ⟨ι, S, τ, rl, rs, o⟩ := q
                simp only [evTs] at o
                exact o ι H true Step.refl rl rfl
              | [x], fs, e3, _, hz2 =>
                obtain ⟨p2, r2, rfl, h1, h2⟩ := optAll_cons e3
                rw [optAll_nil h2]
                simp only [List.all_cons, List.all_nil, Bool.and_true] at hz2
                have hx := (IH _ _ W0 k x p2 CB h1).2 hz2
                refine ⟨fun pins s σ H Q I q => (pts_one hx).run pins s σ H Q I ?_⟩
                obtain ⟨ι, S, τ, rl, rs, o⟩ := q
                refine ⟨ι, S, τ, rl, rs, ?_⟩
                simp only [evTs] at o
                simp only [asB]
                cases e5 : evE Γ p2 τ S with
                | bad => rw [e5] at o; exact o
                | exc c S1 => rw [e5] at o; exact o
                | ok a S1 =>
                  rw [e5] at o
                  cases a with
                  | bl b => cases b <;> exact o
                  | non => exact o
                  | int b => exact o
                  | str b => exact o
                  | tup b => exact o
                  | ref b => exact o
                  | cls b => exact o
              | x :: y :: r, fs, e3, hz1, _ =>
                have := optAll_len e3
                simp only [List.length_cons] at this
                omega
            refine mkT (PE.weak (pe_lc (own := ownOf c.N scope) (C.calm hot') C.nd (sound_It C ihE e2) (by rw [C.N, C.sc]; exact blkOk_by hb.1.1) (fun s H D cl fp => sound_T (PgOk.blk C hot' scope s H D cl fp) n tg t e1) hT
              (fun s H D cl fp => (IH _ _ W0 k elt p1 (C.blk hot' scope s H D cl fp) e4).1) (fold_no hb.1.2)) fun σ H Q q => tLc_of (cpT_tp e1) (fun i hi => ?_) q) (by intro _; rfl)
            have := List.all_eq_true.mp hz3 i hi
            simpa using this
          · cases h
        · cases h
      · cases h
    · cases h
end Wg
/-! WgO: the readings of statements. -/
namespace Wg
open PySem PySem.Spec PyProof.Rows L2
section
variable (K : PySem.W.Frag) (cm : Cm)
def OutS (W : WX) (ι : Nat → Addr) (S : Sto) (H : Hp) (r : Rz) (D : Ends) : Prop := match r with
  | .next τ' S' => ∀ ι' H' σ', Step ι S H ι' S' H' → Rel K cm ι' S' H' → RSl K ι' S'.length H' τ' σ' → D.nx σ' H'
  | .ret v S' => ∀ ι' H' x, Step ι S H ι' S' H' → Rel K cm ι' S' H' → RV K ι' S'.length H' v x → D.rt x H'
  | .brk τ' S' => ∀ ι' H' σ', Step ι S H ι' S' H' → Rel K cm ι' S' H' → RSl K ι' S'.length H' τ' σ' → D.bk σ' H'
  | .cnt τ' S' => ∀ ι' H' σ', Step ι S H ι' S' H' → Rel K cm ι' S' H' → RSl K ι' S'.length H' τ' σ' → D.ct σ' H'
  | .exc c τ' S' => ∀ ι' H' σ', Step ι S H ι' S' H' → Rel K cm ι' S' H' → RSl K ι' S'.length H' τ' σ' → ∀ C, cm c = some C → W (.ref C) none σ' H'
  | .bad => False
def tIS (W : WX) (m : Sl → Sto → Rz) : TS := fun D σ H => ∃ ι S τ, Rel K cm ι S H ∧ RSl K ι S.length H τ σ ∧ OutS K cm W ι S H (m τ S) D
end
section
variable {K : PySem.W.Frag} {cm : Cm} {W : WX} {ι ι1 : Nat → Addr} {S S1 : Sto} {H H1 : Hp} {σ : L2.St} {D : Ends}
theorem OutS.shift {r : Rz} (h : OutS K cm W ι S H r D) (r1 : Rel K cm ι1 S1 H1) (st : Step ι S H ι1 S1 H1) : OutS K cm W ι1 S1 H1 r D := by
  cases r with
  | next τ S' => exact fun ι' H' σ' st' => h ι' H' σ' (Step.trans r1 st st')
  | ret v S' => exact fun ι' H' σ' st' => h ι' H' σ' (Step.trans r1 st st')
  | brk τ S' => exact fun ι' H' σ' st' => h ι' H' σ' (Step.trans r1 st st')
  | cnt τ S' => exact fun ι' H' σ' st' => h ι' H' σ' (Step.trans r1 st st')
  | exc c τ S' => exact fun ι' H' σ' st' => h ι' H' σ' (Step.trans r1 st st')
  | bad => exact h
/-- an expression, then what follows -/
theorem tIS.bind {α β : Type} {RA : (Nat → Addr) → Sto → Hp → α → β → Prop} {m : Sl → Sto → Rs α} {f : Sl → α → Sto → Rz} {R : β → Hp → Prop} (h : tIS K cm W (fun τ S => (m τ S).thn τ (f τ)) D σ H)
    (go : ∀ ι1 S1 H1 τ a v, Rel K cm ι1 S1 H1 → RSl K ι1 S1.length H1 τ σ → RA ι1 S1 H1 a v → OutS K cm W ι1 S1 H1 (f τ a S1) D → R v H1) : tG K cm W RA m σ H R := by
  obtain ⟨ι, S, τ, rl, rs, o⟩ := h
  refine ⟨ι, S, τ, rl, rs, ?_⟩
  dsimp only at o
  cases e : m τ S with
  | bad => rw [e] at o; exact o
  | exc c S1 => rw [e] at o; exact fun ι1 H1 st r1 C hC => o ι1 H1 σ st r1 (rs.step rl st) C hC
  | ok a S1 => rw [e] at o; exact fun ι1 H1 v st r1 ra => go ι1 S1 H1 τ a v r1 (rs.step rl st) ra (OutS.shift o r1 st)
theorem tIS.test {m : Sl → Sto → Rs IV} {f : Sl → Bool → Sto → Rz} {R : Bool → Hp → Prop} (h : tIS K cm W (fun τ S => (m τ S).thn τ fun v S1 => match v with | .bl b => f τ b S1 | _ => .bad) D σ H)
    (go : ∀ ι1 S1 H1 τ b, Rel K cm ι1 S1 H1 → RSl K ι1 S1.length H1 τ σ → OutS K cm W ι1 S1 H1 (f τ b S1) D → R b H1) : tT K cm W m σ H R := by
  obtain ⟨ι, S, τ, rl, rs, o⟩ := h
  refine ⟨ι, S, τ, rl, rs, ?_⟩
  dsimp only at o ⊢
  unfold asB
  cases e : m τ S with
  | bad => rw [e] at o; exact o
  | exc c S1 => rw [e] at o; exact fun ι1 H1 st r1 C hC => o ι1 H1 σ st r1 (rs.step rl st) C hC
  | ok a S1 =>
    rw [e] at o
    dsimp only [Rs.bind, Rs.thn] at o ⊢
    cases a with
    | bl b => exact fun ι1 H1 b' st r1 eb => by cases eb; exact go ι1 S1 H1 τ b r1 (rs.step rl st) (OutS.shift o r1 st)
    | non => exact o.elim
    | int i => exact o.elim
    | str i => exact o.elim
    | tup i => exact o.elim
    | ref i => exact o.elim
    | cls i => exact o.elim
theorem tIS.same {m m' : Sl → Sto → Rz} (h : tIS K cm W m D σ H) (e : ∀ τ S, m τ S = m' τ S) : tIS K cm W m' D σ H := by
  have : m = m' := funext fun τ => funext fun S => e τ S
  rw [← this]; exact h
theorem seq_st {m m' : Sl → Sto → Rz} (h : tIS K cm W (fun τ S => (m τ S).seq m') D σ H) : tSeq (tIS K cm W m) (tIS K cm W m') D σ H := by
  obtain ⟨ι, S, τ, rl, rs, o⟩ := h
  refine ⟨ι, S, τ, rl, rs, ?_⟩
  dsimp only at o
  cases e : m τ S with
  | next τ1 S1 => rw [e] at o; exact fun ι1 H1 σ1 st r1 rs1 => ⟨ι1, S1, τ1, r1, rs1, OutS.shift o r1 st⟩
  | ret v S1 => rw [e] at o; exact o
  | brk τ1 S1 => rw [e] at o; exact o
  | cnt τ1 S1 => rw [e] at o; exact o
  | exc c τ1 S1 => rw [e] at o; exact o
  | bad => rw [e] at o; exact o
theorem next_st (h : tIS K cm W (fun τ S => .next τ S) D σ H) : tNext D σ H := by
  obtain ⟨ι, S, τ, rl, rs, o⟩ := h
  exact o ι H σ Step.refl rl rs
/-! ### while -/
section
open Classical
theorem whileC_spec {test : Sl → Sto → Rs IV} {body : Sl → Sto → Rz} {τ : Sl} {S : Sto} (h : whileC test body τ S ≠ .bad) : ∃ n, whileN test body n τ S = some (whileC test body τ S) := by
  unfold whileC at h ⊢
  by_cases hx : ∃ n r, whileN test body n τ S = some r
  · rw [dif_pos hx]
    exact ⟨hx.choose, hx.choose_spec.choose_spec⟩
  · rw [dif_neg hx] at h
    exact absurd rfl h
end
theorem while_st {H0 : Hp} {test : Sl → Sto → Rs IV} {body : Sl → Sto → Rz} (h : tIS K cm W (whileC test body) D σ H0) : tWhile (tT K cm W test) (tIS K cm W body) D σ H0 := by
  obtain ⟨ι0, S0, τ0, r0, rs0, o0⟩ := h
  have hb : whileC test body τ0 S0 ≠ .bad := fun e => by rw [e] at o0; exact o0
  obtain ⟨n0, e0⟩ := whileC_spec hb
  generalize whileC test body τ0 S0 = r at o0 e0
  refine ⟨fun m σ H => ∃ ι S τ, Step ι0 S0 H0 ι S H ∧ Rel K cm ι S H ∧ RSl K ι S.length H τ σ ∧ whileN test body m τ S = some r, ⟨n0, ι0, S0, τ0, Step.refl, r0, rs0, e0⟩, ?_⟩
  rintro m σ1 H1 ⟨ι, S, τ, st, rl, rs, e⟩
  cases m with
  | zero => simp [whileN] at e
  | succ m =>
    simp only [whileN] at e
    refine ⟨ι, S, τ, rl, rs, ?_⟩
    dsimp only
    unfold asB
    cases e1 : test τ S with
    | bad => rw [e1] at e; cases e; exact o0
    | exc c S1 =>
      rw [e1] at e; cases e
      exact fun ι1 H2 st1 r1 C hC => o0 ι1 H2 σ1 (Step.trans rl st st1) r1 (rs.step rl st1) C hC
    | ok a S1 =>
      rw [e1] at e
      dsimp only [Rs.bind]
      cases a with
      | bl b =>
        intro ι1 H2 b' st1 r1 eb
        cases eb
        have rs1 := rs.step rl st1
        have st2 := Step.trans rl st st1
        cases b with
        | false =>
          cases e
          simp only [Bool.false_eq_true, if_false]
          exact o0 ι1 H2 σ1 st2 r1 rs1
        | true =>
          simp only [if_true]
          dsimp only at e
          refine ⟨fun σ' H' => ∃ ι S τ, Step ι0 S0 H0 ι S H' ∧ Rel K cm ι S H' ∧ RSl K ι S.length H' τ σ' ∧ whileN test body m τ S = some r, fun σ' H' q => ⟨m, Nat.lt_succ_self _, q⟩, ι1, S1, τ, r1, rs1, ?_⟩
          cases e2 : body τ S1 with
          | next τ2 S2 => rw [e2] at e; exact fun ι2 H3 σ2 st3 r2 rs2 => ⟨ι2, S2, τ2, Step.trans r1 st2 st3, r2, rs2, e⟩
          | cnt τ2 S2 => rw [e2] at e; exact fun ι2 H3 σ2 st3 r2 rs2 => ⟨ι2, S2, τ2, Step.trans r1 st2 st3, r2, rs2, e⟩
          | brk τ2 S2 => rw [e2] at e; cases e; exact fun ι2 H3 σ2 st3 r2 rs2 => o0 ι2 H3 σ2 (Step.trans r1 st2 st3) r2 rs2
          | ret v S2 => rw [e2] at e; cases e; exact fun ι2 H3 x st3 r2 rv => o0 ι2 H3 x (Step.trans r1 st2 st3) r2 rv
          | exc c τ2 S2 => rw [e2] at e; cases e; exact fun ι2 H3 σ2 st3 r2 rs2 => o0 ι2 H3 σ2 (Step.trans r1 st2 st3) r2 rs2
          | bad => rw [e2] at e; cases e; exact o0
      | non => cases e; exact o0
      | int i => cases e; exact o0
      | str i => cases e; exact o0
      | tup i => cases e; exact o0
      | ref i => cases e; exact o0
      | cls i => cases e; exact o0
/-! ### for -/
theorem for_st {bb : Bool} {it : Sl → Sto → Rs Walk} {tg : Tg} (hbb : bb = true → ∃ ts, tg = .tp ts) {body : Sl → Sto → Rz} (h : tIS K cm W (fun τ S => (it τ S).thn τ fun wk S1 => forGo body tg wk.held wk.items τ S1) D σ H) : tFor (tW bb K cm W it) (gTg K tg) (tIS K cm W body) D σ H := by
  refine tIS.bind (f := fun τ wk S1 => forGo body tg wk.held wk.items τ S1) h fun ι0 S0 H0 τ0 wk J r0 rs0 hw o0 => ?_
  refine ⟨fun i m σ H => ∃ ι S τ, Step ι0 S0 H0 ι S H ∧ Rel K cm ι S H ∧ RSl K ι S.length H τ σ ∧ m = wk.items.length - i ∧ i ≤ wk.items.length ∧ OutS K cm W ι0 S0 H0 (forGo body tg wk.held (wk.items.drop i) τ S) D,
    ⟨_, ι0, S0, τ0, Step.refl, r0, rs0, rfl, Nat.zero_le _, by rw [List.drop_zero]; exact o0⟩, ?_⟩
  rintro i m σ1 H1 ⟨ι, S, τ, st, rl, rs, rfl, hi, o⟩
  by_cases hlt : i < wk.items.length
  · rw [List.drop_eq_getElem_cons hlt] at o
    simp only [forGo] at o
    split at o
    · rename_i hh
      refine .inr ⟨hw.go i ι S H1 st rl hh hlt, fun σ' H' => ∃ ι S τ, Step ι0 S0 H0 ι S H' ∧ Rel K cm ι S H' ∧ RSl K ι S.length H' τ σ' ∧ OutS K cm W ι0 S0 H0 (forGo body tg wk.held (wk.items.drop (i + 1)) τ S) D,
        fun σ' H' ⟨ι', S', τ', a, b, c, d⟩ => ⟨wk.items.length - (i + 1), by omega, ι', S', τ', a, b, c, rfl, hlt, d⟩, fun x H' hy => ?_⟩
      obtain ⟨rA, stA, rvx⟩ := hw.yld i ι S H1 x H' _ st rl hh (List.getElem?_eq_getElem hlt) hy
      cases e1 : setT tg wk.items[i] τ with
      | none => rw [e1] at o; exact o.elim
      | some τ1 =>
        rw [e1] at o
        have st1 := Step.trans rl st stA
        refine setT_okW tg hbb _ x τ τ1 σ1 e1 rvx (rs.step rl stA) _ fun σ2 rs2 _ => ⟨ι, S, τ1, rA, rs2, ?_⟩
        cases e2 : body τ1 S with
        | next τ2 S2 => simp only [e2] at o; exact fun ι2 H3 σ2 st3 r2 rs2 => ⟨ι2, S2, τ2, Step.trans rA st1 st3, r2, rs2, o⟩
        | cnt τ2 S2 => simp only [e2] at o; exact fun ι2 H3 σ2 st3 r2 rs2 => ⟨ι2, S2, τ2, Step.trans rA st1 st3, r2, rs2, o⟩
        | brk τ2 S2 => simp only [e2] at o; exact fun ι2 H3 σ2 st3 r2 rs2 => o ι2 H3 σ2 (Step.trans rA st1 st3) r2 rs2
        | ret v S2 => simp only [e2] at o; exact fun ι2 H3 x st3 r2 rv => o ι2 H3 x (Step.trans rA st1 st3) r2 rv
        | exc c τ2 S2 => simp only [e2] at o; exact fun ι2 H3 σ2 st3 r2 rs2 => o ι2 H3 σ2 (Step.trans rA st1 st3) r2 rs2
        | bad => simp only [e2] at o; exact o
    · exact o.elim
  · have e : i = wk.items.length := by omega
    subst e
    rw [List.drop_length] at o
    simp only [forGo] at o
    split at o
    · rename_i hh
      exact .inl ⟨hw.stop _ ι S H1 st rl hh (Nat.le_refl _), o ι H1 σ1 st rl rs⟩
    · exact o.elim
end
end Wg
/-! WgP: from the model's statements to ours. -/
namespace Wg
open PySem PySem.Spec PyProof.Rows L2
def notComp : Expr → Bool
  | .ListComp _ _ _ _ => false
  | .SetComp _ _ _ _ => false
  | .DictComp _ _ _ _ _ => false
  | _ => true
def notTup : Expr → Bool
  | .Tuple _ _ _ => false
  | _ => true
def isFn (c : CC) : Bool := match c.sc.kind with
  | .function => true
  | _ => false
def locK (c : CC) (x : Str) : Bool := match c.sc.names.lookup x with
  | some .local => true
  | _ => false
def starE : Expr → Bool
  | .Starred _ _ => true
  | _ => false
/-- x, y = a, b is stored from the right -/
def parC (c : CC) (x : Str) (px : Pos) (y : Str) (py : Pos) (a b : Expr) : Bool :=
  isFn c && locK c x && locK c y && (py.line == px.line) && !decide (x = y) && !starE a && !starE b && !(foldedForSure 8 a && foldedForSure 8 b) && !(constantsAlone 8 a && constantsAlone 8 b) && !c.hot
def par3C (c : CC) (x : Str) (px : Pos) (y : Str) (py : Pos) (z : Str) (pz : Pos) (a b d : Expr) : Bool :=
  isFn c && locK c x && locK c y && locK c z && (py.line == px.line) && (pz.line == px.line) && !decide (x = y) && !decide (x = z) && !decide (y = z) && !starE a && !starE b && !starE d && !(foldedForSure 8 a && (foldedForSure 8 b && foldedForSure 8 d)) && !(constantsAlone 8 a && (constantsAlone 8 b && constantsAlone 8 d)) && !c.hot
/-- a comprehension whose value goes to the name at once -/
def swC (c : CC) (x : Str) (px : Pos) (scope : Scope) (pos : Pos) : Bool :=
  isFn c && locK c x && (px.line == pos.line) && !(scope.names.any fun p => p.1 == x && (p.2 == .local || p.2 == .cell))
/-- the except clauses; f: a suite's statements -/
def cpH (g : GI) (c : CC) (f : Stmt → Option Sm) : List ExceptHandler → Option (List (Str × List Sm))
  | [] => some []
  | .ExceptHandler (some (.Name x _)) none (b :: su) _ :: r => if plainN x && isGl c x && decide (x ∈ g.exc) then (match optAll f (b :: su), cpH g c f r with
    | some u, some l => some ((x, u) :: l)
    | _, _ => none) else none
  | _ :: _ => none
/-- isinstance(nm, T), nm the exception of a class whose classes above are l -/
def isiX (g : GI) (c : CC) (nm : Str) (l : List Str) : Expr → Option Bool
  | .Call (.Name f _) [.Name y _, .Name T _] [] _ => if decide (f = "isinstance") && isGl c f && decide (f ∈ g.blt) && decide (y = nm) && plainN T && isGl c T && (decide (T ∈ g.exc) || (decide (T = "ValueError") && decide (T ∈ g.blt))) then some (l.contains T) else none
  | _ => none
/-- an expression of an except suite -/
def cpX (g : GI) (nm : Str) (l : List Str) : Nat → CC → Expr → Option PX
  | 0, _, _ => none
  | n + 1, c, e => match isiX g c nm l e with
    | some b => some (.k (.bl b))
    | none => match e with
      | .UnaryOp .Not a _ => if noIf a then (cpX g nm l n c a).map .not else none
      | .BoolOp .And es _ => if es.all noIf = false then none else match optAll (cpX g nm l n c) es with | some ps => andL ps | none => none
      | .BoolOp .Or es _ => if es.all noIf = false then none else match optAll (cpX g nm l n c) es with | some ps => orL ps | none => none
      | e => cpE g (n + 1) c e
def cpXS (g : GI) (nm : Str) (l : List Str) : Nat → CC → Stmt → Option Sm
  | 0, _, _ => none
  | n + 1, c, st => match st with
    | .Return (some e) _ => (cpX g nm l n c e).map .ret
    | .Pass _ => some .pass
    | .If t a b _ => if noIf t then (match cpX g nm l n c t, optAll (cpXS g nm l n c) a, optAll (cpXS g nm l n c) b with
        | some p, some q, some r => some (.cond p q r)
        | _, _, _ => none) else none
    | _ => none
/-- the suite for each class below d -/
def cpAs (g : GI) (nm d : Str) (n : Nat) (c : CC) (su : List Stmt) : List (Str × List Str) → Option (List (Str × List Sm))
  | [] => some []
  | (k, l) :: r => if l.contains d then (match optAll (cpXS g nm l n c) su, cpAs g nm d n c su r with
    | some u, some v => some ((k, u) :: v)
    | _, _ => none) else cpAs g nm d n c su r
/-- if e == k: return o.replace(x, y) + z -/
def rplC (f : Expr → Option PX) (t : Expr) (a b : List Stmt) : Option Sm := match t, a, b with
  | .Compare e [.Eq] [.Constant (.int k) _ _] _, [.Return (some (.BinOp (.Call (.Attribute o m ap) [.Constant (.str x) _ _, .Constant (.str y) _ _] [] pos) .Add (.Constant (.str z) _ _) _)) _], [] =>
    if decide (m = "replace") && (noSup o && ((ap.endLine == pos.line) && !(x == y))) then (match f e, f o with
      | some p, some q => some (.rpl p k q x y z)
      | _, _ => none) else none
  | _, _, _ => none
def cpS (g : GI) : Nat → CC → Stmt → Option Sm
  | 0, _, _ => none
  | n + 1, c, st => match st with
    | .Expr e _ => if notComp e then (cpE g n c e).map .expr else none
    | .Return (some e) _ => (cpE g n c e).map .ret
    | .Return none _ => some .retN
    | .Pass _ => some .pass
    | .Break _ => some .brk
    | .Continue _ => some .cnt
    | .Assign [.Name x px] e _ => if notComp e then (match cpTn c x, cpE g n c e with
        | some i, some p => some (.set (.nm i) p)
        | _, _ => none) else (match e with
          | .ListComp elt [⟨tg, iter, ifs, 0⟩] scope pos => if swC c x px scope pos then (match cpTn c x, cpE g n c (.ListComp elt [⟨tg, iter, ifs, 0⟩] scope pos) with
            | some i, some p => some (.set (.nm i) p)
            | _, _ => none) else if locK c x then none else (match cpTn c x, cpE g n c (.ListComp elt [⟨tg, iter, ifs, 0⟩] scope pos) with
            | some i, some p => some (.set (.nm i) p)
            | _, _ => none)
          | _ => none)
    | .Assign [.Tuple [.Name x px, .Name y py] _ _] (.Tuple [a, b] _ _) _ => if parC c x px y py a b then (match cpTn c x, cpTn c y, cpE g n c a, cpE g n c b with
        | some i, some j, some p, some q => some (.par i j p q)
        | _, _, _, _ => none) else if !(locK c x && locK c y) && !c.hot then (match cpTn c x, cpTn c y, cpE g n c a, cpE g n c b with
        | some i, some j, some p, some q => some (.set (.tp [.nm i, .nm j]) (.tup [p, q]))
        | _, _, _, _ => none) else none
    | .Assign [.Tuple [.Name x px, .Name y py, .Name z pz] _ _] (.Tuple [a, b, d] _ _) _ => if par3C c x px y py z pz a b d then (match cpTn c x, cpTn c y, cpTn c z, cpE g n c a, cpE g n c b, cpE g n c d with
        | some i, some j, some l, some p, some q, some r => some (.par3 i j l p q r)
        | _, _, _, _, _, _ => none) else none
    | .Assign [.Tuple [.Subscript o i _, .Name x _] _ _] (.Tuple [a, b] k2 p2) _ => if c.hot then none else (match cpE g n c o, cpE g n c i, cpTn c x, cpE g n c (.Tuple [a, b] k2 p2) with
        | some p, some q, some j, some r => some (.subs p q j r)
        | _, _, _, _ => none)
    | .Assign [.Tuple ts k p] e _ => if notComp e && notTup e then (match cpT n c (.Tuple ts k p), cpE g n c e with
        | some t, some p => some (.set t p)
        | _, _ => none) else none
    | .Assign [.Subscript o i _] e _ => if notComp e then (match cpE g n c o, cpE g n c i, cpE g n c e with
        | some p, some q, some r => some (.sub p q r)
        | _, _, _ => none) else none
    | .Assign [.Attribute o f _] e _ => if notComp e && decide (f ∈ g.atts) && !c.hot then (match cpE g n c o, cpE g n c e with
        | some p, some q => some (.fld p f q)
        | _, _ => none) else none
    | .AugAssign (.Attribute o f _) op e _ => if decide (f ∈ g.atts) then (match cpE g n c o, opOf op, cpE g n c e with
        | some p, some .add, some q => some (.fldaug p f .add q)
        | _, _, _ => none) else none
    | .AugAssign (.Name x _) op e _ => match cpTn c x, opOf op, cpE g n c e with
        | some i, some .add, some p => some (.aug i .add p)
        | some i, some .sub, some p => some (.aug i .sub p)
        | _, _, _ => none
    | .If t a b _ => if noIf t then (match cpE g n c t, optAll (cpS g n c) a, optAll (cpS g n c) b with
        | some p, some q, some r => some (.cond p q r)
        | _, _, _ => rplC (cpE g n c) t a b) else none
    | .While t b [] _ => if noIf t && !c.hot then (match cpE g n c t, optAll (cpS g n c) b with
        | some p, some q => some (.whil p q)
        | _, _ => none) else none
    | .For tg it b [] _ => if noFold it && !c.hot then (match cpT n c tg, cpIt (cpE g n c) g c tg it, optAll (cpS g n c) b with
        | some t, some i, some q => some (.for t i q)
        | _, _, _ => none) else none
    | .Raise (some (.Call (.Name x _) [.Constant (.str _) _ _] [] _)) none _ => if plainN x && isGl c x && decide (x ∈ g.exc) && !c.hot then some (.raise x) else none
    | .Try b [.ExceptHandler (some (.Name x _)) (some nm) (s0 :: su) _] [] [] _ => if !c.hot && plainN x && isGl c x && decide (x ∈ g.exc) && locK c nm && plainN nm then (match optAll (cpS g n c) b, cpTn c nm, cpAs g nm x n ⟨c.N, c.sc, true⟩ (s0 :: su) g.esup with
        | some q, some i, some l => some (.tryas q i x l)
        | _, _, _ => none) else none
    | .Try b (h :: hs) [] [] _ => if c.hot then none else match optAll (cpS g n c) b, cpH g c (cpS g n ⟨c.N, c.sc, true⟩) (h :: hs) with
        | some q, some l => some (.tryx q l)
        | some q, none => some (.tryq q)
        | _, _ => none
    | _ => none
/-! ### side conditions -/
theorem swaps_no {e : Expr} {t : Option Expr} {l : Nat} {env : Env} (h : notComp e = true) : swapsWith e t l env = pure false := by
  cases e <;> first | rfl | simp [notComp] at h
theorem sole_no {e t : Expr} {l : Nat} {env : Env} (h : notComp e = true) : swapsWithSole [t] e l env = pure false := by
  unfold swapsWithSole
  exact swaps_no h
theorem stores_no {t e : Expr} {env : Env} (h : notTup e = true) : swappedStores [t] e env = pure none := by
  cases e <;> first | (cases t <;> rfl) | simp [notTup] at h
theorem isFn_ok {c : CC} (h : isFn c = true) : c.sc.kind = .function := by
  unfold isFn at h
  split at h
  · assumption
  · cases h
theorem locK_ok {c : CC} {x : Str} (h : locK c x = true) : c.sc.names.lookup x = some .local := by
  unfold locK at h
  split at h
  · assumption
  · cases h
theorem locK_no {c : CC} {x : Str} {env : Env} (hs : env.scope = c.sc) (h : locK c x = false) : (env.kindOf x == some .local) = false := by
  have e : env.kindOf x = c.sc.names.lookup x := by rw [← hs]; rfl
  rw [e]
  unfold locK at h
  cases q : c.sc.names.lookup x with
  | none => rfl
  | some k => rw [q] at h; cases k <;> first | rfl | cases h
theorem cell_ok {c : CC} {x y : Str} {px py pt p2 : Pos} {a b : Expr} {kt k2 : Nat} {env : Env} (hs : env.scope = c.sc) (h : (!(locK c x && locK c y)) = true) :
    swappedStores [.Tuple [.Name x px, .Name y py] kt pt] (.Tuple [a, b] k2 p2) env = pure none := by
  simp only [swappedStores]
  split
  · rfl
  split
  · rfl
  have hl : ([Expr.Name x px, Expr.Name y py].filterMap fun
    | .Name id pos => if env.kindOf id == some .local && pos.line == (([Expr.Name x px, Expr.Name y py].head?.map (·.pos.line)).getD 0) then some id else none
    | _ => none).length ≠ 2 := by
    simp only [Bool.not_eq_true', Bool.and_eq_false_iff] at h
    simp only [List.filterMap_cons, List.filterMap_nil]
    rcases h with h | h
    · rw [locK_no hs h]
      simp only [Bool.false_and, Bool.false_eq_true, if_false]
      split <;> simp
    · rw [locK_no hs h]
      simp only [Bool.false_and, Bool.false_eq_true, if_false]
      split <;> simp
  rw [if_pos ?_]
  rw [Bool.or_eq_true]
  exact .inl (bne_iff_ne.mpr hl)
theorem mix_ok {o i : Expr} {x : Str} {sp px kt2 p2 : Pos} {a b : Expr} {kt k2 : Nat} {env : Env} :
    swappedStores [.Tuple [.Subscript o i sp, .Name x px] kt kt2] (.Tuple [a, b] k2 p2) env = pure none := by
  simp only [swappedStores]
  split
  · rfl
  split
  · rfl
  rw [if_pos ?_]
  rw [Bool.or_eq_true]
  refine .inl (bne_iff_ne.mpr ?_)
  simp only [List.filterMap_cons, List.filterMap_nil]
  split <;> simp
theorem par_ok {c : CC} {x y : Str} {px py pt p2 : Pos} {a b : Expr} {kt k2 : Nat} {env : Env} (hs : env.scope = c.sc) (h : parC c x px y py a b = true) :
    swappedStores [.Tuple [.Name x px, .Name y py] kt pt] (.Tuple [a, b] k2 p2) env = pure (some [x, y]) := by
  simp only [parC, Bool.and_eq_true, Bool.not_eq_true', decide_eq_false_iff_not, beq_iff_eq] at h
  obtain ⟨⟨⟨⟨⟨⟨⟨⟨⟨h1, h2⟩, h3⟩, h4⟩, h5⟩, h6⟩, h7⟩, h8⟩, h9⟩, h10⟩ := h
  have k1 : env.kindOf x = some .local := by show env.scope.names.lookup x = _; rw [hs]; exact locK_ok h2
  have k2 : env.kindOf y = some .local := by show env.scope.names.lookup y = _; rw [hs]; exact locK_ok h3
  have kb : env.blockKind = .function := by unfold Env.blockKind; rw [hs, isFn_ok h1]; rfl
  have dup : ([x, y] : List Str).eraseDups.length = 2 := by
    have : (y == x) = false := by simpa using fun e => h5 e.symm
    simp [List.eraseDups_cons, List.filter, this]
  simp only [swappedStores, kb, k1, k2, Expr.pos, h4, List.head?, Option.map_some, Option.getD_some, List.filterMap, List.any, List.all, h8, h9, Bool.and_true, beq_self_eq_true, if_true, dup, List.length_cons, List.length_nil]
  rw [if_neg (by simp), if_neg ?_, if_neg (by simp)]
  · rfl
  · intro hh
    rw [Bool.or_eq_true, Bool.or_eq_true] at hh
    rcases hh with hh | hh | hh
    · split at hh
      · simp [starE] at h6
      · cases hh
    · split at hh
      · simp [starE] at h7
      · cases hh
    · cases hh
theorem par3_ok {c : CC} {x y z : Str} {px py pz pt p2 : Pos} {a b d : Expr} {kt k2 : Nat} {env : Env} (hs : env.scope = c.sc) (h : par3C c x px y py z pz a b d = true) :
    swappedStores [.Tuple [.Name x px, .Name y py, .Name z pz] kt pt] (.Tuple [a, b, d] k2 p2) env = pure (some [x, y, z]) := by
  simp only [par3C, Bool.and_eq_true, Bool.not_eq_true', decide_eq_false_iff_not, beq_iff_eq] at h
  obtain ⟨⟨⟨⟨⟨⟨⟨⟨⟨⟨⟨⟨⟨⟨h1, h2⟩, h3⟩, h3'⟩, h4⟩, h4'⟩, h5⟩, h5'⟩, h5''⟩, h6⟩, h7⟩, h7'⟩, h8⟩, h9⟩, h10⟩ := h
  have k1 : env.kindOf x = some .local := by show env.scope.names.lookup x = _; rw [hs]; exact locK_ok h2
  have k2 : env.kindOf y = some .local := by show env.scope.names.lookup y = _; rw [hs]; exact locK_ok h3
  have k3 : env.kindOf z = some .local := by show env.scope.names.lookup z = _; rw [hs]; exact locK_ok h3'
  have kb : env.blockKind = .function := by unfold Env.blockKind; rw [hs, isFn_ok h1]; rfl
  have dup : ([x, y, z] : List Str).eraseDups.length = 3 := by
    have e1 : (y == x) = false := by simpa using fun e => h5 e.symm
    have e2 : (z == x) = false := by simpa using fun e => h5' e.symm
    have e3 : (z == y) = false := by simpa using fun e => h5'' e.symm
    simp [List.eraseDups_cons, List.filter, e1, e2, e3]
  simp only [swappedStores, kb, k1, k2, k3, Expr.pos, h4, h4', List.head?, Option.map_some, Option.getD_some, List.filterMap, List.any, List.all, h8, h9, Bool.and_true, beq_self_eq_true, if_true, dup, List.length_cons, List.length_nil]
  rw [if_neg (by simp), if_neg ?_, if_neg (by simp)]
  · rfl
  · intro hh
    rw [Bool.or_eq_true, Bool.or_eq_true, Bool.or_eq_true] at hh
    rcases hh with hh | hh | hh | hh
    · split at hh
      · simp [starE] at h6
      · cases hh
    · split at hh
      · simp [starE] at h7
      · cases hh
    · split at hh
      · simp [starE] at h7'
      · cases hh
    · cases hh
theorem swaps_cell {c : CC} {elt : Expr} {gs : List Comprehension} {scope : Scope} {p px : Pos} {x : Str} {l : Nat} {env : Env} (hs : env.scope = c.sc) (h : locK c x = false) : swapsWith (.ListComp elt gs scope p) (some (.Name x px)) l env = pure false := by
  simp only [swapsWith, locK_no hs h, Bool.and_false, Bool.false_and]
end Wg
/-! WgQ: what the evaluation of a statement gives, the model gives. -/
namespace Wg
open PySem PySem.Spec PyProof.Rows L2
/-- the exceptions of the module -/
structure Xc (g : GI) (K : PySem.W.Frag) (mg : Str → Option Value) (cm : Cm) (sub : Str → Str → Bool) : Prop where
  made : ∀ x ∈ g.exc, ∃ C, cm x = some C ∧ mg x = some (.ref C) ∧ PySem.W.excIn K C [.type "ValueError", .type "Exception", .type "BaseException", .type "object"] "ValueError.__new__" = true ∧ PySem.W.keepIn K (.ref C) = true ∧
    PySem.W.subIn K (.ref C) (.type "BaseException") = some true ∧ PySem.W.typeIn K (.ref C) = some (.type "type")
  sub : ∀ c C d D, cm c = some C → d ∈ g.exc → cm d = some D → PySem.W.exmOne K (.ref C) (.ref D) = some (sub c d)
  isi : ∀ c l, (c, l) ∈ g.esup → ∃ C, cm c = some C ∧ ExcC K C ∧ (∀ T ∈ g.exc, ∃ D, mg T = some (.ref D) ∧ PySem.W.kitOne K (.ref C) (.ref D) = some (l.contains T)) ∧ PySem.W.kitOne K (.ref C) (.type "ValueError") = some (l.contains "ValueError")
structure CxS (g : GI) (c : CC) (cm : Cm) (Γ : Gam) (sub : Str → Str → Bool) (X : Cx) (W : WX) (k : Nat) : Prop where
  e : CxE g c cm Γ X W k
  own : PassesOwn (model X.prog X.w) X.A X.env X.xe
  stk : X.stack = X.env :: X.outer
  frm : X.env.frame = some X.env.locals
  fn : ∀ x, L2.Loc X.env.scope x → X.fn x = true ∨ X.env.scope.names.lookup x = some .local
  exc : Xc g X.K X.mg cm sub
section
variable {g : GI} {c : CC} {cm : Cm} {Γ : Gam} {sub : Str → Str → Bool} {X : Cx} {W : WX} {k : Nat}
theorem CxS.pg (C : CxS g c cm Γ sub X W k) : PgOk X c := ⟨C.e.N, C.e.nd, C.e.calm, fun x h => have z : L2.Loc X.env.scope x := by unfold L2.Loc; rw [C.e.sc]; exact h
  ⟨z, C.fn x z⟩⟩
theorem CxS.tr (C : CxS g c cm Γ sub X W k) {W' : WX} {pn : List (Addr × Obj)} {xe : Value → Shared → Prop} (tk : Takes (X.tr pn xe) W') (hp : PassesOwn (model X.prog X.w) X.A X.env xe) : CxS g c cm Γ sub (X.tr pn xe) W' k :=
  ⟨⟨C.e.wd, C.e.N, C.e.nd, C.e.sc, C.e.calm, C.e.room, C.e.un, C.e.grd, tk⟩, hp, C.stk, C.frm, C.fn, C.exc⟩
theorem CxS.nox (C : CxS g c cm Γ sub X W k) : CxS g c cm Γ sub X.nox W0 k :=
  ⟨⟨C.e.wd, C.e.N, C.e.nd, C.e.sc, C.e.calm, C.e.room, C.e.un, C.e.grd, takes0⟩, PassesOwn.never, C.stk, C.frm, C.fn, C.exc⟩
theorem CxS.suite (C : CxS g c cm Γ sub X W k) (a : Addr) (pn : List (Addr × Obj)) : CxS g ⟨c.N, c.sc, true⟩ cm Γ sub (X.suite a pn) W0 k :=
  ⟨⟨C.e.wd, C.e.N, C.e.nd, C.e.sc, fun z => (by cases z), fun z => (by cases z), C.e.un, C.e.grd, takes0⟩, PassesOwn.never, C.stk, C.frm, C.fn, C.exc⟩
end
/-! ### a comprehension that goes to a name -/
theorem lc_prem {g : GI} {c : CC} {cm : Cm} {Γ : Gam} {X : Cx} {W : WX} {k n : Nat} {elt tg iter : Expr} {ifs : List Expr} {scope : Scope} {pos : Pos} {p : PX} (C : CxE g c cm Γ X W k) (h : cpE g n c (.ListComp elt [⟨tg, iter, ifs, 0⟩] scope pos) = some p) :
    ∃ t it fs p1, p = .lc ((ownOf c.N scope).map (·.2)) t it fs p1 ∧ noFold iter = true ∧ (isTup tg = true → ∃ ts, t = .tp ts) ∧ PI X tg iter (tW (isTup tg) X.K cm W (evI Γ it)) ∧ BlkOk X.N X.env.scope scope (ownOf c.N scope) ∧ (∀ i ∈ t.ins, i ∈ (ownOf c.N scope).map (·.2)) ∧
      (∀ (s : Shared) (H : Hp) (D : Addr) (cl : List (Str × Addr)) (fp : List Addr), PG (X.blk s H scope (compEnvC scope cl D X.env) fp) tg (gTg X.K t)) ∧
      (∀ (s : Shared) (H : Hp) (D : Addr) (cl : List (Str × Addr)) (fp : List Addr), PTs (X.blk s H scope (compEnvC scope cl D X.env) fp) ifs (tTs X.K cm W0 (evTs Γ fs))) ∧
      (∀ (s : Shared) (H : Hp) (D : Addr) (cl : List (Str × Addr)) (fp : List Addr), PE (X.blk s H scope (compEnvC scope cl D X.env) fp) elt (tI X.K cm W0 (evE Γ p1))) := by
  cases n with
  | zero => simp [cpE] at h
  | succ n =>
    simp only [cpE] at h
    split at h
    · rename_i hb
      rw [Bool.and_eq_true, Bool.and_eq_true] at hb
      have hot' : c.hot = false := by simpa using hb.2
      split at h
      · rename_i t it fs p1 e1 e2 e3 e4
        split at h
        · rename_i hz
          simp only [Bool.and_eq_true, decide_eq_true_eq] at hz
          obtain ⟨⟨hz1, hz2⟩, hz3⟩ := hz
          cases h
          refine ⟨t, it, fs, p1, rfl, hb.1.2, cpT_tp e1, sound_It C (fun e p h => (sound_E g cm Γ n c X W k e p C h).1) e2, by rw [C.N, C.sc]; exact blkOk_by hb.1.1, fun i hi => by simpa using List.all_eq_true.mp hz3 i hi,
            fun s H D cl fp => sound_T (PgOk.blk C hot' scope s H D cl fp) n tg t e1, fun s H D cl fp => ?_, fun s H D cl fp => (sound_E g cm Γ n _ _ W0 k elt p1 (C.blk hot' scope s H D cl fp) e4).1⟩
          have CB := C.blk hot' scope s H D cl fp
          match ifs, fs, e3, hz1, hz2 with
          | [], fs, e3, _, _ =>
            rw [optAll_nil e3]
            refine ⟨fun pins s σ H Q I q => pts_nil.run pins s σ H Q I ?_⟩
            obtain ⟨ι, S, τ, rl, rs, o⟩ := q
            simp only [evTs] at o
            exact o ι H true Step.refl rl rfl
          | [x], fs, e3, _, hz2 =>
            obtain ⟨p2, r2, rfl, h1, h2⟩ := optAll_cons e3
            rw [optAll_nil h2]
            simp only [List.all_cons, List.all_nil, Bool.and_true] at hz2
            have hx := (sound_E g cm Γ n _ _ W0 k x p2 CB h1).2 hz2
            refine ⟨fun pins s σ H Q I q => (pts_one hx).run pins s σ H Q I ?_⟩
            obtain ⟨ι, S, τ, rl, rs, o⟩ := q
            refine ⟨ι, S, τ, rl, rs, ?_⟩
            simp only [evTs] at o
            simp only [asB]
            cases e5 : evE Γ p2 τ S with
            | bad => rw [e5] at o; exact o
            | exc c S1 => rw [e5] at o; exact o
            | ok a S1 =>
              rw [e5] at o
              cases a with
              | bl b => cases b <;> exact o
              | non => exact o
              | int b => exact o
              | str b => exact o
              | tup b => exact o
              | ref b => exact o
              | cls b => exact o
          | x :: y :: r, fs, e3, hz1, _ =>
            have := optAll_len e3
            simp only [List.length_cons] at this
            omega
        · cases h
      · cases h
    · cases h
/-! ### suites -/
section
variable {g : GI} {c : CC} {cm : Cm} {Γ : Gam} {sub : Str → Str → Bool} {X : Cx} {W : WX} {k : Nat}
theorem OutS.quiet {K : PySem.W.Frag} {W W' : WX} {ι : Nat → Addr} {S : Sto} {H : Hp} {r : Rz} {D : Ends} (h : OutS K cm W ι S H (quietZ r) D) : OutS K cm W' ι S H r D := by
  cases r with
  | exc c τ' S' => exact h.elim
  | next τ S' => exact h
  | ret v S' => exact h
  | brk τ S' => exact h
  | cnt τ S' => exact h
  | bad => exact h
theorem sound_H (C : CxS g c cm Γ sub X W k) {f : Stmt → Option Sm} (hf : ∀ a pn ss u, optAll f ss = some u → PSs (X.suite a pn) ss (tIS X.K cm W0 (evSs Γ sub u))) : ∀ (hds : List ExceptHandler) (l : List (Str × List Sm)), cpH g c f hds = some l → ∃ L, HdsOk X hds L ∧
    ∀ D cn Cn τ1 S1 ι H σ, cm cn = some Cn → Rel X.K cm ι S1 H → RSl X.K ι S1.length H τ1 σ → OutS X.K cm W ι S1 H (catchI sub (evHs Γ sub l) cn τ1 S1) D → wMany X.K W D L (.ref Cn) none σ H
  | [], l, h => by
    simp only [cpH, Option.some.injEq] at h; subst h
    refine ⟨[], .nil, fun D cn Cn τ1 S1 ι H σ hc rl rs o => ?_⟩
    simp only [evHs, catchI] at o
    exact o ι H σ Step.refl rl rs Cn hc
  | hd :: hds, l, h => by
    unfold cpH at h
    split at h
    · rename_i z; cases z
    · rename_i x p b0 su pos r he
      cases he
      split at h
      · rename_i hp
        simp only [Bool.and_eq_true, decide_eq_true_eq] at hp
        split at h
        · rename_i u l' e1 e2
          cases h
          obtain ⟨L, hL, go⟩ := sound_H C hf hds l' e2
          obtain ⟨Cx', c1, c2, _⟩ := C.exc.made x hp.2
          refine ⟨(.ref Cx', fun _ _ _ => tIS X.K cm W0 (evSs Γ sub u)) :: L, .cons ⟨C.e.gl hp.1.2, (plain_dbg hp.1.1).1, .inl c2⟩ (fun a oe cls d pn _ _ => hf a ((a, oe) :: pn) _ u e1) hL, fun D cn Cn τ1 S1 ι H σ hc rl rs o => ?_⟩
          refine ⟨sub cn x, C.exc.sub cn Cn x Cx' hc hp.2 c1, fun hb a ha => ?_, fun hb => ?_⟩
          · simp only [evHs, catchI, hb, if_true] at o
            exact ⟨ι, S1, τ1, rl, rs, OutS.quiet o⟩
          · simp only [evHs, catchI, hb, Bool.false_eq_true, if_false] at o
            exact go D cn Cn τ1 S1 ι H σ hc rl rs o
        · cases h
      · cases h
    · cases h
end
end Wg
/-! WiP: if e == k: return o.replace(x, y) + z. -/
namespace Wg
open PySem PySem.Spec PyProof.Rows L2 StX ClX
theorem rpl_len (x y z : Str) : (Txt.replace x y z).length ≤ x.length + (x.length + 1) * z.length := by
  unfold Txt.replace
  split
  · omega
  · have h1 := StrLaws.occ_length_le x y 0 x.length (x.length + 1)
    have hy : (Builtin.Str.glued y (Builtin.Str.partsBetween x (Builtin.Str.occurrences x y 0 x.length (x.length + 1)) y.length)).length = x.length := by rw [StrLaws.glued_between_self]
    rw [size_glued, length_partsBetween, Nat.add_sub_cancel] at hy
    rw [size_glued, length_partsBetween, Nat.add_sub_cancel]
    have h2 : (Builtin.Str.occurrences x y 0 x.length (x.length + 1)).length * z.length ≤ (x.length + 1) * z.length := Nat.mul_le_mul_right _ h1
    omega
section
variable {X : Cx} {cm : Cm} {Γ : Gam} {W : WX} {sub : Str → Str → Bool}
theorem rpl_st {K : PySem.W.Frag} {p q : PX} {k : Int} {x y z : Str} {D : Ends} {σ : L2.St} {H : Hp} (h : tIS K cm W (evS Γ sub (.rpl p k q x y z)) D σ H) :
    tI K cm W (evE Γ p) σ H fun v H1 => ∃ n, v = .int n ∧ if n = k then tI K cm W (evE Γ q) σ H1 (fun w H2 => ∃ t, w = .str t ∧ t.length + (t.length + 1) * y.length ≤ 1000 ∧ z.length ≤ 1000 ∧ D.rt (.str (Txt.replace t x y ++ z)) H2) else D.nx σ H1 := by
  refine tIS.bind (RA := RVS K) (f := fun τ v S1 => match v with
    | .int n => if n = k then (evE Γ q τ S1).thn τ fun w S2 => rplN x y z w S2 else .next τ S1
    | _ => .bad) (tIS.same h fun τ S => by simp only [evS] <;> first | rfl | (congr 1)) fun ι1 S1 H1 τ a0 v0 r1 rs ra0 o => ?_
  cases a0 with
  | int n =>
    have hv : v0 = .int n := by simpa only [RVS, RV] using ra0
    refine ⟨n, hv, ?_⟩
    by_cases e : n = k
    · rw [if_pos e]
      simp only [e, if_true] at o
      refine tIS.bind (RA := RVS K) (f := fun τ w S2 => rplN x y z w S2) ⟨ι1, S1, τ, r1, rs, o⟩ fun ι2 S2 H2 τ2 b0 w0 r2 rs2 rb0 o2 => ?_
      cases b0 with
      | str t =>
        have hw : w0 = .str t := by simpa only [RVS, RV] using rb0
        refine ⟨t, hw, ?_⟩
        unfold rplN at o2
        dsimp only at o2
        split at o2
        · rename_i hz
          exact ⟨hz.1, hz.2, o2 ι2 H2 _ Step.refl r2 (by simp only [RV])⟩
        · exact o2.elim
      | non => exact o2.elim
      | bl b => exact o2.elim
      | int i => exact o2.elim
      | tup xs => exact o2.elim
      | ref n => exact o2.elim
      | cls c => exact o2.elim
    · rw [if_neg e]
      simp only [e, if_false] at o
      exact o ι1 H1 σ Step.refl r1 rs
  | non => exact o.elim
  | bl b => exact o.elim
  | str i => exact o.elim
  | tup xs => exact o.elim
  | ref n => exact o.elim
  | cls c => exact o.elim
theorem ps_rpl {p q : PX} {k : Int} {x y z : Str} {e o : Expr} {j1 j2 j3 j4 : Nat} {c1 c2 c3 c4 ap pos pos1 pos2 pos3 pos4 : Pos} (he : PE X e (tI X.K cm W (evE Γ p))) (ho : PE X o (tI X.K cm W (evE Γ q))) (hs : noSup o = true) (hl : (ap.endLine == pos.line) = true) (hxy : (x == y) = false) :
    PS X (.If (.Compare e [.Eq] [.Constant (.int k) j1 c1] pos1) [.Return (some (.BinOp (.Call (.Attribute o "replace" ap) [.Constant (.str x) j2 c2, .Constant (.str y) j3 c3] [] pos) .Add (.Constant (.str z) j4 c4) pos2)) pos3] [] pos4) (tIS X.K cm W (evS Γ sub (.rpl p k q x y z))) := by
  refine ⟨fun pins s σ H D I h => ?_⟩
  have h := rpl_st h
  refine wpAny_If (wpAny_isTrue_Compare1 (thn (he.run pins s σ H _ I h) fun v s1 ⟨v0, H1, I1, r1, n, e1, q1⟩ => ?_) (nomark _))
  subst e1
  refine wpAny_Constant_int ?_
  have w := op_eq pins { s1 with toks := s1.toks + 1 } σ H1 (.int n) (.int k) v (.int k s1.toks) (fun w H2 => w = .bl (decide (n = k)) ∧ H2 = H1) (I1.tok _) r1 ⟨_, rfl⟩ ⟨rfl, by simp, rfl⟩
  refine wpAny_mono (PySem.wpAny_toks_of (n := 1) (by show 1 ≤ s1.toks + 1; omega) w) (fun c s2 ⟨h1, w, H2, I2, r2, ew, eH⟩ => ?_) fun _ _ z => z.2
  subst ew eH
  cases r2
  refine wpAny_truthy_bool ?_
  by_cases e : n = k
  · rw [if_pos e] at q1
    rw [decide_eq_true e]
    simp only [if_true]
    have bd : PSsT X [.Return (some (.BinOp (.Call (.Attribute o "replace" ap) [.Constant (.str x) j2 c2, .Constant (.str y) j3 c3] [] pos) .Add (.Constant (.str z) j4 c4) pos2)) pos3] _ :=
      CwR.psst_one (CwR.pst_ret (CwR.pet_op op_add_str (CwR.pet_replC ho hxy rfl (noSup_base hs) hl) (CwR.PET.of pe_str)))
    refine bd pins s2 σ H2 D h1 I2 ?_
    refine tG.mono q1 fun w H3 ⟨t, ew, hz, hz2, q⟩ => ?_
    have hb := rpl_len t x y
    exact ⟨t, ew, by omega, Txt.replace t x y, z, rfl, rfl, by rw [sizeLine_eq]; omega, q⟩
  · rw [if_neg e] at q1
    rw [decide_eq_false e]
    simp only [Bool.false_eq_true, if_false]
    exact wpAny_execs_nil ⟨σ, H2, I2, q1⟩
theorem rpl_ok {f : Expr → Option PX} {t : Expr} {a b : List Stmt} {p0 : Sm} {pos : Pos} (ih : ∀ e p, f e = some p → PE X e (tI X.K cm W (evE Γ p))) (h : rplC f t a b = some p0) : PS X (.If t a b pos) (tIS X.K cm W (evS Γ sub p0)) := by
  unfold rplC at h
  split at h
  · split at h
    · rename_i hb
      simp only [Bool.and_eq_true, decide_eq_true_eq, Bool.not_eq_true'] at hb
      obtain ⟨rfl, h2, h3, h4⟩ := hb
      split at h
      · rename_i p q e1 e2
        cases h
        exact ps_rpl (ih _ _ e1) (ih _ _ e2) h2 h3 h4
      · cases h
    · cases h
  · cases h
end
end Wg
/-! WiH: except .. as e: the suite that holds its exception. -/
namespace Wg
open PySem PySem.Spec PyProof.Rows L2 StX ClX
/-- .., where slot i holds the exception at a -/
def tAx (i : Nat) (a : Addr) (t : TE) : TE := fun σ H Q => σ[i]? = some (some (.ref a)) ∧ t σ H Q
def tAxT (i : Nat) (a : Addr) (t : TT) : TT := fun σ H Q => σ[i]? = some (some (.ref a)) ∧ t σ H Q
section
variable {g : GI} {c : CC} {cm : Cm} {Γ : Gam} {sub : Str → Str → Bool} {X : Cx} {W : WX} {k : Nat}
abbrev SndA (i : Nat) (a : Addr) (cm : Cm) (Γ : Gam) (X : Cx) (e : Expr) (p : PX) : Prop := PE X e (tAx i a (tI X.K cm W0 (evE Γ p))) ∧ (noIf e = true → PT X e (tAxT i a (tT X.K cm W0 (evE Γ p))))
section
variable {i : Nat} {a : Addr} {f : Expr → Option PX}
theorem ax_and (ih : ∀ e p, f e = some p → SndA i a cm Γ X e p) {pos : Pos} : ∀ (es : List Expr) (ps : List PX) (p : PX), es.all noIf = true → optAll f es = some ps → andL ps = some p →
    PE X (.BoolOp .And es pos) (tAx i a (tI X.K cm W0 (evE Γ p))) ∧ PW X (.BoolOp .And es pos) (tAxT i a (tT X.K cm W0 (evE Γ p)))
  | [], ps, p, _, h, e => by rw [optAll_nil h] at e; simp [andL] at e
  | [x], ps, p, hi, h, e => by
    obtain ⟨q, r, rfl, h1, h2⟩ := optAll_cons h
    rw [optAll_nil h2] at e
    simp only [andL, Option.some.injEq] at e; subst e
    simp only [List.all_cons, List.all_nil, Bool.and_true] at hi
    exact ⟨pe_one (ih x q h1).1, pw_and1 ((ih x q h1).2 hi)⟩
  | x :: y :: rest, ps, p, hi, h, e => by
    obtain ⟨q, r, rfl, h1, h2⟩ := optAll_cons h
    obtain ⟨q2, r2, rfl, h3, h4⟩ := optAll_cons h2
    rw [List.all_cons, Bool.and_eq_true] at hi
    simp only [andL] at e
    cases e2 : andL (q2 :: r2) with
    | none => rw [e2] at e; cases e
    | some w =>
      rw [e2] at e; cases e
      obtain ⟨i1, i2⟩ := ax_and ih (pos := pos) (y :: rest) (q2 :: r2) w hi.2 h2 e2
      refine ⟨PE.weak (pe_and (ih x q h1).1 i1) fun σ H Q z => ⟨z.1, tG.mono (and_st z.2) fun v H' u => ?_⟩, PW.weak (pw_and ((ih x q h1).2 hi.1) i2) fun σ H Q z => ⟨z.1, tG.mono (t_and z.2) fun v H' u => ?_⟩⟩
      · obtain ⟨b, hb, u⟩ := u
        refine ⟨b, hb, ?_⟩
        cases b with
        | true => exact ⟨z.1, u⟩
        | false => exact u
      · cases v with
        | true => exact ⟨z.1, u⟩
        | false => exact u
theorem ax_or (ih : ∀ e p, f e = some p → SndA i a cm Γ X e p) {pos : Pos} : ∀ (es : List Expr) (ps : List PX) (p : PX), es.all noIf = true → optAll f es = some ps → orL ps = some p →
    PE X (.BoolOp .Or es pos) (tAx i a (tI X.K cm W0 (evE Γ p))) ∧ PW X (.BoolOp .Or es pos) (tAxT i a (tT X.K cm W0 (evE Γ p)))
  | [], ps, p, _, h, e => by rw [optAll_nil h] at e; simp [orL] at e
  | [x], ps, p, hi, h, e => by
    obtain ⟨q, r, rfl, h1, h2⟩ := optAll_cons h
    rw [optAll_nil h2] at e
    simp only [orL, Option.some.injEq] at e; subst e
    simp only [List.all_cons, List.all_nil, Bool.and_true] at hi
    exact ⟨pe_one (ih x q h1).1, pw_or1 ((ih x q h1).2 hi)⟩
  | x :: y :: rest, ps, p, hi, h, e => by
    obtain ⟨q, r, rfl, h1, h2⟩ := optAll_cons h
    obtain ⟨q2, r2, rfl, h3, h4⟩ := optAll_cons h2
    rw [List.all_cons, Bool.and_eq_true] at hi
    simp only [orL] at e
    cases e2 : orL (q2 :: r2) with
    | none => rw [e2] at e; cases e
    | some w =>
      rw [e2] at e; cases e
      obtain ⟨i1, i2⟩ := ax_or ih (pos := pos) (y :: rest) (q2 :: r2) w hi.2 h2 e2
      refine ⟨PE.weak (pe_or (ih x q h1).1 i1) fun σ H Q z => ⟨z.1, tG.mono (or_st z.2) fun v H' u => ?_⟩, PW.weak (pw_or ((ih x q h1).2 hi.1) i2) fun σ H Q z => ⟨z.1, tG.mono (t_or z.2) fun v H' u => ?_⟩⟩
      · obtain ⟨b, hb, u⟩ := u
        refine ⟨b, hb, ?_⟩
        cases b with
        | false => exact ⟨z.1, u⟩
        | true => exact u
      · cases v with
        | false => exact ⟨z.1, u⟩
        | true => exact u
end
theorem isiX_ok {nm : Str} {l : List Str} {e : Expr} {b : Bool} (h : isiX g c nm l e = some b) : ∃ fp yp T Tp pos, e = .Call (.Name "isinstance" fp) [.Name nm yp, .Name T Tp] [] pos ∧ isGl c "isinstance" = true ∧ ("isinstance" : Str) ∈ g.blt ∧ plainN T = true ∧ isGl c T = true ∧ (T ∈ g.exc ∨ (T = "ValueError" ∧ T ∈ g.blt)) ∧ b = l.contains T := by
  unfold isiX at h
  split at h
  · rename_i f fp y yp T Tp pos
    split at h
    · rename_i hx
      simp only [Bool.and_eq_true, Bool.or_eq_true, decide_eq_true_eq] at hx
      obtain ⟨⟨⟨⟨⟨⟨rfl, h2⟩, h3⟩, rfl⟩, h5⟩, h6⟩, h7⟩ := hx
      cases h
      exact ⟨fp, yp, T, Tp, pos, rfl, h2, h3, h5, h6, h7, rfl⟩
    · cases h
  · cases h
section
variable {nm cl : Str} {l : List Str} {i : Nat} {a D : Addr} {oe : Obj} {pn : List (Addr × Obj)}
theorem sound_X (C : CxS g c cm Γ sub X W k) (hl : (cl, l) ∈ g.esup) (hD : cm cl = some D) (hz : Zc (.ref D) none oe) (hf : ∃ vs, oe.data = .fields vs) (hi : ixOf c.N nm = some i) (hlk : locK c nm = true) (hpn : plainN nm = true) : ∀ (n : Nat) (e : Expr) (p : PX),
    cpX g nm l n ⟨c.N, c.sc, true⟩ e = some p → SndA i a cm Γ (X.suite a ((a, oe) :: pn)) e p := by
  have CS := C.suite a ((a, oe) :: pn)
  intro n
  induction n with
  | zero => intro e p h; simp [cpX] at h
  | succ n IH =>
    intro e p h
    simp only [cpX] at h
    cases e0 : isiX g ⟨c.N, c.sc, true⟩ nm l e with
    | some b =>
      rw [e0] at h
      cases h
      obtain ⟨fp, yp, T, Tp, pos, rfl, h2, h3, h5, h6, h7, rfl⟩ := isiX_ok e0
      obtain ⟨C', c1, c2, c3, c4⟩ := C.exc.isi cl l hl
      rw [hD] at c1; cases c1
      obtain ⟨d1, d2, d3⟩ := plain_dbg hpn
      obtain ⟨t1, t2, t3⟩ := plain_dbg h5
      have hv : PE (X.suite a ((a, oe) :: pn)) (.Name nm yp) (tVar i) := pe_var (by rw [CS.e.N]; exact ixOf_get hi) (CS.e.vis (by unfold visK; rw [locK_ok (c := c) hlk])) d1 d2
      have key : ∃ (v : V) (cv : Value), PE (X.suite a ((a, oe) :: pn)) (.Name T Tp) (tC v) ∧ (∀ u, RelV v u → u = cv) ∧ PySem.W.kitOne X.K (.ref D) cv = some (l.contains T) := by
        rcases h7 with h7 | ⟨rfl, h7⟩
        · obtain ⟨DT, e1, e2⟩ := c3 T h7
          exact ⟨.ref DT, .ref DT, pe_glob (CS.e.gl h6) e1 rfl t1, fun u r => r, e2⟩
        · exact ⟨.ty "ValueError", .type "ValueError", pe_bltn (CS.e.gl h6) (CS.e.wd.blt _ h7) (u := .type "ValueError") (by decide +kernel) rfl t3 t1, fun u r => r, c4⟩
      obtain ⟨v, cv, hT, hr, hk⟩ := key
      have hE : PE (X.suite a ((a, oe) :: pn)) (.Call (.Name "isinstance" fp) [.Name nm yp, .Name T Tp] [] pos) (tAx i a (tI X.K cm W0 (evE Γ (.k (.bl (l.contains T)))))) := by
        refine PE.weak (pe_callB (call_isE (X := X) (pn := pn) c2 hz hf) (CS.e.gl h2) (CS.e.wd.blt _ h3) (by decide +kernel) (pa_cons hv (pa_cons hT pa_nil))) fun σ H Q z => ?_
        exact ⟨_, z.1, v, cv, _, rfl, hr, hk, k_st (fun _ _ _ => by simp only [RV]) z.2⟩
      exact ⟨hE, fun _ => PT.weak (pt_val hE (by intro _; rfl)) fun σ H Q q => ⟨q.1, tT_val q.2⟩⟩
    | none =>
      rw [e0] at h
      dsimp only at h
      split at h
      · rename_i x pos
        split at h
        · rename_i hn
          cases e1 : cpX g nm l n ⟨c.N, c.sc, true⟩ x with
          | none => rw [e1] at h; cases h
          | some q1 =>
            rw [e1] at h; cases h
            obtain ⟨i1, i2⟩ := IH x q1 e1
            exact ⟨PE.weak (pe_not i1) fun σ H Q q => ⟨q.1, not_st q.2⟩, fun _ => PT.weak (pt_not (i2 hn)) fun σ H Q q => ⟨q.1, t_not q.2⟩⟩
        · cases h
      · rename_i es pos
        split at h
        · cases h
        · rename_i hb
          split at h
          · rename_i ps e1
            obtain ⟨i1, i2⟩ := ax_and IH (pos := pos) es ps p (by simpa using hb) e1 h
            exact ⟨i1, fun _ => i2.pt⟩
          · cases h
      · rename_i es pos
        split at h
        · cases h
        · rename_i hb
          split at h
          · rename_i ps e1
            obtain ⟨i1, i2⟩ := ax_or IH (pos := pos) es ps p (by simpa using hb) e1 h
            exact ⟨i1, fun _ => i2.pt⟩
          · cases h
      · obtain ⟨i1, i2⟩ := sound_E g cm Γ (n + 1) _ _ W0 k e p CS.e h
        exact ⟨PE.weak i1 fun σ H Q q => q.2, fun hn => PT.weak (i2 hn) fun σ H Q q => q.2⟩
/-- .., a statement: the slot holds the exception behind it, too -/
def tAs (i : Nat) (a : Addr) (K : PySem.W.Frag) (cm : Cm) (m : Sl → Sto → Rz) : TS := fun D σ H => σ[i]? = some (some (.ref a)) ∧ tIS K cm W0 m { D with nx := fun σ' H' => σ'[i]? = some (some (.ref a)) → D.nx σ' H' } σ H
theorem sound_XSs (ih : ∀ st p, cpXS g nm l n c st = some p → PS X st (tAs i a X.K cm (evS Γ sub p))) : ∀ (ss : List Stmt) (ps : List Sm), optAll (cpXS g nm l n c) ss = some ps → PSs X ss (tAs i a X.K cm (evSs Γ sub ps))
  | [], ps, h => by
    rw [optAll_nil h]
    refine PSs.weak pss_nil fun D σ H q => ?_
    exact next_st (tIS.same q.2 fun τ S => by simp only [evSs]) q.1
  | s :: ss, ps, h => by
    obtain ⟨p, r, rfl, h1, h2⟩ := optAll_cons h
    refine PSs.weak (pss_cons (ih s p h1) (sound_XSs ih ss r h2)) fun D σ H q => ⟨q.1, ?_⟩
    obtain ⟨ι, S, τ, rl, rs, o⟩ := q.2
    refine ⟨ι, S, τ, rl, rs, ?_⟩
    simp only [evSs] at o
    cases e : evS Γ sub p τ S with
    | next τ1 S1 => rw [e] at o; exact fun ι1 H1 σ1 st r1 rs1 hσ => ⟨hσ, ι1, S1, τ1, r1, rs1, OutS.shift o r1 st⟩
    | ret v S1 => rw [e] at o; exact o
    | brk τ1 S1 => rw [e] at o; exact o
    | cnt τ1 S1 => rw [e] at o; exact o
    | exc c τ1 S1 => rw [e] at o; exact o
    | bad => rw [e] at o; exact o
theorem sound_XS (C : CxS g c cm Γ sub X W k) (hl : (cl, l) ∈ g.esup) (hD : cm cl = some D) (hz : Zc (.ref D) none oe) (hf : ∃ vs, oe.data = .fields vs) (hi : ixOf c.N nm = some i) (hlk : locK c nm = true) (hpn : plainN nm = true) : ∀ (n : Nat) (st : Stmt) (p : Sm),
    cpXS g nm l n ⟨c.N, c.sc, true⟩ st = some p → PS (X.suite a ((a, oe) :: pn)) st (tAs i a X.K cm (evS Γ sub p)) := by
  have sx := sound_X (a := a) (pn := pn) C hl hD hz hf hi hlk hpn
  intro n
  induction n with
  | zero => intro st p h; simp [cpXS] at h
  | succ n IH =>
    intro st p h
    simp only [cpXS] at h
    split at h
    · rename_i e pos
      cases e1 : cpX g nm l n ⟨c.N, c.sc, true⟩ e with
      | none => rw [e1] at h; cases h
      | some q =>
        rw [e1] at h; cases h
        refine PS.weak (ps_ret (sx n e q e1).1) fun D σ H z => ⟨z.1, ?_⟩
        exact tIS.bind (RA := RVS X.K) (f := fun τ v S1 => .ret v S1) (tIS.same z.2 fun τ S => by simp only [evS]) fun ι1 S1 H1 τ a v r1 rs ra o => o ι1 H1 v Step.refl r1 ra
    · cases h
      exact PS.weak ps_pass fun D σ H z => next_st (tIS.same z.2 fun τ S => by simp only [evS]) z.1
    · rename_i t b1 b2 pos
      split at h
      · rename_i hn
        split at h
        · rename_i p1 q1 r1 e1 e2 e3
          cases h
          refine PS.weak (ps_if ((sx n t p1 e1).2 hn) (sound_XSs (X := X.suite a ((a, oe) :: pn)) IH b1 q1 e2) (sound_XSs (X := X.suite a ((a, oe) :: pn)) IH b2 r1 e3)) fun D σ H z => ⟨z.1, ?_⟩
          refine tIS.test (f := fun τ b S1 => if b then evSs Γ sub q1 τ S1 else evSs Γ sub r1 τ S1) (D := { D with nx := fun σ' H' => σ'[i]? = some (some (.ref a)) → D.nx σ' H' }) (tIS.same z.2 fun τ S => ?_) fun ι1 S1 H1 τ b r rs o => ?_
          · simp only [evS]
            cases evE Γ p1 τ S with
            | bad => rfl
            | exc c S1 => rfl
            | ok v S1 => cases v with
              | bl b => cases b <;> rfl
              | non => rfl
              | int b => rfl
              | str b => rfl
              | tup b => rfl
              | ref b => rfl
              | cls b => rfl
          · cases b with
            | true => simp only [if_true] at o ⊢; exact ⟨z.1, ι1, S1, τ, r, rs, o⟩
            | false => simp only [Bool.false_eq_true, if_false] at o ⊢; exact ⟨z.1, ι1, S1, τ, r, rs, o⟩
        · cases h
      · cases h
    · cases h
end
theorem cpAs_ok {nm d : Str} {n : Nat} {su : List Stmt} {f : Sl → Sto → Rz} {cn : Str} : ∀ (es : List (Str × List Str)) (hs : List (Str × List Sm)), cpAs g nm d n c su es = some hs → (evHs Γ sub hs).lookup cn = some f →
    ∃ l u, (cn, l) ∈ es ∧ optAll (cpXS g nm l n c) su = some u ∧ f = evSs Γ sub u
  | [], hs, h, e => by
    simp only [cpAs, Option.some.injEq] at h
    subst h
    simp only [evHs, List.lookup_nil] at e
    cases e
  | (x, l) :: r, hs, h, e => by
    simp only [cpAs] at h
    split at h
    · split at h
      · rename_i u v e1 e2
        cases h
        simp only [evHs, List.lookup_cons] at e
        split at e
        · rename_i hx
          cases e
          have : cn = x := by simpa using hx
          subst this
          exact ⟨l, u, List.mem_cons_self, e1, rfl⟩
        · obtain ⟨l', u', h1, h2, h3⟩ := cpAs_ok r v e2 e
          exact ⟨l', u', List.mem_cons_of_mem _ h1, h2, h3⟩
      · cases h
    · obtain ⟨l', u', h1, h2, h3⟩ := cpAs_ok r hs h e
      exact ⟨l', u', List.mem_cons_of_mem _ h1, h2, h3⟩
theorem RSl.set_none {K : PySem.W.Frag} {ι : Nat → Addr} {n : Nat} {H : Hp} {τ : Sl} {σ : L2.St} (h : RSl K ι n H τ σ) (i : Nat) (v : Option V) : RSl K ι n H (τ.set i none) (σ.set i v) := by
  refine ⟨by simp [h.1], fun j jv e => ?_⟩
  by_cases hj : i = j
  · subst hj
    by_cases hlt : i < τ.length
    · rw [List.getElem?_set_self hlt] at e; cases e
    · rw [List.getElem?_eq_none (by simpa using hlt)] at e; cases e
  · rw [List.getElem?_set_ne hj] at e ⊢
    exact h.2 j jv e
/-- what the suite of e's class does -/
def tCatch (g : GI) (cm : Cm) (K : PySem.W.Frag) (Γ : Gam) (sub : Str → Str → Bool) (c : CC) (nm : Str) (n i : Nat) (su : List Stmt) (a : Addr) (cls : Value) (d : Option Addr) : TS := fun D σ H =>
  ∃ (σ0 : L2.St) (cn : Str) (C : Addr) (l : List Str) (u : List Sm), σ = σ0.set i (some (.ref a)) ∧ cls = .ref C ∧ d = none ∧ cm cn = some C ∧ (cn, l) ∈ g.esup ∧ optAll (cpXS g nm l n ⟨c.N, c.sc, true⟩) su = some u ∧
    tIS K cm W0 (evSs Γ sub u) { D with nx := fun σ' H' => σ'[i]? = some (some (.ref a)) → D.nx σ' H' } σ H
theorem sound_as (C : CxS g c cm Γ sub X W k) {b su : List Stmt} {s0 : Stmt} {x nm : Str} {xp hp pos : Pos} {n i : Nat} {q : List Sm} {l : List (Str × List Sm)}
    (hb : ∀ (W' : WX) (pn : List (Addr × Obj)) (xe : Value → Shared → Prop), Takes (X.tr pn xe) W' → PassesOwn (model X.prog X.w) X.A X.env xe → PSs (X.tr pn xe) b (tIS X.K cm W' (evSs Γ sub q)))
    (hx1 : plainN x = true) (hx2 : isGl c x = true) (hx3 : x ∈ g.exc) (hlk : locK c nm = true) (hpn : plainN nm = true) (hi : cpTn c nm = some i) (hl : cpAs g nm x n ⟨c.N, c.sc, true⟩ (s0 :: su) g.esup = some l) :
    PS X (.Try b [.ExceptHandler (some (.Name x xp)) (some nm) (s0 :: su) hp] [] [] pos) (tIS X.K cm W (evS Γ sub (.tryas q i x l))) := by
  obtain ⟨Cx', c1, c2, _⟩ := C.exc.made x hx3
  have hix : ixOf c.N nm = some i := (cpTn_ok hi).1
  refine PS.weak (ps_try_as (tb := fun W' => tIS X.K cm W' (evSs Γ sub q)) (ts := tCatch g cm X.K Γ sub c nm n i (s0 :: su)) (i := i) (n := nm) C.stk C.frm C.e.nd (by rw [C.e.N]; exact ixOf_get hix) (by show X.env.scope.names.lookup nm = _; rw [C.e.sc]; exact locK_ok hlk) ⟨C.e.gl hx2, (plain_dbg hx1).1, .inl c2⟩ C.e.tk hb ?_) fun D σ H z => ?_
  · intro a oe cls d pn hz hf
    refine ⟨fun pins s σ H D I w => ?_⟩
    obtain ⟨σ0, cn, C', l', u, rfl, rfl, rfl, hC, hm, hu, z⟩ := w
    have hlen : i < σ0.length := by
      have h1 := I.len
      rw [List.length_set] at h1
      have h2 : X.N[i]? = some nm := by rw [C.e.N]; exact ixOf_get hix
      have h3 := (List.getElem?_eq_some_iff.mp h2).1
      exact h1 ▸ h3
    exact (sound_XSs (X := X.suite a ((a, oe) :: pn)) (sound_XS C hm hC hz hf hix hlk hpn n) (s0 :: su) u hu).run pins s _ H D I ⟨List.getElem?_set_self hlen, z⟩
  · obtain ⟨ι, S, τ, rl, rs, o⟩ := z
    refine ⟨ι, S, τ, rl, rs, ?_⟩
    simp only [evS] at o
    cases e3 : evSs Γ sub q τ S with
    | exc cn τ1 S1 =>
      rw [e3] at o
      intro ι1 H1 σ1 st r1 rs1 Cn hC
      have o1 := OutS.shift o r1 st
      dsimp only [catchA] at o1
      refine ⟨sub cn x, C.exc.sub cn Cn x Cx' hC hx3 c1, fun hb a ha => ?_, fun hb => ?_⟩
      · rw [if_pos hb] at o1
        cases e4 : (evHs Γ sub l).lookup cn with
        | none => rw [e4] at o1; exact o1.elim
        | some f =>
          rw [e4] at o1
          obtain ⟨l', u, hm, hu, rfl⟩ := cpAs_ok _ _ hl e4
          refine ⟨σ1, cn, Cn, l', u, rfl, rfl, rfl, hC, hm, hu, ι1, S1, τ1.set i none, r1, rs1.set_none i _, ?_⟩
          dsimp only at o1
          cases e5 : evSs Γ sub u (τ1.set i none) S1 with
          | next τ2 S2 => rw [e5] at o1; exact fun ι2 H2 σ2 st2 r2 rs2 _ => o1 ι2 H2 _ st2 r2 (rs2.set_none i none)
          | ret v S2 => rw [e5] at o1; exact o1
          | brk τ2 S2 => rw [e5] at o1; exact o1.elim
          | cnt τ2 S2 => rw [e5] at o1; exact o1.elim
          | exc c2 τ2 S2 => rw [e5] at o1; exact o1.elim
          | bad => rw [e5] at o1; exact o1.elim
      · rw [if_neg (by rw [hb]; exact Bool.false_ne_true)] at o1
        exact o1 ι1 H1 σ1 Step.refl r1 rs1 Cn hC
    | next τ1 S1 => rw [e3] at o; exact o
    | ret v S1 => rw [e3] at o; exact o
    | brk τ1 S1 => rw [e3] at o; exact o
    | cnt τ1 S1 => rw [e3] at o; exact o
    | bad => rw [e3] at o; exact o
end
end Wg
/-! WgR: the soundness of statements. -/
namespace Wg
open PySem PySem.Spec PyProof.Rows L2
section
variable {g : GI} {c : CC} {cm : Cm} {Γ : Gam} {sub : Str → Str → Bool} {X : Cx} {W : WX} {k n : Nat}
theorem sound_Ss (ih : ∀ st p, cpS g n c st = some p → PS X st (tIS X.K cm W (evS Γ sub p))) : ∀ (ss : List Stmt) (ps : List Sm), optAll (cpS g n c) ss = some ps → PSs X ss (tIS X.K cm W (evSs Γ sub ps))
  | [], ps, h => by
    rw [optAll_nil h]
    exact PSs.weak pss_nil fun D σ H q => next_st (tIS.same q fun τ S => by simp only [evSs])
  | s :: ss, ps, h => by
    obtain ⟨p, r, rfl, h1, h2⟩ := optAll_cons h
    exact PSs.weak (pss_cons (ih s p h1) (sound_Ss ih ss r h2)) fun D σ H q => seq_st (tIS.same q fun τ S => by simp only [evSs])
theorem set_st {K : PySem.W.Frag} {tg : Tg} {p : PX} {D : Ends} {σ : L2.St} {H : Hp} {te : TE} (hte : ∀ Q, tI K cm W (evE Γ p) σ H Q → te σ H Q) (h : tIS K cm W (evS Γ sub (.set tg p)) D σ H) : tAsg te (gTg K tg) D σ H := by
  refine hte _ (tIS.bind (f := fun τ v S1 => setN tg v τ S1) (D := D) (tIS.same h fun τ S => by simp only [evS]) fun ι1 S1 H1 τ a v r1 rs ra o => ?_)
  unfold setN at o
  cases e : setT tg a τ with
  | none => rw [e] at o; exact o.elim
  | some τ' =>
    rw [e] at o
    exact setT_ok tg a v τ τ' σ e ra rs _ fun σ' rs' _ => o ι1 H1 σ' Step.refl r1 rs'
/-- o[i] = v, a list or a dict -/
def rSetA : TSet := fun o i v H Q => rSetL o i v H Q ∨ ∃ p ps k, o = .ref p ∧ i = kV k ∧ H p = some (.dK ps) ∧ ps.length < sizeLine ∧ Q (upd H p (.dK (putK ps k v)))
/-- .., or a dict whose keys are tuples -/
def rSetB (K : PySem.W.Frag) : TSet := fun o i v H Q => rSetA o i v H Q ∨ ∃ p ps b k, o = .ref p ∧ i = .ref b ∧ DtO K H p ps ∧ SqN K H b (k.map kV) ∧ (∀ z ∈ k, ∃ i, z = Sum.inl i) ∧ ps.length < sizeLine ∧ ∀ ob, DtO K (upd H p (dtx p ob)) p (putK ps k v) → Q (upd H p (dtx p ob))
theorem set_any (hu : X.A.units + 1 < cLine) : L2.PSet X rSetA := by
  intro pins s σ H o i v ov iv u Q I ro ri rv h
  rcases h with h | ⟨p, ps, k, rfl, rfl, h1, h2, q⟩
  · exact set_list pins s σ H o i v ov iv u Q I ro ri rv h
  · cases ro
    exact d_setItem hu I (DPut.k h1 h2) ri rv fun s' I' => ⟨_, I', q⟩
theorem set_anyB (hu : X.A.units + 1 < cLine) : L2.PSet X (rSetB X.K) := by
  intro pins s σ H o i v ov iv u Q I ro ri rv h
  rcases h with h | ⟨p, ps, b, k, rfl, rfl, h1, h2, h3, h4, q⟩
  · exact set_any hu pins s σ H o i v ov iv u Q I ro ri rv h
  · cases ro
    cases ri
    exact dt_setItem hu I h1 h2 h3 h4 rv fun ob s' hd I' => ⟨_, I', q ob hd⟩
theorem dPut_keys {κ : Type} [DecidableEq κ] {k : κ} {w : IV} {v : V} : ∀ {kvs : List (κ × IV)} {ps : List (κ × V)}, ps.map (·.1) = kvs.map (·.1) → (putK ps k v).map (·.1) = (dPut kvs k w).map (·.1) := by
  intro kvs ps h
  have ha : (ps.any fun kv => decide (kv.1 = k)) = (kvs.any fun kv => decide (kv.1 = k)) := by
    have e1 : (ps.any fun kv => decide (kv.1 = k)) = (ps.map (·.1)).any fun z => decide (z = k) := by simp [List.any_map, Function.comp_def]
    have e2 : (kvs.any fun kv => decide (kv.1 = k)) = (kvs.map (·.1)).any fun z => decide (z = k) := by simp [List.any_map, Function.comp_def]
    rw [e1, e2, h]
  unfold putK dPut
  rw [ha]
  split
  · have m1 : ∀ (l : List (κ × V)), (l.map fun kv => if kv.1 = k then (kv.1, v) else kv).map (·.1) = l.map (·.1) := fun l => by
      rw [List.map_map]; refine List.map_congr_left fun x _ => ?_
      simp only [Function.comp]; split <;> rfl
    have m2 : ∀ (l : List (κ × IV)), (l.map fun kv => if kv.1 = k then (kv.1, w) else kv).map (·.1) = l.map (·.1) := fun l => by
      rw [List.map_map]; refine List.map_congr_left fun x _ => ?_
      simp only [Function.comp]; split <;> rfl
    rw [m1, m2, h]
  · simp [h]
theorem dPut_vals {κ : Type} [DecidableEq κ] {K : PySem.W.Frag} {ι : Nat → Addr} {n : Nat} {H : Hp} {k : κ} {w : IV} {v : V} (rv : RV K ι n H w v) {kvs : List (κ × IV)} {ps : List (κ × V)} (h : ps.map (·.1) = kvs.map (·.1)) (r : RVs K ι n H (kvs.map (·.2)) (ps.map (·.2))) : RVs K ι n H ((dPut kvs k w).map (·.2)) ((putK ps k v).map (·.2)) := by
  have ha : (ps.any fun kv => decide (kv.1 = k)) = (kvs.any fun kv => decide (kv.1 = k)) := by
    have e1 : (ps.any fun kv => decide (kv.1 = k)) = (ps.map (·.1)).any fun z => decide (z = k) := by simp [List.any_map, Function.comp_def]
    have e2 : (kvs.any fun kv => decide (kv.1 = k)) = (kvs.map (·.1)).any fun z => decide (z = k) := by simp [List.any_map, Function.comp_def]
    rw [e1, e2, h]
  unfold putK dPut
  rw [ha]
  split
  · have go : ∀ {kvs : List (κ × IV)} {ps : List (κ × V)}, ps.map (·.1) = kvs.map (·.1) → RVs K ι n H (kvs.map (·.2)) (ps.map (·.2)) → RVs K ι n H ((kvs.map fun kv => if kv.1 = k then (kv.1, w) else kv).map (·.2)) ((ps.map fun kv => if kv.1 = k then (kv.1, v) else kv).map (·.2)) := by
      intro kvs
      induction kvs with
      | nil =>
        intro ps h r
        have : ps = [] := by simpa using h
        subst this
        exact .nil
      | cons a kvs ih =>
        intro ps h r
        cases ps with
        | nil => simp at h
        | cons b ps =>
          simp only [List.map_cons, List.cons.injEq] at h
          obtain ⟨x, y, e, r1, r2⟩ := RVs.uncons r
          simp only [List.map_cons, List.cons.injEq] at e
          obtain ⟨rfl, rfl⟩ := e
          simp only [List.map_cons]
          refine .cons ?_ (ih h.2 r2)
          rw [h.1]
          split
          · exact rv
          · exact r1
    exact go h r
  · rw [List.map_append, List.map_append]
    exact r.append (.cons rv .nil)
theorem sub_st {K : PySem.W.Frag} {p q r : PX} {D : Ends} {σ : L2.St} {H : Hp} (h : tIS K cm W (evS Γ sub (.sub p q r)) D σ H) : tAsg (tI K cm W (evE Γ r)) (gSub (tI K cm W (evE Γ p)) (tI K cm W (evE Γ q)) (rSetB K)) D σ H := by
  refine tIS.bind (RA := RVS K) (f := fun τ v S1 => (evE Γ p τ S1).thn τ fun x S2 => (evE Γ q τ S2).thn τ fun y S3 => subN v x y τ S3) (tIS.same h fun τ S => by simp only [evS]) fun ι1 S1 H1 τ a v r1 rs ra o => ?_
  -- at fixed slots: the two further expressions
  refine ⟨ι1, S1, τ, r1, rs, ?_⟩
  cases e1 : evE Γ p τ S1 with
  | bad => rw [e1] at o; exact o
  | exc c S2 => rw [e1] at o; exact fun ι2 H2 st r2 C hC => o ι2 H2 σ st r2 (rs.step r1 st) C hC
  | ok x S2 =>
    rw [e1] at o
    intro ι2 H2 xv st2 r2 rx
    have o2 := OutS.shift o r2 st2
    have rs2 := rs.step r1 st2
    refine ⟨ι2, S2, τ, r2, rs2, ?_⟩
    dsimp only [Rs.thn] at o2
    cases e2 : evE Γ q τ S2 with
    | bad => rw [e2] at o2; exact o2
    | exc c S3 => rw [e2] at o2; exact fun ι3 H3 st r3 C hC => o2 ι3 H3 σ st r3 (rs2.step r2 st) C hC
    | ok y S3 =>
      rw [e2] at o2
      intro ι3 H3 yv st3 r3 ry
      have o3 := OutS.shift o2 r3 st3
      dsimp only [subN] at o3
      have rv3 : RV K ι3 S3.length H3 a v := (RV.step ra r1 st2).step r2 st3
      split at o3
      · rename_i m
        cases e3 : S3[m]? with
        | none => rw [e3] at o3; exact o3.elim
        | some cl =>
          rw [e3] at o3
          have hk : m < S3.length := (List.getElem?_eq_some_iff.mp e3).1
          cases cl with
          | lst xs =>
            dsimp only at o3
            split at o3
            · rename_i kk
              cases e4 : ixN xs.length kk with
              | none => rw [e4] at o3; exact o3.elim
              | some j =>
                rw [e4] at o3
                obtain ⟨vs, hx, h1, h2⟩ := lst_ok r3 (RV.step rx r2 st3) e3
                have hy : yv = .int kk := by simpa only [RVS, RV] using ry
                refine .inl (.inl ⟨ι3 m, vs, kk, j, hx, hy, h1, by rw [h2.length]; exact e4, ?_⟩)
                have ht : ∀ a us, SqN K H3 a us → SqN K (upd H3 (ι3 m) (.lst (vs.set j v))) a us := fun _ _ hq => hq.upd_at fun _ _ z => by rw [h1] at z; cases z
                obtain ⟨r4, st4⟩ := r3.put hk (o := .lst (vs.set j v)) (c := .lst (xs.set j a)) ⟨_, upd_same, (h2.set rv3 j).map ht (fun _ _ => rfl) (Nat.le_refl _)⟩
                exact o3 ι3 _ σ st4 r4 ((rs2.step r2 st3).step r3 st4)
            · exact o3.elim
          | dct kvs =>
            dsimp only at o3
            cases e4 : keyOf y with
            | none => rw [e4] at o3; exact o3.elim
            | some k =>
              rw [e4] at o3
              dsimp only at o3
              split at o3
              · rename_i hz
                have hx := RV.step rx r2 st3
                simp only [RV] at hx
                obtain ⟨ps, h1, h2, h3⟩ := r3.cell m _ e3
                have hy : yv = kV k := by
                  cases y <;> simp only [keyOf] at e4 <;> cases e4 <;> (simp only [RVS, RV] at ry; exact ry)
                have hl : ps.length = kvs.length := by simpa using congrArg List.length h2
                simp only [szOk, decide_eq_true_eq] at hz
                refine .inl (.inr ⟨ι3 m, ps, k, hx.2, hy, h1, by rw [hl, sizeLine_eq]; omega, ?_⟩)
                have ht : ∀ a us, SqN K H3 a us → SqN K (upd H3 (ι3 m) (.dK (putK ps k v))) a us := fun _ _ hq => hq.upd_at fun _ _ z => by rw [h1] at z; cases z
                obtain ⟨r4, st4⟩ := r3.put hk (o := .dK (putK ps k v)) (c := .dct (dPut kvs k a)) ⟨_, upd_same, dPut_keys h2, (dPut_vals rv3 h2 h3).map ht (fun _ _ => rfl) (Nat.le_refl _)⟩
                exact o3 ι3 _ σ st4 r4 ((rs2.step r2 st3).step r3 st4)
              · exact o3.elim
          | dtt kvs =>
            dsimp only at o3
            cases e4 : keysOf y with
            | none => rw [e4] at o3; exact o3.elim
            | some k =>
              rw [e4] at o3
              dsimp only at o3
              split at o3
              · rename_i hz
                have hx := RV.step rx r2 st3
                simp only [RV] at hx
                obtain ⟨ps, h1, h2, h3⟩ := r3.cell m _ e3
                obtain ⟨b0, rfl, hb0, hk0⟩ := keys_ok (K := K) (ι := ι3) (H := H3) (S := S3) (v := yv) e4 (by simpa only [RVS] using ry)
                have hl : ps.length = kvs.length := by simpa using congrArg List.length h2
                simp only [szOk, decide_eq_true_eq] at hz
                refine .inr ⟨ι3 m, ps, b0, k, hx.2, rfl, h1, hb0, hk0, by rw [hl, sizeLine_eq]; omega, fun ob hob => ?_⟩
                obtain ⟨oo, _, _, _, g1, _⟩ := h1
                have ht : ∀ a us, SqN K H3 a us → SqN K (upd H3 (ι3 m) (dtx (ι3 m) ob)) a us := fun _ _ hq => hq.upd_at fun _ _ z => by rw [g1] at z; cases z
                obtain ⟨r4, st4⟩ := r3.put hk (o := dtx (ι3 m) ob) (c := .dtt (dPut kvs k a)) ⟨_, hob, dPut_keys h2, (dPut_vals rv3 h2 h3).map ht (fun _ _ => rfl) (Nat.le_refl _)⟩
                exact o3 ι3 _ σ st4 r4 ((rs2.step r2 st3).step r3 st4)
              · exact o3.elim
          | frz xs => exact o3.elim
          | ins c fs => exact o3.elim
      · exact o3.elim
theorem RVs.two' {K : PySem.W.Frag} {ι : Nat → Addr} {n : Nat} {H : Hp} {a b : IV} {xs : List V} (h : RVs K ι n H [a, b] xs) : ∃ x y, xs = [x, y] ∧ RV K ι n H a x ∧ RV K ι n H b y := by
  obtain ⟨v, r, rfl, h1, h2⟩ := h.uncons
  obtain ⟨w, r', rfl, h3, h4⟩ := h2.uncons
  simp only [RVs] at h4; subst h4
  exact ⟨v, w, rfl, h1, h3⟩
theorem subs_st {K : PySem.W.Frag} {p q r : PX} {jj : Nat} {D : Ends} {σ : L2.St} {H : Hp} (h : tIS K cm W (evS Γ sub (.subs p q jj r)) D σ H) : tAsg (tI K cm W (evE Γ r)) (gTup K 2 (gCons (gSub (tI K cm W (evE Γ p)) (tI K cm W (evE Γ q)) (rSetB K)) (gCons (gName jj) gNil))) D σ H := by
  refine tIS.bind (RA := RVS K) (f := fun τ v S1 => match v with | .tup [u, w] => (evE Γ p τ S1).thn τ fun x S2 => (evE Γ q τ S2).thn τ fun y S3 => andSet jj w (subN u x y τ S3) | _ => .bad) (tIS.same h fun τ S => by
    simp only [evS] <;> first
      | rfl
      | (congr 1; funext v S1; split <;> first | rfl | (rename_i hh; split <;> first | rfl | exact absurd rfl (hh _ _)))) fun ι1 S1 H1 τ a0 v0 r1 rs ra0 o => ?_
  obtain ⟨a, b, rfl⟩ : ∃ a b, a0 = .tup [a, b] := by
    match a0, o with
    | .tup [a, b], _ => exact ⟨a, b, rfl⟩
  simp only [RVS, RV] at ra0
  obtain ⟨t0, vs0, rfl, hq0, rv0⟩ := ra0
  obtain ⟨v, w, rfl, ra, rb⟩ := RVs.two' rv0
  refine ⟨t0, [v, w], rfl, hq0.toT, rfl, v, [w], rfl, ?_⟩
  refine ⟨ι1, S1, τ, r1, rs, ?_⟩
  cases e1 : evE Γ p τ S1 with
  | bad => rw [e1] at o; exact o
  | exc c S2 => rw [e1] at o; exact fun ι2 H2 st r2 C hC => o ι2 H2 σ st r2 (rs.step r1 st) C hC
  | ok x S2 =>
    rw [e1] at o
    intro ι2 H2 xv st2 r2 rx
    have o2 := OutS.shift o r2 st2
    have rs2 := rs.step r1 st2
    refine ⟨ι2, S2, τ, r2, rs2, ?_⟩
    dsimp only [Rs.thn] at o2
    cases e2 : evE Γ q τ S2 with
    | bad => rw [e2] at o2; exact o2
    | exc c S3 => rw [e2] at o2; exact fun ι3 H3 st r3 C hC => o2 ι3 H3 σ st r3 (rs2.step r2 st) C hC
    | ok y S3 =>
      rw [e2] at o2
      intro ι3 H3 yv st3 r3 ry
      have o3 := OutS.shift o2 r3 st3
      dsimp only [subN] at o3
      have st03 : Step ι1 S1 H1 ι3 S3 H3 := Step.trans r2 st2 st3
      have rv3 : RV K ι3 S3.length H3 a v := (RV.step ra r1 st2).step r2 st3
      split at o3
      · rename_i m
        cases e3 : S3[m]? with
        | none => rw [e3] at o3; exact o3.elim
        | some cl =>
          rw [e3] at o3
          have hk : m < S3.length := (List.getElem?_eq_some_iff.mp e3).1
          cases cl with
          | lst xs =>
            dsimp only at o3
            split at o3
            · rename_i kk
              cases e4 : ixN xs.length kk with
              | none => rw [e4] at o3; exact o3.elim
              | some j =>
                rw [e4] at o3
                obtain ⟨vs, hx, h1, h2⟩ := lst_ok r3 (RV.step rx r2 st3) e3
                have hy : yv = .int kk := by simpa only [RVS, RV] using ry
                refine .inl (.inl ⟨ι3 m, vs, kk, j, hx, hy, h1, by rw [h2.length]; exact e4, ?_⟩)
                have ht : ∀ a us, SqN K H3 a us → SqN K (upd H3 (ι3 m) (.lst (vs.set j v))) a us := fun _ _ hq => hq.upd_at fun _ _ z => by rw [h1] at z; cases z
                obtain ⟨r4, st4⟩ := r3.put hk (o := .lst (vs.set j v)) (c := .lst (xs.set j a)) ⟨_, upd_same, (h2.set rv3 j).map ht (fun _ _ => rfl) (Nat.le_refl _)⟩
                exact ⟨w, [], rfl, rfl, o3 ι3 _ _ st4 r4 (((rs2.step r2 st3).step r3 st4).set jj ((RV.step rb r1 st03).step r3 st4))⟩
            · exact o3.elim
          | dct kvs =>
            dsimp only at o3
            cases e4 : keyOf y with
            | none => rw [e4] at o3; exact o3.elim
            | some k =>
              rw [e4] at o3
              dsimp only at o3
              split at o3
              · rename_i hz
                have hx := RV.step rx r2 st3
                simp only [RV] at hx
                obtain ⟨ps, h1, h2, h3⟩ := r3.cell m _ e3
                have hy : yv = kV k := by
                  cases y <;> simp only [keyOf] at e4 <;> cases e4 <;> (simp only [RVS, RV] at ry; exact ry)
                have hl : ps.length = kvs.length := by simpa using congrArg List.length h2
                simp only [szOk, decide_eq_true_eq] at hz
                refine .inl (.inr ⟨ι3 m, ps, k, hx.2, hy, h1, by rw [hl, sizeLine_eq]; omega, ?_⟩)
                have ht : ∀ a us, SqN K H3 a us → SqN K (upd H3 (ι3 m) (.dK (putK ps k v))) a us := fun _ _ hq => hq.upd_at fun _ _ z => by rw [h1] at z; cases z
                obtain ⟨r4, st4⟩ := r3.put hk (o := .dK (putK ps k v)) (c := .dct (dPut kvs k a)) ⟨_, upd_same, dPut_keys h2, (dPut_vals rv3 h2 h3).map ht (fun _ _ => rfl) (Nat.le_refl _)⟩
                exact ⟨w, [], rfl, rfl, o3 ι3 _ _ st4 r4 (((rs2.step r2 st3).step r3 st4).set jj ((RV.step rb r1 st03).step r3 st4))⟩
              · exact o3.elim
          | dtt kvs =>
            dsimp only at o3
            cases e4 : keysOf y with
            | none => rw [e4] at o3; exact o3.elim
            | some k =>
              rw [e4] at o3
              dsimp only at o3
              split at o3
              · rename_i hz
                have hx := RV.step rx r2 st3
                simp only [RV] at hx
                obtain ⟨ps, h1, h2, h3⟩ := r3.cell m _ e3
                obtain ⟨b0, rfl, hb0, hk0⟩ := keys_ok (K := K) (ι := ι3) (H := H3) (S := S3) (v := yv) e4 (by simpa only [RVS] using ry)
                have hl : ps.length = kvs.length := by simpa using congrArg List.length h2
                simp only [szOk, decide_eq_true_eq] at hz
                refine .inr ⟨ι3 m, ps, b0, k, hx.2, rfl, h1, hb0, hk0, by rw [hl, sizeLine_eq]; omega, fun ob hob => ?_⟩
                obtain ⟨oo, _, _, _, g1, _⟩ := h1
                have ht : ∀ a us, SqN K H3 a us → SqN K (upd H3 (ι3 m) (dtx (ι3 m) ob)) a us := fun _ _ hq => hq.upd_at fun _ _ z => by rw [g1] at z; cases z
                obtain ⟨r4, st4⟩ := r3.put hk (o := dtx (ι3 m) ob) (c := .dtt (dPut kvs k a)) ⟨_, hob, dPut_keys h2, (dPut_vals rv3 h2 h3).map ht (fun _ _ => rfl) (Nat.le_refl _)⟩
                exact ⟨w, [], rfl, rfl, o3 ι3 _ _ st4 r4 (((rs2.step r2 st3).step r3 st4).set jj ((RV.step rb r1 st03).step r3 st4))⟩
              · exact o3.elim
          | frz xs => exact o3.elim
          | ins c fs => exact o3.elim
      · exact o3.elim
theorem par_st {K : PySem.W.Frag} {i j : Nat} {p q : PX} {D : Ends} {σ : L2.St} {H : Hp} (h : tIS K cm W (evS Γ sub (.par i j p q)) D σ H) : tPar i j (tIs K cm W (evEs Γ [p, q])) D σ H := by
  obtain ⟨ι, S, τ, rl, rs, o⟩ := h
  refine ⟨ι, S, τ, rl, rs, ?_⟩
  simp only [evS] at o
  simp only [evEs]
  cases e1 : evE Γ p τ S with
  | bad => rw [e1] at o; exact o
  | exc c S1 => rw [e1] at o; exact fun ι1 H1 st r1 C hC => o ι1 H1 σ st r1 (rs.step rl st) C hC
  | ok x S1 =>
    rw [e1] at o
    dsimp only [Rs.thn, Rs.bind] at o ⊢
    cases e2 : evE Γ q τ S1 with
    | bad => rw [e2] at o; exact o
    | exc c S2 => rw [e2] at o; exact fun ι1 H1 st r1 C hC => o ι1 H1 σ st r1 (rs.step rl st) C hC
    | ok y S2 =>
      rw [e2] at o
      intro ι1 H1 vs st r1 rv
      obtain ⟨v, w, hv, h1, h2⟩ : ∃ v w, vs = [v, w] ∧ RV K ι1 S2.length H1 x v ∧ RV K ι1 S2.length H1 y w := by
        obtain ⟨v, r, rfl, h1, h2⟩ := RVs.uncons rv
        obtain ⟨w, r', rfl, h3, h4⟩ := h2.uncons
        simp only [RVs] at h4; subst h4
        exact ⟨v, w, rfl, h1, h3⟩
      exact ⟨v, w, hv, o ι1 H1 _ st r1 (((rs.step rl st).set i h1).set j h2)⟩
theorem par3_st {K : PySem.W.Frag} {i j l : Nat} {p q r : PX} {D : Ends} {σ : L2.St} {H : Hp} (h : tIS K cm W (evS Γ sub (.par3 i j l p q r)) D σ H) : tPar3 i j l (tIs K cm W (evEs Γ [p, q, r])) D σ H := by
  obtain ⟨ι, S, τ, rl, rs, o⟩ := h
  refine ⟨ι, S, τ, rl, rs, ?_⟩
  simp only [evS] at o
  simp only [evEs]
  cases e1 : evE Γ p τ S with
  | bad => rw [e1] at o; exact o
  | exc c S1 => rw [e1] at o; exact fun ι1 H1 st r1 C hC => o ι1 H1 σ st r1 (rs.step rl st) C hC
  | ok x S1 =>
    rw [e1] at o
    dsimp only [Rs.thn, Rs.bind] at o ⊢
    cases e2 : evE Γ q τ S1 with
    | bad => rw [e2] at o; exact o
    | exc c S2 => rw [e2] at o; exact fun ι1 H1 st r1 C hC => o ι1 H1 σ st r1 (rs.step rl st) C hC
    | ok y S2 =>
      rw [e2] at o
      dsimp only [Rs.thn, Rs.bind] at o ⊢
      cases e3 : evE Γ r τ S2 with
      | bad => rw [e3] at o; exact o
      | exc c S3 => rw [e3] at o; exact fun ι1 H1 st r1 C hC => o ι1 H1 σ st r1 (rs.step rl st) C hC
      | ok z S3 =>
        rw [e3] at o
        intro ι1 H1 vs st r1 rv
        obtain ⟨v, w, u, hv, h1, h2, h3⟩ : ∃ v w u, vs = [v, w, u] ∧ RV K ι1 S3.length H1 x v ∧ RV K ι1 S3.length H1 y w ∧ RV K ι1 S3.length H1 z u := by
          obtain ⟨v, r, rfl, h1, h2⟩ := RVs.uncons rv
          obtain ⟨w, r', rfl, h3, h4⟩ := h2.uncons
          obtain ⟨u, r'', rfl, h5, h6⟩ := h4.uncons
          simp only [RVs] at h6; subst h6
          exact ⟨v, w, u, rfl, h1, h3, h5⟩
        exact ⟨v, w, u, hv, o ι1 H1 _ st r1 ((((rs.step rl st).set i h1).set j h2).set l h3)⟩
theorem aug_st {K : PySem.W.Frag} {i : Nat} {p : PX} {D : Ends} {σ : L2.St} {H : Hp} {o : Bop} {f : Int → Int → Int} (hf : ∀ x y (τ : Sl) S1, augN i o x y τ S1 = (match x, y with | IV.int p, IV.int q => Rz.next (τ.set i (some (.int (f p q)))) S1 | _, _ => Rz.bad)) (h : tIS K cm W (evS Γ sub (.aug i o p)) D σ H) : tAug i (tI K cm W (evE Γ p)) (ipI f) D σ H := by
  obtain ⟨ι, S, τ, rl, rs, q⟩ := h
  simp only [evS] at q
  cases e : τ[i]? with
  | none => rw [e] at q; exact q.elim
  | some ox =>
    rw [e] at q
    cases ox with
    | none => exact q.elim
    | some x =>
      dsimp only at q
      obtain ⟨xv, hx, rx⟩ := rs.2 i x e
      refine ⟨xv, hx, ι, S, τ, rl, rs, ?_⟩
      cases e1 : evE Γ p τ S with
      | bad => rw [e1] at q; exact q
      | exc c S1 => rw [e1] at q; exact fun ι1 H1 st r1 C hC => q ι1 H1 σ st r1 (rs.step rl st) C hC
      | ok y S1 =>
        rw [e1] at q
        dsimp only [Rs.thn] at q
        rw [hf] at q
        intro ι1 H1 yv st r1 ry
        split at q
        · rename_i a b
          have e2 : xv = .int a := by simpa only [RV] using rx
          have e3 : yv = .int b := by simpa only [RVS, RV] using ry
          exact ⟨a, b, e2, e3, q ι1 H1 _ st r1 ((rs.step rl st).set i (by simp only [RV]))⟩
        · exact q.elim
end
theorem lc_hot {g : GI} {c : CC} {n : Nat} {elt tg iter : Expr} {ifs : List Expr} {scope : Scope} {pos : Pos} {p : PX} (h : cpE g n c (.ListComp elt [⟨tg, iter, ifs, 0⟩] scope pos) = some p) : c.hot = false := by
  cases n with
  | zero => simp [cpE] at h
  | succ n =>
    simp only [cpE] at h
    split at h
    · rename_i hb
      simp only [Bool.and_eq_true, Bool.not_eq_true'] at hb
      exact hb.2
    · cases h
/-- x.f = v by a property's setter -/
theorem setpropG {X : Cx} {W : WX} {k : Nat} {sp : Sp} {pins : List (Addr × Obj)} {σ : L2.St} {H : Hp} {s : Shared} {Q : L2.St → Hp → Prop} {QU : Unit → Shared → Prop} {a C dx p g : Addr} {fs : List (Str × V)} {f : Str} {y : V} {u : Value} (I : Inv X pins σ H s) (ea : H a = some (.ins C dx fs)) (c : Cls X.K C) (hp : PSet X.K C f p g)
    (F : FnG X.prog X.w X.K X.mg X.base k g sp) (hr : Room (2 * k + 2) X.A) (hgd : X.A.guards = some []) (tk : Takes X W) (ry : RelV y u) (h : sp [.ref a, y] H (fun _ H' => Q σ H') (WE W σ)) (hQ : ∀ H' s', Inv X pins σ H' s' → Q σ H' → QU () s') :
    wpAny (model X.prog X.w) X.A (setAttr (.ref a) f u) QU X.xe s := by
  obtain ⟨mA, O, _, _, _, _⟩ := ins_get I.hok ea
  obtain ⟨od, J, _⟩ := O.look
  obtain ⟨a0, rest, hrec⟩ := hp.rec_
  have I1 := I.tok (s.toks + 1)
  have hr2 : Room (2 * k + 1) X.A.in1.in1 := ⟨hr.hd, by have := hr.dp; show X.A.depth + 3 * (2 * k + 1) + 5 < _; omega, by have := hr.un; show X.A.units + 1 + 1 + 16 * (2 * k + 1) + 200 < _; omega⟩
  refine PySem.W.set_plain I.kIn J c.sa (PySem.W.osa_descr (s := { s with toks := s.toks + 1 }) PySem.W.KF.slot_pset I1.kIn J c.po hp.taker hp.typ (PySem.W.prop_set (s := { s with toks := s.toks + 1 }) I1.kIn hrec ?_))
  refine codeAny_mono (F.run X.A.in1.in1 X.stack { s with toks := s.toks + 1 } H [.ref a, u] [.ref a, y] _ (WE W σ) hr2 hgd I1.env0.in1.in1 (.cons rfl (.cons ry .nil)) h) fun r s' hq => ?_
  match r, hq with
  | .error er, hq => exact passAt tk σ pins H _ er s' I1 hq
  | .ok (.ret w), hq =>
    obtain ⟨v, H', I3, rv, q3⟩ := I1.after hq
    exact hQ H' s' I3 q3
def sFldG (X : Cx) (k : Nat) (W : WX) (ta tv : TE) (f : Str) : TS := fun D σ H => tv σ H fun y H1 => ta σ H1 fun x H2 => (∃ a C dx fs, x = .ref a ∧ H2 a = some (.ins C dx fs) ∧ Cls X.K C ∧ NoAttr X.K C f ∧ fs.length < 1000 ∧ D.nx σ (upd H2 a (.ins C dx (putF f y fs)))) ∨
  (∃ a C dx fs p g sp, x = .ref a ∧ H2 a = some (.ins C dx fs) ∧ Cls X.K C ∧ PSet X.K C f p g ∧ FnG X.prog X.w X.K X.mg X.base k g sp ∧ sp [x, y] H2 (fun _ H' => D.nx σ H') (WE W σ))
theorem ps_fldG {X : Cx} {W : WX} {k : Nat} {o value : Expr} {ta tv : TE} {f : Str} {pos pos' : Pos} (ha : PE X o ta) (hv : PE X value tv) (hr : Room (2 * k + 2) X.A) (hgd : X.A.guards = some []) (tk : Takes X W) (hs : swapsWith value (some (.Attribute o f pos')) pos.line X.env = pure false) : PS X (.Assign [.Attribute o f pos'] value pos) (sFldG X k W ta tv f) := by
  refine ⟨fun pins s σ H D I h => ?_⟩
  refine plainObj_wpAny_Assign_Attribute (thn (hv.run pins s σ H _ I h) fun u s1 ⟨y, H1, I1, ry, q⟩ => thn (ha.run pins s1 σ H1 _ I1 q) fun ov s2 ⟨x, H2, I2, rx, q2⟩ => ?_) hs
  rcases q2 with ⟨a, C, dx, fs, ex, ea, c, n, l, q2⟩ | ⟨a, C, dx, fs, p, g, sp, ex, ea, c, hp, F, q2⟩
  · subst ex
    obtain rfl : ov = Value.ref a := rx
    exact setattr_ok I2 ea c n l ry fun s3 I3 => ⟨σ, _, I3, q2⟩
  · subst ex
    obtain rfl : ov = Value.ref a := rx
    exact setpropG (Q := D.nx) I2 ea c hp F hr hgd tk ry q2 fun H' s' I3 q3 => ⟨σ, _, I3, q3⟩
/-- the field of an instance is stored -/
theorem fld_put {g : GI} {cm : Cm} {Γ : Gam} {X : Cx} {W : WX} {k : Nat} (D0 : Wd g X.prog X.w X.K X.mg X.base cm Γ k) {f : Str} (hf : f ∈ g.atts) {D : Ends} {σ : L2.St} {ι : Nat → Addr} {S : Sto} {τ : Sl} {H : Hp} {a b : IV} {x y : V} (rl : Rel X.K cm ι S H) (rs : RSl X.K ι S.length H τ σ) (ra : RV X.K ι S.length H a x) (rb : RV X.K ι S.length H b y)
    (o : OutS X.K cm W ι S H (fldN Γ f b a τ S) D) : (∃ p C dx fs, x = .ref p ∧ H p = some (.ins C dx fs) ∧ Cls X.K C ∧ NoAttr X.K C f ∧ fs.length < 1000 ∧ D.nx σ (upd H p (.ins C dx (putF f y fs)))) ∨
      (∃ a C dx fs p g sp, x = .ref a ∧ H a = some (.ins C dx fs) ∧ Cls X.K C ∧ PSet X.K C f p g ∧ FnG X.prog X.w X.K X.mg X.base k g sp ∧ sp [x, y] H (fun _ H' => D.nx σ H') (WE W σ)) := by
  unfold fldN at o
  cases a with
  | ref n =>
    simp only [RV] at ra
    obtain ⟨hn, rfl⟩ := ra
    simp only [] at o
    cases e : S[n]? with
    | none => rw [e] at o; exact o.elim
    | some cl =>
      rw [e] at o
      cases cl with
      | ins c fs =>
        obtain ⟨C, dx, ps, h1, h2, h3, h4⟩ := rl.cell n _ e
        have ck := D0.at h2
        have at_ := ck.at_ f hf
        simp only [] at o
        cases ea : Γ.att c f with
        | some at1 =>
          rw [ea] at o at_
          split at o
          · rename_i z1; cases z1
          · rename_i gq q z1
            cases z1
            obtain ⟨p, a1, ha1, hp1, hs1⟩ := at_
            obtain ⟨g1, hg1, hps⟩ := hs1 q rfl
            refine .inr ⟨_, C, dx, ps, p, g1, _, rfl, h1, ck.cl, hps, D0.meth q g1 hg1, ι, S, [.ref n, b], rl, .cons (by simp only [RV]; exact ⟨hn, trivial⟩) (.cons rb .nil), ?_⟩
            cases eq : Γ.call q [.ref n, b] S with
            | bad => rw [eq] at o; exact o
            | exc cc S1 => rw [eq] at o; exact fun ι1 H1 st r1 C1 hC => o ι1 H1 σ st r1 (rs.step rl st) C1 hC
            | ok v S1 => rw [eq] at o; exact fun ι1 H1 v1 st r1 _ => o ι1 H1 σ st r1 (rs.step rl st)
          · exact o.elim
        | none =>
          rw [ea] at o at_
          simp only [] at o
          split at o
          · rename_i hl
            have hlen : ps.length = fs.length := by
              have := congrArg List.length h3
              simpa using this
            refine .inl ⟨_, C, dx, ps, rfl, h1, ck.cl, at_, by omega, ?_⟩
            have ht : ∀ a us, SqN X.K H a us → SqN X.K (upd H (ι n) (.ins C dx (putF f y ps))) a us := fun _ _ hq => hq.upd_at fun _ _ z => by rw [h1] at z; cases z
            obtain ⟨r4, st4⟩ := rl.put hn (o := .ins C dx (putF f y ps)) (c := .ins c (putI f b fs)) ⟨C, dx, _, upd_same, h2, putI_keys f b y h3, (putI_vals rb h3 h4).map ht (fun _ _ => rfl) (Nat.le_refl _)⟩
            exact o ι _ σ st4 r4 (rs.step rl st4)
          · exact o.elim
      | lst xs => exact o.elim
      | frz xs => exact o.elim
      | dct xs => exact o.elim
      | dtt xs => exact o.elim
  | non => exact o.elim
  | bl b => exact o.elim
  | int b => exact o.elim
  | str b => exact o.elim
  | tup b => exact o.elim
  | cls b => exact o.elim
theorem fld_st {g : GI} {cm : Cm} {Γ : Gam} {sub : Str → Str → Bool} {X : Cx} {W : WX} {k : Nat} (D0 : Wd g X.prog X.w X.K X.mg X.base cm Γ k) {f : Str} (hf : f ∈ g.atts) {p q : PX} {D : Ends} {σ : L2.St} {H : Hp} (h : tIS X.K cm W (evS Γ sub (.fld p f q)) D σ H) : sFldG X k W (tI X.K cm W (evE Γ p)) (tI X.K cm W (evE Γ q)) f D σ H := by
  refine tIS.bind (RA := RVS X.K) (f := fun τ v S1 => (evE Γ p τ S1).thn τ fun x S2 => fldN Γ f v x τ S2) (tIS.same h fun τ S => by simp only [evS]) fun ι1 S1 H1 τ b y r1 rs ra o => ?_
  refine ⟨ι1, S1, τ, r1, rs, ?_⟩
  cases e1 : evE Γ p τ S1 with
  | bad => rw [e1] at o; exact o
  | exc c S2 => rw [e1] at o; exact fun ι2 H2 st r2 C hC => o ι2 H2 σ st r2 (rs.step r1 st) C hC
  | ok x S2 =>
    rw [e1] at o
    intro ι2 H2 xv st2 r2 rx
    have o2 := OutS.shift o r2 st2
    dsimp only [Rs.thn] at o2
    exact fld_put D0 hf r2 (rs.step r1 st2) rx (RV.step ra r1 st2) o2
theorem fldaug_st {g : GI} {cm : Cm} {Γ : Gam} {sub : Str → Str → Bool} {X : Cx} {W : WX} {k : Nat} (D0 : Wd g X.prog X.w X.K X.mg X.base cm Γ k) {f : Str} (hf : f ∈ g.atts) {p q : PX} {D : Ends} {σ : L2.St} {H : Hp} (h : tIS X.K cm W (evS Γ sub (.fldaug p f .add q)) D σ H) : sFldAug X.K (tI X.K cm W (evE Γ p)) (tI X.K cm W (evE Γ q)) rAdd f D σ H := by
  refine tIS.bind (RA := RVS X.K) (f := fun τ x S1 => match fldV Γ f x S1 with
    | some u => (evE Γ q τ S1).thn τ fun y S2 => match augI .add u y with
      | some z => if clsOf x S1 = clsOf x S2 then fldN Γ f z x τ S2 else .bad
      | none => .bad
    | none => .bad) (tIS.same h fun τ S => rfl) fun ι1 S1 H1 τ a x r1 rs ra o => ?_
  cases ev : fldV Γ f a S1 with
  | none => rw [ev] at o; exact o.elim
  | some u =>
    rw [ev] at o
    simp only [] at o
    unfold fldV at ev
    cases a with
    | ref n =>
      have ra' : RV X.K ι1 S1.length H1 (.ref n) x := ra
      simp only [RV] at ra'
      obtain ⟨hn, rfl⟩ := ra'
      simp only [] at ev
      cases e : S1[n]? with
      | none => rw [e] at ev; cases ev
      | some cl =>
        rw [e] at ev
        cases cl with
        | ins c fs =>
          obtain ⟨C, dx, ps, h1, h2, h3, h4⟩ := r1.cell n _ e
          have ck := D0.at h2
          have at_ := ck.at_ f hf
          simp only [] at ev
          cases ea : Γ.att c f with
          | some at1 => rw [ea] at ev; cases ev
          | none =>
            rw [ea] at ev at_
            simp only [] at ev
            obtain ⟨l1, l2⟩ := fs_look (f := f) h3 h4
            obtain ⟨v, hv, rv⟩ := l2 u ev
            refine ⟨ι1 n, C, dx, ps, v, rfl, h1, ck.cl, at_, hv, ι1, S1, τ, r1, rs, ?_⟩
            cases e2 : evE Γ q τ S1 with
            | bad => rw [e2] at o; exact o
            | exc c S2 => rw [e2] at o; exact fun ι2 H2 st r2 C hC => o ι2 H2 σ st r2 (rs.step r1 st) C hC
            | ok y S2 =>
              rw [e2] at o
              intro ι2 H2 yv st2 r2 ry
              have o2 := OutS.shift o r2 st2
              dsimp only [Rs.thn] at o2
              cases ez : augI .add u y with
              | none => rw [ez] at o2; exact o2.elim
              | some z =>
                rw [ez] at o2
                simp only [] at o2
                split at o2
                case isFalse => exact o2.elim
                rename_i hcls
                have hc2 : ∃ fs2, S2[n]? = some (.ins c fs2) := by
                  simp only [clsOf, e] at hcls
                  split at hcls
                  · rename_i c2 fs2 hs2
                    cases hcls
                    exact ⟨fs2, hs2⟩
                  · cases hcls
                obtain ⟨fs2, hS2⟩ := hc2
                have rv2 := RV.step rv r1 st2
                unfold augI at ez
                split at ez
                · rename_i i j _
                  cases ez
                  have e3 : v = .int i := by simpa only [RV] using rv2
                  have e4 : yv = .int j := by simpa only [RVS, RV] using ry
                  have C2e : ∀ {C2 dx2 ps2}, H2 (ι1 n) = some (.ins C2 dx2 ps2) → C2 = C := fun {C2 dx2 ps2} hh => by
                    obtain ⟨C3, dx3, ps3, b1, b2, _⟩ := r2.cell n _ hS2
                    rw [h2] at b2; cases b2
                    rw [st2.ext n hn, hh] at b1; cases b1; rfl
                  rcases fld_put D0 hf (y := .int (i + j)) r2 (rs.step r1 st2) (RV.step ra r1 st2) (by simp only [RV]) o2 with ⟨p', C', dx', fs', hx, a1, a2, a3, a4, a5⟩ | ⟨p', C', dx', fs', pp, gg, sp', hx, a1, a2, a3, _⟩
                  rotate_left
                  · cases hx
                    have := C2e a1
                    subst this
                    have z1 := a3.taker
                    rw [at_.taker] at z1
                    cases z1
                  cases hx
                  have : C' = C := by
                    obtain ⟨C2, dx2, ps2, b1, b2, _⟩ := r2.cell n _ hS2
                    rw [h2] at b2; cases b2
                    rw [st2.ext n hn, a1] at b1; cases b1; rfl
                  subst this
                  exact ⟨i, j, e3, e4, dx', fs', a1, a4, a5⟩
                · rename_i z1; cases z1
                · cases ez
        | lst xs => cases ev
        | frz xs => cases ev
        | dct xs => cases ev
        | dtt xs => cases ev
    | non => cases ev
    | bl b => cases ev
    | int b => cases ev
    | str b => cases ev
    | tup b => cases ev
    | cls b => cases ev
set_option maxHeartbeats 1000000 in
theorem sound_S (g : GI) (cm : Cm) (Γ : Gam) (sub : Str → Str → Bool) : ∀ (n : Nat) (c : CC) (X : Cx) (W : WX) (k : Nat) (st : Stmt) (p : Sm), CxS g c cm Γ sub X W k → cpS g n c st = some p → PS X st (tIS X.K cm W (evS Γ sub p)) := by
  intro n
  induction n with
  | zero => intro c X W k st p _ h; simp [cpS] at h
  | succ n IH =>
    intro c X W k st p C h
    have ihE : ∀ e p, cpE g n c e = some p → PE X e (tI X.K cm W (evE Γ p)) := fun e p h => (sound_E g cm Γ n c X W k e p C.e h).1
    have ihT : ∀ e p, cpE g n c e = some p → noIf e = true → PT X e (tT X.K cm W (evE Γ p)) := fun e p h => (sound_E g cm Γ n c X W k e p C.e h).2
    have ihS : ∀ st p, cpS g n c st = some p → PS X st (tIS X.K cm W (evS Γ sub p)) := fun st p h => IH c X W k st p C h
    simp only [cpS] at h
    split at h
    · rename_i e pos
      split at h
      · rename_i hc
        cases e1 : cpE g n c e with
        | none => rw [e1] at h; cases h
        | some q =>
          rw [e1] at h; cases h
          refine PS.weak (ps_expr (ihE e q e1) (swaps_no hc)) fun D σ H z => ?_
          exact tIS.bind (RA := RVS X.K) (f := fun τ _ S1 => .next τ S1) (tIS.same z fun τ S => by simp only [evS]) fun ι1 S1 H1 τ a v r1 rs ra o => o ι1 H1 σ Step.refl r1 rs
      · cases h
    · rename_i e pos
      cases e1 : cpE g n c e with
      | none => rw [e1] at h; cases h
      | some q =>
        rw [e1] at h; cases h
        refine PS.weak (ps_ret (ihE e q e1)) fun D σ H z => ?_
        exact tIS.bind (RA := RVS X.K) (f := fun τ v S1 => .ret v S1) (tIS.same z fun τ S => by simp only [evS]) fun ι1 S1 H1 τ a v r1 rs ra o => o ι1 H1 v Step.refl r1 ra
    · cases h
      refine PS.weak ps_retN fun D σ H z => ?_
      obtain ⟨ι, S, τ, rl, rs, o⟩ := z
      simp only [evS] at o
      exact o ι H .non Step.refl rl (by simp only [RV])
    · cases h
      exact PS.weak ps_pass fun D σ H z => next_st (tIS.same z fun τ S => by simp only [evS])
    · cases h
      refine PS.weak ps_break fun D σ H z => ?_
      obtain ⟨ι, S, τ, rl, rs, o⟩ := z
      simp only [evS] at o
      exact o ι H σ Step.refl rl rs
    · cases h
      refine PS.weak ps_continue fun D σ H z => ?_
      obtain ⟨ι, S, τ, rl, rs, o⟩ := z
      simp only [evS] at o
      exact o ι H σ Step.refl rl rs
    · -- x = e
      rename_i x px e pos
      split at h
      · rename_i hc
        split at h
        · rename_i i q e1 e2
          cases h
          obtain ⟨h1, h2⟩ := cpTn_ok e1
          obtain ⟨h3, h4⟩ := C.pg.loc x h2
          refine PS.weak (ps_set (by exact C.e.nd) (by rw [C.e.N]; exact ixOf_get h1) h3 (ihE e q e2) (swaps_no hc) h4) fun D σ H z => ?_
          have := set_st (tg := .nm i) (fun Q q => q) z
          simpa only [gTg] using this
        · cases h
      · split at h
        · rename_i elt tg iter ifs scope lpos hnc
          split at h
          · rename_i hs
            split at h
            · rename_i i q e1 e2
              cases h
              simp only [swC, Bool.and_eq_true, Bool.not_eq_true'] at hs
              obtain ⟨⟨⟨s1, s2⟩, s3⟩, s4⟩ := hs
              obtain ⟨h1, h2⟩ := cpTn_ok e1
              obtain ⟨t, it, fs, p1, rfl, f1, f0, f2, f3, f4, f5, f6, f7⟩ := lc_prem C.e e2
              have hl : X.env.scope.names.lookup x = some .local := by rw [C.e.sc]; exact locK_ok s2
              refine PS.weak (ps_setLc (own := ownOf c.N scope) (C.e.calm (lc_hot e2)) C.e.nd (by rw [C.e.N]; exact ixOf_get h1) hl (sw_true (by rw [C.e.sc]; exact isFn_ok s1) hl s3 s4) f2 f3 f5 f6 f7 (fold_no f1)) fun D σ H z => ?_
              have := set_st (tg := .nm i) (fun Q q => tLc_of f0 f4 q) z
              simpa only [gTg] using this
            · cases h
          · split at h
            · cases h
            rename_i hlk
            split at h
            · rename_i i q e1 e2
              cases h
              obtain ⟨h1, h2⟩ := cpTn_ok e1
              obtain ⟨h3, h4⟩ := C.pg.loc x h2
              refine PS.weak (ps_set (by exact C.e.nd) (by rw [C.e.N]; exact ixOf_get h1) h3 (ihE _ q e2) (swaps_cell C.e.sc (by simpa using hlk)) h4) fun D σ H z => ?_
              have := set_st (tg := .nm i) (fun Q q => q) z
              simpa only [gTg] using this
            · cases h
        · cases h
    · -- x, y = a, b
      rename_i x px y py kt pt a b k2 p2 pos
      split at h
      · rename_i hp
        split at h
        · rename_i i j p1 q1 e1 e2 e3 e4
          cases h
          have hp' := hp
          simp only [parC, Bool.and_eq_true, Bool.not_eq_true', decide_eq_false_iff_not] at hp'
          obtain ⟨⟨⟨⟨⟨⟨⟨⟨⟨h1, h2⟩, h3⟩, h4⟩, h5⟩, h6⟩, h7⟩, h8⟩, h9⟩, hot'⟩ := hp'
          obtain ⟨i1, _⟩ := cpTn_ok e1
          obtain ⟨j1, _⟩ := cpTn_ok e2
          have hij : i ≠ j := fun z => by
            subst z
            have a1 := ixOf_get i1
            have a2 := ixOf_get j1
            rw [a1] at a2; cases a2
            exact h5 rfl
          exact PS.weak (ps_par (C.e.calm hot') C.e.nd (by rw [C.e.N]; exact ixOf_get i1) (by rw [C.e.N]; exact ixOf_get j1) hij (by rw [C.e.sc]; exact locK_ok h2) (by rw [C.e.sc]; exact locK_ok h3)
            (sound_A C.e ihE [a, b] [p1, q1] (by simp only [optAll, e3, e4])) (par_ok C.e.sc hp)) fun D σ H z => par_st z
        · cases h
      · split at h
        · rename_i hq
          simp only [Bool.and_eq_true, Bool.not_eq_true'] at hq
          split at h
          · rename_i i j p1 q1 e1 e2 e3 e4
            cases h
            have hA := sound_A C.e ihE [a, b] [p1, q1] (by simp only [optAll, e3, e4])
            have hT : PG X (.Tuple [.Name x px, .Name y py] kt pt) (gTg X.K (.tp [.nm i, .nm j])) := sound_T C.pg 2 _ _ (by simp only [cpT, optAll, e1, e2, Option.map_some, hq.2, Bool.false_eq_true, if_false])
            exact PS.weak (ps_asg (PE.weak (pe_tupN hA) fun σ H Q q => tTup_st q) hT (sole_no rfl) (cell_ok C.e.sc (by rw [hq.1]; rfl)) rfl) fun D σ H z => set_st (fun Q q => q) z
          · cases h
        · cases h
    · -- x, y, z = a, b, d
      rename_i x px y py z pz kt pt a b d k2 p2 pos
      split at h
      · rename_i hp
        split at h
        · rename_i i j l p1 q1 r1 e1 e2 e3 e4 e5 e6
          cases h
          have hp' := hp
          simp only [par3C, Bool.and_eq_true, Bool.not_eq_true', decide_eq_false_iff_not] at hp'
          obtain ⟨⟨⟨⟨⟨⟨⟨⟨⟨⟨⟨⟨⟨⟨h1, h2⟩, h3⟩, h3'⟩, h4⟩, h4'⟩, h5⟩, h5'⟩, h5''⟩, h6⟩, h7⟩, h7'⟩, h8⟩, h9⟩, hot'⟩ := hp'
          obtain ⟨i1, _⟩ := cpTn_ok e1
          obtain ⟨j1, _⟩ := cpTn_ok e2
          obtain ⟨l1, _⟩ := cpTn_ok e3
          have ne : ∀ {u w : Str} {m m' : Nat}, ixOf c.N u = some m → ixOf c.N w = some m' → u ≠ w → m ≠ m' := fun {u w m m'} a1 a2 hu z => by
            subst z
            have b1 := ixOf_get a1
            have b2 := ixOf_get a2
            rw [b1] at b2; cases b2
            exact hu rfl
          exact PS.weak (ps_par3 (C.e.calm hot') C.e.nd (by rw [C.e.N]; exact ixOf_get i1) (by rw [C.e.N]; exact ixOf_get j1) (by rw [C.e.N]; exact ixOf_get l1) (ne i1 j1 h5) (ne i1 l1 h5') (ne j1 l1 h5'') (by rw [C.e.sc]; exact locK_ok h2) (by rw [C.e.sc]; exact locK_ok h3) (by rw [C.e.sc]; exact locK_ok h3')
            (sound_A C.e ihE [a, b, d] [p1, q1, r1] (by simp only [optAll, e4, e5, e6])) (par3_ok C.e.sc hp)) fun D σ H z => par3_st z
        · cases h
      · cases h
    · -- o[i], x = a, b
      rename_i o i sp x px kt pt a b k2 p2 pos
      split at h
      · cases h
      rename_i hot
      have hot' : c.hot = false := by simpa using hot
      split at h
      · rename_i p1 q1 j r1 e1 e2 e3 e4
        cases h
        obtain ⟨h1, h2⟩ := cpTn_ok e3
        obtain ⟨h3, h4⟩ := C.pg.loc x h2
        have ha : ∀ v, assign (.Subscript o i sp) X.env v = (do
            let ov ← holding [v] (eval o X.env)
            let iv ← holding [v, ov] (eval i X.env)
            standAt sp
            holding [v, ov, iv] (setItem ov iv v)
            release [v, ov, iv] []) := by
          intro v
          cases i <;> first | rfl | (cases n <;> simp [cpE] at e2)
        have hS : PG X (.Subscript o i sp) (gSub (tI X.K cm W (evE Γ p1)) (tI X.K cm W (evE Γ q1)) (rSetB X.K)) := pg_sub (ihE o p1 e1) (ihE i q1 e2) (set_anyB (by have := C.e.units; omega)) ha
        have hN : PG X (.Name x px) (gName j) := pg_name C.pg.nd (by rw [C.pg.N]; exact ixOf_get h1) h3 h4
        exact PS.weak (ps_asg (ihE _ r1 e4) (pg_tup (C.e.calm hot') (pgs_cons hS (pgs_cons hN pgs_nil))) (sole_no rfl) mix_ok rfl) fun D σ H z => subs_st z
      · cases h
    · -- (..) = e
      rename_i ts kk pp e pos hne hne3 hne4
      split at h
      · rename_i hc
        rw [Bool.and_eq_true] at hc
        split at h
        · rename_i t q e1 e2
          cases h
          exact PS.weak (ps_asg (ihE e q e2) (sound_T C.pg n _ t e1) (sole_no hc.1) (stores_no hc.2) rfl) fun D σ H z => set_st (fun Q q => q) z
        · cases h
      · cases h
    · -- o[i] = e
      rename_i o i sp e pos
      split at h
      · rename_i hc
        split at h
        · rename_i p1 q1 r1 e1 e2 e3
          cases h
          refine PS.weak (ps_asg (ihE e r1 e3) (pg_sub (ihE o p1 e1) (ihE i q1 e2) (set_anyB (by have := C.e.units; omega)) ?_) (sole_no hc) ?_ rfl) fun D σ H z => sub_st z
          · intro v
            cases i <;> first | rfl | (cases n <;> simp [cpE] at e2)
          · cases e <;> rfl
        · cases h
      · cases h
    · -- o.f = e
      rename_i o f ap e pos
      split at h
      · rename_i hc
        simp only [Bool.and_eq_true, decide_eq_true_eq, Bool.not_eq_true'] at hc
        split at h
        · rename_i p1 q1 e1 e2
          cases h
          exact PS.weak (ps_fldG (k := k) (W := W) (ihE o p1 e1) (ihE e q1 e2) (C.e.room hc.2) C.e.grd C.e.tk (swaps_no hc.1.1)) fun D σ H z => fld_st C.e.wd hc.1.2 z
        · cases h
      · cases h
    · rename_i o f ap op e pos
      split at h
      · rename_i hc
        simp only [decide_eq_true_eq] at hc
        split at h
        · rename_i p1 q1 e1 e2 e3
          cases h
          have := opOf_ok e2
          subst this
          exact PS.weak (ps_fldaug (ihE o p1 e1) (ihE e q1 e3) in_add) fun D σ H z => fldaug_st C.e.wd hc z
        · cases h
      · cases h
    · rename_i x px op e pos
      split at h
      · rename_i i q e1 e2 e3
        cases h
        have := opOf_ok e2
        subst this
        obtain ⟨h1, h2⟩ := cpTn_ok e1
        obtain ⟨h3, h4⟩ := C.pg.loc x h2
        exact PS.weak (ps_aug C.e.nd (by rw [C.e.N]; exact ixOf_get h1) h3 (ihE e q e3) ip_add h4) fun D σ H z => aug_st (fun x y τ S1 => by cases x <;> cases y <;> rfl) z
      · rename_i i q e1 e2 e3
        cases h
        have := opOf_ok e2
        subst this
        obtain ⟨h1, h2⟩ := cpTn_ok e1
        obtain ⟨h3, h4⟩ := C.pg.loc x h2
        exact PS.weak (ps_aug C.e.nd (by rw [C.e.N]; exact ixOf_get h1) h3 (ihE e q e3) ip_sub h4) fun D σ H z => aug_st (fun x y τ S1 => by cases x <;> cases y <;> rfl) z
      · cases h
    · rename_i t a b pos
      split at h
      · rename_i hn
        split at h
        · rename_i p1 q1 r1 e1 e2 e3
          cases h
          refine PS.weak (ps_if (ihT t p1 e1 hn) (sound_Ss ihS a q1 e2) (sound_Ss ihS b r1 e3)) fun D σ H z => ?_
          refine tIS.test (f := fun τ b S1 => if b then evSs Γ sub q1 τ S1 else evSs Γ sub r1 τ S1) (D := D) (tIS.same z fun τ S => ?_) fun ι1 S1 H1 τ b r rs o => ?_
          · simp only [evS]
            cases evE Γ p1 τ S with
            | bad => rfl
            | exc c S1 => rfl
            | ok v S1 => cases v with
              | bl b => cases b <;> rfl
              | non => rfl
              | int b => rfl
              | str b => rfl
              | tup b => rfl
              | ref b => rfl
              | cls b => rfl
          · cases b with
            | true => simp only [if_true] at o ⊢; exact ⟨ι1, S1, τ, r, rs, o⟩
            | false => simp only [Bool.false_eq_true, if_false] at o ⊢; exact ⟨ι1, S1, τ, r, rs, o⟩
        · exact rpl_ok ihE h
      · cases h
    · rename_i t b pos
      split at h
      · rename_i hn
        simp only [Bool.and_eq_true, Bool.not_eq_true'] at hn
        split at h
        · rename_i p1 q1 e1 e2
          cases h
          exact PS.weak (ps_while C.own (ihT t p1 e1 hn.1) (sound_Ss ihS b q1 e2)) fun D σ H z => while_st (tIS.same z fun τ S => by simp only [evS])
        · cases h
      · cases h
    · rename_i tg it b pos
      split at h
      · rename_i hn
        simp only [Bool.and_eq_true, Bool.not_eq_true'] at hn
        split at h
        · rename_i t i q e1 e2 e3
          cases h
          exact PS.weak (ps_for C.own (C.e.calm hn.2) (sound_It C.e ihE e2) (sound_T C.pg n tg t e1) (sound_Ss ihS b q e3) (fold_no hn.1)) fun D σ H z => for_st (cpT_tp e1) (tIS.same z fun τ S => by simp only [evS])
        · cases h
      · cases h
    · -- raise X('..')
      rename_i x px ms jj p2 p3 pos
      split at h
      · rename_i hp
        simp only [Bool.and_eq_true, decide_eq_true_eq, Bool.not_eq_true'] at hp
        cases h
        obtain ⟨Cl, c1, c2, c3, c4, c5, c6⟩ := C.exc.made x hp.1.2
        refine PS.weak (ps_raise (C.e.calm hp.2) C.e.tk (pmk_own PySem.F.excBase_ValueError c3 c2 c4 (raises_own c5 c6) (C.e.gl hp.1.1.2) (plain_dbg hp.1.1.1).1)) fun D σ H z => ?_
        obtain ⟨ι, S, τ, rl, rs, o⟩ := z
        simp only [evS] at o
        exact o ι H σ Step.refl rl rs Cl c1
      · cases h
    · -- try, except .. as ..
      rename_i b x xp nm s0 su hp pos
      split at h
      · rename_i hx
        simp only [Bool.and_eq_true, decide_eq_true_eq, Bool.not_eq_true'] at hx
        split at h
        · rename_i q i l e1 e2 e3
          cases h
          exact sound_as C (fun W' pn xe tk hp => sound_Ss (fun st p h => IH c _ W' k st p (C.tr tk hp) h) b q e1) hx.1.1.1.1.2 hx.1.1.1.2 hx.1.1.2 hx.1.2 hx.2 e2 e3
        · cases h
      · cases h
    · -- try
      rename_i b hd hs pos _
      split at h
      · cases h
      split at h
      · rename_i q l e1 e2
        cases h
        obtain ⟨L, hL, go⟩ := sound_H C (f := cpS g n ⟨c.N, c.sc, true⟩) (fun a pn ss u hu => sound_Ss (fun st p h => IH _ _ W0 k st p (C.suite a pn) h) ss u hu) (hd :: hs) l e2
        refine PS.weak (ps_try_many (tb := fun W => tIS X.K cm W (evSs Γ sub q)) C.stk C.frm C.e.tk (fun W' pn xe tk hp => sound_Ss (fun st p h => IH c _ W' k st p (C.tr tk hp) h) b q e1) hL) fun D σ H z => ?_
        obtain ⟨ι, S, τ, rl, rs, o⟩ := z
        refine ⟨ι, S, τ, rl, rs, ?_⟩
        simp only [evS] at o
        cases e3 : evSs Γ sub q τ S with
        | exc cn τ1 S1 =>
          rw [e3] at o
          exact fun ι1 H1 σ1 st r1 rs1 Cn hC => go D cn Cn τ1 S1 ι1 H1 σ1 hC r1 rs1 (OutS.shift o r1 st)
        | next τ1 S1 => rw [e3] at o; exact o
        | ret v S1 => rw [e3] at o; exact o
        | brk τ1 S1 => rw [e3] at o; exact o
        | cnt τ1 S1 => rw [e3] at o; exact o
        | bad => rw [e3] at o; exact o
      · rename_i q e1 e2
        cases h
        refine PS.weak (ps_try_thru0 (sound_Ss (X := X.nox) (fun st p h => IH c _ W0 k st p C.nox h) b q e1)) fun D σ H z => ?_
        obtain ⟨ι, S, τ, rl, rs, o⟩ := z
        refine ⟨ι, S, τ, rl, rs, ?_⟩
        simp only [evS] at o
        exact OutS.quiet o
      · cases h
    · cases h
end Wg
/-! WiN: super().m(..), a statement or assigned to a name. -/
namespace Wg
open PySem PySem.Spec PyProof.Rows L2 StX ClX
def supK (c : CC) : Bool := decide (c.sc.names.lookup ("super" : Str) = some .globalImplicit) && decide (c.sc.names.lookup ("__class__" : Str) = some .free)
def supC (x m : Str) (n : Nat) (line : Bool) : Bool := decide (x = "super") && (!(m == ("__class__" : Str)) && (decide (n < 20) && line))
/-- a statement of a def in the class D -/
def cpU (g : GI) (n : Nat) (c : CC) (D : Str) (st : Stmt) : Option Sm := match st with
  | .Expr (.Call (.Attribute (.Call (.Name x _) [] [] _) m apos) (a :: as) [] pos) _ =>
    if supC x m (a :: as).length (apos.endLine == pos.line) && supK c then (optAll (cpE g n c) (a :: as)).map (.sup none D m) else cpS g n c st
  | .Assign [.Name y _] (.Call (.Attribute (.Call (.Name x _) [] [] _) m apos) (a :: as) [] pos) _ =>
    if supC x m (a :: as).length (apos.endLine == pos.line) && supK c then (match cpTn c y, optAll (cpE g n c) (a :: as) with
      | some i, some ps => some (.sup (some i) D m ps)
      | _, _ => none) else cpS g n c st
  | st => cpS g n c st
/-! ### the base -/
/-- what a def of the class D, with its cell, stands in -/
structure SupX (X : Cx) (cm : Cm) (sup : Str → Str → Str → Option Str) (D : Str) : Prop where
  fd : ∃ (f : Addr) (oc : Value) (od : Option Addr) (fd : FuncData) (osl : Array (Option Value)) (ar : Arg), X.env.func = some f ∧ X.K.lookup f = some ⟨oc, od, .func fd, osl⟩ ∧ (fd.params.posonlyargs ++ fd.params.args).head? = some ar ∧ X.N[0]? = some ar.arg ∧ (X.env.scope.names.lookup ar.arg = some .local ∨ X.env.scope.names.lookup ar.arg = some .cell)
  code : ∃ (cd : Addr) (oc : Value) (od : Option Addr) (vs : Array Value) (osl : Array (Option Value)) (file : Str) (tf : Tok), X.env.code = .ref cd ∧ X.K.lookup cd = some ⟨oc, od, .fields vs, osl⟩ ∧ vs[2]? = some (.str file tf) ∧ ((X.prog.main.file : Str) == file) = true
  top : (X.prog.main.scope.names.lookup ("super" : Str)).isSome = false
  mgs : X.mg "super" = none
  any : PySem.W.nsIn X.K cStatics "thirdparty.any" = some none
  cell : ∃ (cc DA : Addr) (oc : Value) (od : Option Addr) (osl : Array (Option Value)) (cd : ClassData), X.env.cells.lookup ("__class__" : Str) = some cc ∧ X.K.lookup cc = some ⟨oc, od, .cell (some (.ref DA)), osl⟩ ∧ PySem.W.clsIn X.K DA = some cd ∧
    ∀ C m q CA, sup D C m = some q → cm.ins C = some CA → ∃ f, cm.fn q = some f ∧ PySem.W.ks_superIn X.K CA DA m = some (some (.ref f)) ∧ PySem.W.typeIn X.K (.ref f) = some (.type "function") ∧ PySem.W.fnIn X.K f = true ∧ PySem.W.mroIn X.K CA (.ref DA) = some true
section
variable {g : GI} {c : CC} {cm : Cm} {Γ : Gam} {X : Cx} {W : WX} {k n : Nat} {pins : List (Addr × Obj)} {σ : L2.St} {H : Hp} {s : Shared} {sup : Str → Str → Str → Option Str} {D m : Str} {p0 p1 apos pos : Pos} {e : Expr} {es : List Expr} {t : TA} {body : List Stmt} {x : Str}
theorem load_self {A : Around} {i : Nat} {x : Str} {v : V} {Q : Value → Shared → Prop} {E : Value → Shared → Prop} (I : Inv X pins σ H s) (hN : X.N[i]? = some x) (hx : X.env.scope.names.lookup x = some .local ∨ X.env.scope.names.lookup x = some .cell) (hv : σ[i]? = some (some v)) (h : ∀ u, RelV v u → Q u s) : wpAny (model X.prog X.w) A (loadName X.env x) Q E s := by
  obtain ⟨mm, hn, hl⟩ := I.loc
  obtain ⟨u, r, l⟩ := hl i x v hN hv (hx.elim .inl fun z => .inr (.inl z))
  rcases l with ⟨k, l⟩ | ⟨k, c, hc, hcl⟩
  · exact wpAny_loadName_local I.ok.kind k hn l (h u r)
  · rcases hx with hx | hx
    · have hx' : X.env.kindOf x = some .local := hx
      rw [hx'] at k
      rcases k with z | z <;> cases z
    · exact wpAny_loadName_cell I.ok.kind hx hc hcl (h u r)
/-- super() -/
theorem sup_base {whole : Sem Value} {Q : Value → Shared → Prop} {a C dx : Addr} {fs : List (Str × V)} {E : Value → Shared → Prop} (Z : SupX X cm sup D) (I : Inv X pins σ H s) (hks : X.env.scope.names.lookup ("super" : Str) = some .globalImplicit) (hkc : X.env.scope.names.lookup ("__class__" : Str) = some .free)
    (h0 : σ[0]? = some (some (.ref a))) (ea : H a = some (.ins C dx fs)) (hm : (m == ("__class__" : Str)) = false)
    (h : ∀ DA so h', (∃ cc oc od osl, X.env.cells.lookup ("__class__" : Str) = some cc ∧ X.K.lookup cc = some ⟨oc, od, .cell (some (.ref DA)), osl⟩) → (∀ b o, s.heap.get? b = some o → h'.get? b = some o) → h'.get? so = some (PySem.W.ks_superObj DA a C) → Q (.ref so) { s with heap := h' })
    (hsub : ∀ cc oc od osl DA, X.env.cells.lookup ("__class__" : Str) = some cc → X.K.lookup cc = some ⟨oc, od, .cell (some (.ref DA)), osl⟩ → PySem.W.mroIn X.K C (.ref DA) = some true) :
    _root_.PySem.wpAt (model X.prog X.w) X.A (.func body X.env) (attributeBase (.Call (.Name "super" p0) [] [] p1) m X.env whole) Q E s := by
  obtain ⟨f, foc, fod, fd, fosl, ar, hfu, hlf, hp, hN0, hka⟩ := Z.fd
  obtain ⟨cd, coc, cod, vs, cosl, file, tf, hco, hlc, hvs, hfile⟩ := Z.code
  obtain ⟨cc, DA, loc, lod, losl, cdD, hcl, hlcc, hD, _⟩ := Z.cell
  obtain ⟨mb, hb1, hb2⟩ := I.mod.blt
  have KX := I.kIn
  obtain ⟨mA, O, _, _, _, _⟩ := ins_get I.hok ea
  obtain ⟨od, J, _⟩ := O.look
  have hsb := hsub cc loc lod losl DA hcl hlcc
  obtain ⟨oD, hD1, hD2⟩ : ∃ oD, s.heap.get? DA = some oD ∧ oD.data = .cls cdD := by
    unfold PySem.W.clsIn at hD
    split at hD
    · rename_i c d cd' sl ho
      cases hD
      exact ⟨_, KX _ _ ho, rfl⟩
    · cases hD
  refine ks_wpAt_super_base hks hkc hm hfu (KX _ _ hlf) rfl hp hco (KX _ _ hlc) rfl hvs hfile Z.top ?_
  refine PySem.W.ks_loadName_global I.ok.kind hks (Calls.loadGlobal_builtin (by rw [I.ok.glob]; exact I.mod.glob.keeps I.bk) Z.mgs (by rw [I.ok.blt]; exact hb1.keeps I.bk) ((hb2 "super" (by decide)).trans (by decide +kernel)) ⟨rfl, ?_⟩)
  refine wpAny_loadName_free I.ok.kind hkc hcl ⟨_, KX _ _ hlcc, rfl⟩ ?_
  refine load_self I hN0 hka h0 fun u0 ru => ?_
  obtain rfl : u0 = Value.ref a := ru
  obtain ⟨hh, gg, d, tt, os⟩ := s
  refine ks_wpAny_isType_cls hD1 hD2 ⟨rfl, ?_⟩
  refine ks_wpAny_call_super hD1 hD2 J.at_ J.cls (fun c e => ?_) (PySem.W.looks_mroIn KX hsb) (fun h' e kp => ?_)
  · have := J.no
    unfold PySem.W.notCls at this
    rw [e] at this
    exact Bool.noConfusion this
  · exact h DA _ _ ⟨cc, loc, lod, losl, hcl, hlcc⟩ kp e
theorem methcall_at {M : Model} {A : Around} {cc : Code} {E : Value → Shared → Prop} {env : Env} {o : Expr} {args : List Expr} {Q : Value → Shared → Prop}
    (hfew : ((backTo pos (starEach args env)).all (fun x => !x.1) && (backToKw pos (keywordEach [] env)).all (fun x => x.1.isSome) && decide (args.length + ([] : List Keyword).length + (if ([] : List Keyword).isEmpty then 0 else 1) < 30)) = true)
    (hline : (apos.endLine == pos.line) = true)
    (h : _root_.PySem.wpAt M A cc (attributeBase o m env (eval o env)) (fun ov s₁ => wpAny M A (getMethod ov m (do return (← importBound o env).getD true)) (fun fx s₂ => wpAny M A (callWith pos fx.1 fx.2 (backTo pos (starEach args env)) []) Q E s₂) E s₁) E s) :
    _root_.PySem.wpAt M A cc (eval (.Call (.Attribute o m apos) args [] pos) env) Q E s := by
  rw [arm_eval_Call]
  refine _root_.PySem.wpAt_bind (ks_wpAt_mono h (fun ov s₁ h₁ => _root_.PySem.wpAt_of_wpAny ?_) fun _ _ e => e)
  refine wpAny_bind (wpAny_standAt ?_)
  have hform : methodCallForm (args.length + ([] : List Keyword).length) (backTo pos (starEach args env)) (backToKw pos (keywordEach [] env)) = true := hfew
  have hpos : methodCallPos true o env apos pos = pure pos := by unfold methodCallPos; simp [hline]
  unfold methodCall
  rw [hform]
  refine wpAny_bind (wpAny_holding (wpAny_mono h₁ (fun fx s₂ h₂ => ?_) fun _ _ e => e))
  exact wpAny_bind (wpAny_of_eq hpos h₂)
/-- super().m(e, ..) -/
theorem sup_call {Q : VK} {a C dx : Addr} {fs : List (Str × V)} {cn q : Str} {sp : Sp} (Z : SupX X cm sup D) (I : Inv X pins σ H s) (hr : Room (2 * k + 1) X.A) (hgd : X.A.guards = some []) (tk : Takes X W)
    (hks : X.env.scope.names.lookup ("super" : Str) = some .globalImplicit) (hkc : X.env.scope.names.lookup ("__class__" : Str) = some .free)
    (h0 : σ[0]? = some (some (.ref a))) (ea : H a = some (.ins C dx fs)) (hc : cm.ins cn = some C) (hs : sup D cn m = some q) (cl : Cls X.K C) (hm : (m == ("__class__" : Str)) = false)
    (F : ∀ f, cm.fn q = some f → FnG X.prog X.w X.K X.mg X.base k f sp) (ha : PA X (e :: es) t) (hst : starEach (e :: es) X.env = (false, eval e X.env) :: starEach es X.env) (hpl : (backTo pos (starEach es X.env)).any (·.1) = false)
    (hlen : (e :: es).length < 20) (hline : (apos.endLine == pos.line) = true) (h : t σ H fun vs H2 => sp (.ref a :: vs) H2 Q (WE W σ)) :
    _root_.PySem.wpAt (model X.prog X.w) X.A (.func body X.env) (eval (.Call (.Attribute (.Call (.Name "super" p0) [] [] p1) m apos) (e :: es) [] pos) X.env) (EP X pins σ Q) X.xe s := by
  obtain ⟨cc0, DA0, loc, lod, losl, cdD, hcl, hlcc, hD, hsup⟩ := Z.cell
  obtain ⟨f, hf, hsi, hty, hfi, hsb⟩ := hsup cn m q C hs hc
  have uniq : ∀ {cc oc od osl DA}, X.env.cells.lookup ("__class__" : Str) = some cc → X.K.lookup cc = some ⟨oc, od, .cell (some (.ref DA)), osl⟩ → DA = DA0 := fun {cc oc od osl DA} h1 h2 => by
    rw [hcl] at h1; cases h1
    rw [hlcc] at h2; cases h2
    rfl
  refine methcall_at ?_ hline (sup_base Z I hks hkc h0 ea hm (fun DA so h' hDA ext hso => ?_) fun cc oc od osl DA h1 h2 => by rw [uniq h1 h2]; exact hsb)
  · have h1 : (backTo pos (starEach (e :: es) X.env)).all (fun x => !x.1) = true := by
      rw [hst]
      have hpl' := List.any_eq_false.mp hpl
      refine List.all_eq_true.mpr fun y hy => ?_
      rcases List.mem_cons.mp hy with rfl | hy
      · rfl
      · have := hpl' y hy
        simpa using this
    have h2 : decide ((e :: es).length + ([] : List Keyword).length + (if ([] : List Keyword).isEmpty then 0 else 1) < 30) = true := by
      rw [decide_eq_true_eq]
      simp only [List.length_cons, List.length_nil, List.isEmpty_nil, if_true] at hlen ⊢
      omega
    rw [h1, h2]; rfl
  · obtain ⟨cc, oc, od, osl, d1, d2⟩ := hDA
    obtain rfl := uniq d1 d2
    obtain ⟨hh, gg, d, tt, os⟩ := s
    have I1 : Inv X pins σ H ⟨h', gg, d, tt, os⟩ := I.kept (t' := tt) ext
    have KX := I1.kIn
    obtain ⟨mA, O, _, _, _, _⟩ := ins_get I1.hok ea
    obtain ⟨od', J, _⟩ := O.look
    cases hcd : PySem.W.clsIn X.K C with
    | none => unfold PySem.W.ks_superIn at hsi; rw [hcd] at hsi; cases hsi
    | some cd =>
      unfold PySem.W.ks_superIn at hsi
      rw [hcd] at hsi
      obtain ⟨of, hof, hofc⟩ : ∃ of, h'.get? f = some of ∧ of.cls = .type "function" := by
        have ht' : (X.K.lookup f).map (·.cls) = some (.type "function") := hty
        cases z : X.K.lookup f with
        | none => rw [z] at ht'; cases ht'
        | some of => rw [z] at ht'; exact ⟨of, KX _ _ z, Option.some.inj ht'⟩
      refine ks_wpAny_getMethod_super hso (PySem.W.looks_opaque KX Z.any) (l₀ := cd.mro) ?_ rfl KX hsi hof hofc (PySem.W.ks_ne KX J hcd) hm ?_
      · exact fun A Q E s k q => wpAny_bind ((PySem.W.looks_clsIn KX hcd) A _ E s k (wpAny_pure q))
      · have I2 : Inv X ((h'.objs.size, PySem.W.methodObj (.ref f) (.ref a)) :: pins) σ H ⟨h'.push (PySem.W.methodObj (.ref f) (.ref a)), gg, d, tt + 1, os⟩ := met_new (g := f) (C := a) I1
        refine callwith_cm I2 (base_none I1 (Nat.le_refl _)) hfi (thn (ha.run pos _ _ σ H _ I2 h) fun us s3 ⟨vs, H2, I3, rv, q2⟩ => ⟨⟨pin_at I3, I3.kIn⟩, ?_⟩) hst hpl
        exact run_cmG (F f hf) hr hgd tk I3 rv q2
theorem supC_ok {x m : Str} {n : Nat} {l : Bool} (h : supC x m n l = true) : x = "super" ∧ (m == ("__class__" : Str)) = false ∧ n < 20 ∧ l = true := by
  simp only [supC, Bool.and_eq_true, decide_eq_true_eq, Bool.not_eq_true'] at h
  exact ⟨h.1, h.2.1, h.2.2.1, h.2.2.2⟩
theorem supK_ok (C : CxE g c cm Γ X W k) (h : supK c = true) : X.env.scope.names.lookup ("super" : Str) = some .globalImplicit ∧ X.env.scope.names.lookup ("__class__" : Str) = some .free := by
  simp only [supK, Bool.and_eq_true, decide_eq_true_eq] at h
  rw [C.sc]; exact h
/-- the call, by the evaluation -/
theorem sup_eval {Γs : Str → Str → Bool} (C : CxS g c cm Γ Γs X W k) (hot : c.hot = false) (Z : SupX X cm Γ.sup D) (I : Inv X pins σ H s) {r : Option Nat} {ps : List PX} {DD : Ends} (hcp : optAll (cpE g n c) (e :: es) = some ps) (hx : supC x m (e :: es).length (apos.endLine == pos.line) = true) (hk : supK c = true)
    (q : tIS X.K cm W (evS Γ Γs (.sup r D m ps)) DD σ H) :
    _root_.PySem.wpAt (model X.prog X.w) X.A (.func body X.env) (eval (.Call (.Attribute (.Call (.Name x p0) [] [] p1) m apos) (e :: es) [] pos) X.env) (EP X pins σ fun v H' => DD.nx (match r with | some i => σ.set i (some v) | none => σ) H') X.xe s := by
  obtain ⟨rfl, hm, hlen, hline⟩ := supC_ok hx
  obtain ⟨hks, hkc⟩ := supK_ok C.e hk
  obtain ⟨ι, S, τ, rl, rs, o⟩ := q
  have o : OutS X.K cm W ι S H (match supF Γ D m τ S with
    | some (g, x) => (evEs Γ ps τ S).thn τ fun xs S1 => (Γ.call g (x :: xs) S1).thn τ fun v S2 => retN r τ v S2
    | none => .bad) DD := by
    simp only [evS] at o
    exact o
  cases hf : supF Γ D m τ S with
  | none => rw [hf] at o; exact o.elim
  | some gx =>
    obtain ⟨q', x⟩ := gx
    rw [hf] at o
    obtain ⟨n0, cn, fs0, h1, h2, h3, rfl⟩ : ∃ n0 cn fs0, τ[0]? = some (some (.ref n0)) ∧ S[n0]? = some (.ins cn fs0) ∧ Γ.sup D cn m = some q' ∧ x = .ref n0 := by
      unfold supF at hf
      split at hf
      · rename_i n0 e0
        split at hf
        · rename_i cn fs0 e1
          split at hf
          · rename_i g' e2
            cases hf
            exact ⟨n0, cn, fs0, e0, e1, e2, rfl⟩
          · cases hf
        · cases hf
      · cases hf
    obtain ⟨v0, hv0, rv0⟩ := rs.2 0 _ h1
    have rv1 := rv0
    simp only [RV] at rv1
    obtain ⟨hn, rfl⟩ := rv1
    obtain ⟨CA, dx, ps', i1, i2, _, _⟩ := rl.cell n0 _ h2
    have ck := C.e.wd.at i2
    have hA := sound_A C.e (n := n) (fun e p h => (sound_E g cm Γ n c X W k e p C.e h).1) (e :: es) ps hcp
    obtain ⟨p2, r2, rfl, hp1, hp2⟩ := optAll_cons hcp
    refine sup_call (sp := spI X.K cm (Γ.call q')) Z I (C.e.room1 hot) C.e.grd C.e.tk hks hkc hv0 i1 i2 h3 ck.cl hm (fun f hf => C.e.wd.meth q' f hf) hA (starEach_cons (cpE_star hp1)) (cpEs_any hp2) hlen hline ?_
    refine ⟨ι, S, τ, rl, rs, ?_⟩
    dsimp only at o
    cases ee : evEs Γ (p2 :: r2) τ S with
    | bad => rw [ee] at o; exact o
    | exc cc S1 => rw [ee] at o; exact fun ι1 H1 st r1 C hC => o ι1 H1 σ st r1 (rs.step rl st) C hC
    | ok xs S1 =>
      rw [ee] at o
      intro ι1 H1 vs st r1 ra
      have o1 := OutS.shift o r1 st
      have rs1 := rs.step rl st
      refine ⟨ι1, S1, .ref n0 :: xs, r1, .cons (rv0.step rl st) ra, ?_⟩
      dsimp only [Rs.thn] at o1
      cases ec : Γ.call q' (.ref n0 :: xs) S1 with
      | bad => rw [ec] at o1; exact o1
      | exc cc S2 => rw [ec] at o1; exact fun ι2 H2 st2 r2 C hC => o1 ι2 H2 σ st2 r2 (rs1.step r1 st2) C hC
      | ok v S2 =>
        rw [ec] at o1
        intro ι2 H2 v' st2 r2 rv
        have rs2 := rs1.step r1 st2
        cases r with
        | none => exact o1 ι2 H2 σ st2 r2 rs2
        | some i => exact o1 ι2 H2 (σ.set i (some v')) st2 r2 (rs2.set i rv)
/-- one statement, where the def's own code stands -/
theorem sound_U {Γs : Str → Str → Bool} (C : CxS g c cm Γ Γs X W k) (hot : c.hot = false) (Z : SupX X cm Γ.sup D) (I : Inv X pins σ H s) {st : Stmt} {p : Sm} {DD : Ends} (hcp : cpU g n c D st = some p) (q : tIS X.K cm W (evS Γ Γs p) DD σ H) :
    _root_.PySem.wpAt (model X.prog X.w) X.A (.func body X.env) (exec st X.env) (SP X pins DD) X.xe s := by
  have plain : cpS g n c st = some p → _root_.PySem.wpAt (model X.prog X.w) X.A (.func body X.env) (exec st X.env) (SP X pins DD) X.xe s := fun h =>
    _root_.PySem.wpAt_of_wpAny ((sound_S g cm Γ Γs n c X W k st p C h).run pins s σ H DD I q)
  unfold cpU at hcp
  split at hcp
  · split at hcp
    · rename_i hb
      simp only [Bool.and_eq_true] at hb
      cases he : optAll (cpE g n c) (_ :: _) with
      | none => rw [he] at hcp; cases hcp
      | some ps =>
        rw [he] at hcp
        cases hcp
        exact ks_wpAt_Expr_any (ks_wpAt_mono (sup_eval C hot Z I he hb.1 hb.2 q) (fun u s' ⟨v, H', I', rv, qn⟩ => ⟨σ, H', I', qn⟩) fun _ _ z => z) I.quiet rfl
    · exact plain hcp
  · split at hcp
    · rename_i hb
      simp only [Bool.and_eq_true] at hb
      split at hcp
      · rename_i i ps e1 e2
        cases hcp
        obtain ⟨hi, hl⟩ := cpTn_ok e1
        obtain ⟨l1, l2⟩ := C.pg.loc _ hl
        exact ks_wpAt_Assign_Name (ks_wpAt_mono (sup_eval C hot Z I e2 hb.1 hb.2 q) (fun u s' ⟨v, H', I', rv, qn⟩ => store_ok I' C.e.nd (by rw [C.e.N]; exact ixOf_get hi) l1 rv (fun s'' J => ⟨_, H', J, qn⟩) l2) fun _ _ z => z) rfl
      · cases hcp
    · exact plain hcp
  · exact plain hcp
theorem sound_Us {Γs : Str → Str → Bool} (C : CxS g c cm Γ Γs X W k) (hot : c.hot = false) (Z : SupX X cm Γ.sup D) : ∀ (ss : List Stmt) (ps : List Sm) (pins : List (Addr × Obj)) (s : Shared) (σ : L2.St) (H : Hp) (DD : Ends), optAll (cpU g n c D) ss = some ps → Inv X pins σ H s → tIS X.K cm W (evSs Γ Γs ps) DD σ H →
    _root_.PySem.wpAt (model X.prog X.w) X.A (.func body X.env) (execs ss X.env) (SP X pins DD) X.xe s
  | [], ps, pins, s, σ, H, DD, h, I, q => by
    rw [optAll_nil h] at q
    exact _root_.PySem.wpAt_of_wpAny (pss_nil.run pins s σ H DD I (next_st (tIS.same q fun τ S => by simp only [evSs])))
  | st :: ss, ps, pins, s, σ, H, DD, h, I, q => by
    obtain ⟨p, r, rfl, h1, h2⟩ := optAll_cons h
    have q2 : tSeq (tIS X.K cm W (evS Γ Γs p)) (tIS X.K cm W (evSs Γ Γs r)) DD σ H := seq_st (tIS.same q fun τ S => by simp only [evSs])
    refine ks_wpAt_execs_cons (ks_wpAt_mono (sound_U C hot Z I h1 (DD := { DD with nx := tIS X.K cm W (evSs Γ Γs r) DD }) q2) (fun f s1 qq => ?_) fun _ _ z => z)
    cases f with
    | next =>
      obtain ⟨σ', H', I', qn⟩ := qq
      exact sound_Us C hot Z ss r pins s1 σ' H' DD h2 I' qn
    | ret v => exact qq
    | brk => exact qq
    | cont => exact qq
end
end Wg
/-! WiO: the start of a def with the cell of its class and cells of its own. -/
namespace Wg
open PySem PySem.Spec PyProof.Rows L2 StX ClX NdefX
section
variable {M : Model} {A : Around} {E : Value → Shared → Prop} {s₀ s : Shared} {m cm : Str → Option Value} {env : Env} {cs : List (Str × Addr)}
theorem stLU {n : Str} {v : Value} {Q : Unit → Shared → Prop} (x : InCallC s₀ env.locals m cs cm s) (hk : env.scope.kind = .function) (hl : env.kindOf n = some .local)
    (h : ∀ s', InCallC s₀ env.locals (fun y => if y = n then some v else m y) cs cm s' → Q () s') : wpAny M A (storeName env n v) Q E s := by
  refine wpAny_storeName_local hl x.toInCall.ns (fun h' hn' hs' => h _ ⟨⟨?_, hn', fun b o e => ?_, x.toInCall.fresh⟩, fun k c hc => ?_, x.apart, x.above⟩) (by rw [hk]; rfl)
  · obtain ⟨h₁, tk, rfl⟩ := x.toInCall.same
    exact ⟨h', _, rfl⟩
  · exact hs'.extBut b o (Nat.ne_of_lt (Nat.lt_of_lt_of_le (Heap.lt_size e) x.toInCall.fresh)) (x.toInCall.keep b o e)
  · exact (x.cell k c hc).sameBut hs' (Nat.ne_of_gt (x.above k c (PySem.mem_of_lookup hc)))
theorem stCU {n : Str} {c : Addr} {v : Value} {Q : Unit → Shared → Prop} (x : InCallC s₀ env.locals m cs cm s) (hk : env.scope.kind = .function) (hl : env.kindOf n = some .cell)
    (hc0 : env.cells.lookup n = some c) (hc : cs.lookup n = some c)
    (h : ∀ s', InCallC s₀ env.locals m cs (fun y => if y = n then some v else cm y) s' → Q () s') : wpAny M A (storeName env n v) Q E s := by
  have hLc := x.above n c (PySem.mem_of_lookup hc)
  refine wpAny_storeName_cell hk hl hc0 (x.cell n c hc) fun h' hc' hs' => h _ ⟨⟨?_, x.toInCall.ns.sameBut hs' (Nat.ne_of_lt hLc), fun b o e => ?_, x.toInCall.fresh⟩, fun k c' hk' => ?_, x.apart, x.above⟩
  · obtain ⟨h₁, tk, rfl⟩ := x.toInCall.same
    exact ⟨h', _, rfl⟩
  · exact hs'.extBut b o (Nat.ne_of_lt (Nat.lt_trans (Nat.lt_of_lt_of_le (Heap.lt_size e) x.toInCall.fresh) hLc)) (x.toInCall.keep b o e)
  · by_cases hkn : k = n
    · subst hkn
      rw [hc] at hk'; cases hk'
      simpa using hc'
    · rw [if_neg hkn]
      exact (x.cell k c' hk').sameBut hs' fun e => hkn (name_of_addr x.apart (PySem.mem_of_lookup hk') (e ▸ PySem.mem_of_lookup hc))
theorem bindU (f : Str × Value → PUnit → Sem (ForInStep PUnit)) (hf : ∀ n v u, f (n, v) u = (do storeName env n v; pure (.yield ⟨⟩))) (hk : env.scope.kind = .function) :
    ∀ (binds : List (Str × Value)) (m cm : Str → Option Value) (s : Shared) (Q : PUnit → Shared → Prop), InCallC s₀ env.locals m cs cm s →
      (∀ x ∈ binds, env.kindOf x.1 = some .local ∨ (env.kindOf x.1 = some .cell ∧ ∃ c, cs.lookup x.1 = some c ∧ env.cells.lookup x.1 = some c)) →
      (∀ s', InCallC s₀ env.locals (bindL env.kindOf binds m) cs (bindC env.kindOf binds cm) s' → Q ⟨⟩ s') → wpAny M A (forIn binds ⟨⟩ f) Q E s
  | [], m, cm, s, Q, x, _, h => by rw [List.forIn_nil]; exact wpAny_pure (h s x)
  | (n, v) :: r, m, cm, s, Q, x, hkind, h => by
    rw [List.forIn_cons, hf]
    have hr : ∀ y ∈ r, env.kindOf y.1 = some .local ∨ (env.kindOf y.1 = some .cell ∧ ∃ c, cs.lookup y.1 = some c ∧ env.cells.lookup y.1 = some c) := fun y hy => hkind y (List.mem_cons_of_mem _ hy)
    rcases hkind (n, v) List.mem_cons_self with hl | ⟨hl, c, hc, hc0⟩
    · refine wpAny_bind (wpAny_bind (stLU x hk hl fun s' x' => wpAny_pure (bindU f hf hk r _ _ s' Q x' hr fun s'' x'' => h s'' ?_)))
      unfold bindL bindC; rw [if_pos hl, if_pos hl]; exact x''
    · have hnl : ¬ env.kindOf n = some .local := by rw [hl]; decide
      refine wpAny_bind (wpAny_bind (stCU x hk hl hc0 hc fun s' x' => wpAny_pure (bindU f hf hk r _ _ s' Q x' hr fun s'' x'' => h s'' ?_)))
      unfold bindL bindC; rw [if_neg hnl, if_neg hnl]; exact x''
end
theorem cells_app : ∀ (names : List (Str × NameKind)) (n : Nat) (acc acc2 : List (Str × Addr)), cellsFrom n names (acc ++ acc2) = cellsFrom n names acc ++ acc2
  | [], _, _, _ => rfl
  | (x, k) :: r, n, acc, acc2 => by
    unfold cellsFrom
    split
    · exact cells_app r (n + 1) ((x, n) :: acc) acc2
    · exact cells_app r n acc acc2
/-- the names of a def with the cell of its class -/
structure UScope (N ps : List Str) (sc : Scope) : Prop where
  kind : sc.kind = .function
  co : sc.isCoroutine = false
  gen : sc.isGenerator = false
  nd : N.Nodup
  pre : N.take (ps.length + 1) = ps ++ [("__class__" : Str)]
  par : ∀ x ∈ ps, sc.names.lookup x = some .local ∨ sc.names.lookup x = some .cell
  free : ∀ y ∈ sc.names, y.2 = .free → y.1 = ("__class__" : Str)
  frk : sc.names.lookup ("__class__" : Str) = some .free
  own : ∀ y ∈ sc.names, y.2 = .cell → y.1 ≠ ("__class__" : Str)
abbrev uCl (sc : Scope) (L cc : Addr) : List (Str × Addr) := cellsFrom (L + 1) sc.names [("__class__", cc)]
theorem uCl_eq (sc : Scope) (L cc : Addr) : uCl sc L cc = cellsFrom (L + 1) sc.names [] ++ [(("__class__" : Str), cc)] := cells_app sc.names (L + 1) [] _
theorem uCl_new {sc : Scope} {L cc c : Addr} {y : Str} (h : (cellsFrom (L + 1) sc.names []).lookup y = some c) : (uCl sc L cc).lookup y = some c := by
  rw [uCl_eq, List.lookup_append, h]; rfl
theorem uCl_get {sc : Scope} {L cc c : Addr} {y : Str} (h : (uCl sc L cc).lookup y = some c) : (cellsFrom (L + 1) sc.names []).lookup y = some c ∨ (y = ("__class__" : Str) ∧ c = cc) := by
  rw [uCl_eq, List.lookup_append] at h
  cases e : (cellsFrom (L + 1) sc.names []).lookup y with
  | some a => rw [e] at h; exact .inl h
  | none =>
    rw [e] at h
    have h : ([("__class__", cc)] : List (Str × Addr)).lookup y = some c := h
    rw [List.lookup_cons] at h
    split at h
    · rename_i z
      cases h
      exact .inr ⟨by simpa using z, rfl⟩
    · simp at h
theorem uCl_cls {sc : Scope} {L cc : Addr} (hn : ∀ y ∈ sc.names, y.2 = .cell → y.1 ≠ ("__class__" : Str)) : (uCl sc L cc).lookup ("__class__" : Str) = some cc := by
  rw [uCl_eq, List.lookup_append]
  cases e : (cellsFrom (L + 1) sc.names []).lookup ("__class__" : Str) with
  | none => simp [List.lookup]
  | some a =>
    exfalso
    have no : ∀ (names : List (Str × NameKind)) (n : Nat) (acc : List (Str × Addr)), (∀ p ∈ acc, p.1 ≠ ("__class__" : Str)) → (∀ y ∈ names, y.2 = .cell → y.1 ≠ ("__class__" : Str)) → ∀ p ∈ cellsFrom n names acc, p.1 ≠ ("__class__" : Str) := by
      intro names
      induction names with
      | nil => intro n acc h1 _ p hp; exact h1 p hp
      | cons x r ih =>
        intro n acc h1 h2 p hp
        obtain ⟨x, k⟩ := x
        unfold cellsFrom at hp
        split at hp
        · rename_i hk
          refine ih _ _ (fun q hq => ?_) (fun y hy => h2 y (List.mem_cons_of_mem _ hy)) p hp
          rcases List.mem_cons.mp hq with rfl | hq
          · exact h2 (x, k) List.mem_cons_self (by simpa using hk)
          · exact h1 q hq
        · exact ih _ _ h1 (fun y hy => h2 y (List.mem_cons_of_mem _ hy)) p hp
    exact no sc.names (L + 1) [] (fun p hp => nomatch hp) hn _ (PySem.mem_of_lookup e) rfl
section
variable {M : Model} {A : Around} {E : Value → Shared → Prop} {s : Shared}
theorem newEnvU {scope : Scope} {globals cc : Addr} {binds : List (Str × Value)} {qual : Str} {func : Option Addr} {code : Value} {builtins : Addr} {Q : Env → Shared → Prop}
    (hk : scope.kind = .function)
    (hkind : ∀ x ∈ binds, scope.names.lookup x.1 = some .local ∨ (scope.names.lookup x.1 = some .cell ∧ ((cellsFrom (s.heap.objs.size + 1) scope.names []).lookup x.1).isSome = true))
    (hQ : ∀ env, env = newEnv scope s.heap.objs.size globals (uCl scope s.heap.objs.size cc) qual func code none builtins →
      ∀ s', InCallC s env.locals (bindL env.kindOf binds fun _ => none) (cellsFrom (s.heap.objs.size + 1) scope.names []) (bindC env.kindOf binds fun _ => none) s' → Q env s') :
    wpAny M A (newFunctionEnv scope globals [("__class__", cc)] binds qual func code none builtins) Q E s := by
  simp only [newFunctionEnv, Option.isSome_none, Bool.false_eq_true, if_false]
  refine wpAny_bind (wpAny_alloc ?_)
  refine wpAny_bind (wpAny_layCells _ (fun name kind cells => by cases hkc : kind == NameKind.cell <;> simp [hkc]) _ _ _ _ ?_)
  have ok := cellsFrom_ok scope.names (s.heap.push { cls := .type "frame", data := .dict #[] }) (s.heap.objs.size + 1) [] ⟨fun _ _ hm => (nomatch hm), List.Pairwise.nil⟩ (by rw [Heap.size_push]; exact Nat.le_refl _)
  rw [Heap.size_push] at ok
  rw [show ({ s with heap := s.heap.push { cls := .type "frame", data := .dict #[] } } : Shared).heap.objs.size = s.heap.objs.size + 1 from Heap.size_push ..]
  refine wpAny_bind (bindU (s₀ := s) (cs := cellsFrom (s.heap.objs.size + 1) scope.names []) (env := newEnv scope s.heap.objs.size globals (uCl scope s.heap.objs.size cc) qual func code none builtins)
    _ (fun _ _ _ => rfl) hk binds (fun _ => none) (fun _ => none) _ _
    ⟨⟨⟨_, _, rfl⟩, (Heap.Ns.new s.heap (.type "frame")).keeps (pushCells_keeps _ _), fun b o e => pushCells_keeps _ _ b o (Heap.get?_push_of_some _ e), Nat.le_refl _⟩,
      fun n c hc => (ok.empty n c (PySem.mem_of_lookup hc)).1, ok.apart, fun n c hm => (ok.empty n c hm).2⟩
    (fun x hx => ?_) fun s' x => wpAny_pure (hQ _ rfl s' x))
  rcases hkind x hx with h | ⟨h, hc⟩
  · exact .inl h
  · obtain ⟨c, hc⟩ := Option.isSome_iff_exists.mp hc
    exact .inr ⟨h, c, hc, uCl_new hc⟩
end
abbrev envU (qual : Str) (sc : Scope) (f cd L cc : Addr) : Env := PySem.W.envX qual sc L f (.ref cd) (uCl sc L cc)
def ucx (CX : CXT) (P : Program) (w : World) (K : PySem.W.Frag) (mg : Str → Option Value) (base : Heap) (N : List Str) (qual : Str) (sc : Scope) (f cd cc : Addr) (A : Around) (outer : List Env) (s : Shared) (H : Hp) (E : XK) : Cx where
  prog := P
  w := w
  K := K
  mg := mg
  base := base
  A := A.deeper (envU qual sc f cd s.heap.objs.size cc)
  N := N
  s_0 := s
  H_0 := H
  env := envU qual sc f cd s.heap.objs.size cc
  outer := outer
  stack := envU qual sc f cd s.heap.objs.size cc :: outer
  ex := []
  calm := true
  fn := fun y => decide (y ≠ ("__class__" : Str))
  pn := []
  xe := fun e s' => wpAny (model P w) (A.deeper (envU qual sc f cd s.heap.objs.size cc)) (leaving (envU qual sc f cd s.heap.objs.size cc) e) (fun _ s'' => CX outer H s E e s'') (fun e' s'' => CX outer H s E e' s'') s'
theorem inv_startU {CX : CXT} {P : Program} {w : World} {K : PySem.W.Frag} {mg : Str → Option Value} {base : Heap} {N ps : List Str} {qual : Str} {sc : Scope} {f cd cc DA : Addr} {loc : Value} {lod : Option Addr} {losl : Array (Option Value)} {A : Around} {outer : List Env} {s s1 : Shared} {H : Hp} {E : XK} {us : List Value} {vs : List V}
    (S : UScope N ps sc) (hd : A.handled = none) (e0 : Env0 P w K mg base A outer s H) (hl : vs.length = ps.length) (r : Vals vs us) (lcc : K.lookup cc = some ⟨loc, lod, .cell (some (.ref DA)), losl⟩)
    (x : InCallC s s.heap.objs.size (bindL (envU qual sc f cd s.heap.objs.size cc).kindOf (ps.zip us) fun _ => none) (cellsFrom (s.heap.objs.size + 1) sc.names []) (bindC (envU qual sc f cd s.heap.objs.size cc).kindOf (ps.zip us) fun _ => none) s1) :
    Inv (ucx CX P w K mg base N qual sc f cd cc A outer s H E) [] (L2.start N vs) H s1 := by
  have hpl : ps.length ≤ N.length := by
    have := congrArg List.length S.pre
    rw [List.length_take, List.length_append] at this
    simp only [List.length_cons, List.length_nil] at this
    omega
  obtain ⟨h1, tk, rfl, hk⟩ := x.done
  have hcc := e0.bs cc _ (e0.mod.kin _ _ lcc)
  have cclt : cc < s.heap.objs.size := Heap.lt_size hcc.1
  have noA : ∀ b : Addr, b ∉ (ucx CX P w K mg base N qual sc f cd cc A outer s H E).ex := fun b z => absurd (show b ∈ ([] : List Addr) from z) (by simp)
  refine ⟨⟨e0.mod, S.kind, rfl, rfl, Nat.le_refl _, fun y z c q1 q2 => ?_, fun y hy => ?_, fun y c hf h => ?_, fun _ => hd, Around.frames_deeper e0.frames, .inr ⟨rfl, rfl⟩, fun b z => absurd z (noA b), e0.bs, e0.bsz, fun b _ _ => noA b, fun b z => absurd z (noA b), e0.funs, e0.frf⟩,
    rfl, e0.bare, Un.kept hk, ⟨_, x.toInCall.ns, fun i y v h1 h2 h3 => ?_⟩, fun y c h => ?_, e0.hok.fresh (Nat.le_refl _), fun y c h => ?_, fun p hp => absurd (show p ∈ ([] : List (Addr × Obj)) from hp) (by simp), e0.hok.kept hk, ?_⟩
  · rcases uCl_get q1 with q1 | ⟨rfl, rfl⟩ <;> rcases uCl_get q2 with q2 | ⟨rfl, e⟩
    · exact name_of_addr x.apart (PySem.mem_of_lookup q1) (PySem.mem_of_lookup q2)
    · exact absurd (e ▸ Nat.lt_trans cclt (x.above _ _ (PySem.mem_of_lookup q1))) (Nat.lt_irrefl _)
    · exact absurd (Nat.lt_trans cclt (x.above _ _ (PySem.mem_of_lookup q2))) (Nat.lt_irrefl _)
    · rfl
  · have hy : sc.names.lookup y = some .cell ∨ sc.names.lookup y = some .free := hy
    rcases hy with hy | hy
    · obtain ⟨c, hc⟩ := cell_has (n := s.heap.objs.size + 1) hy
      exact ⟨c, uCl_new hc⟩
    · obtain rfl := S.free _ (PySem.mem_of_lookup hy) rfl
      exact ⟨cc, uCl_cls S.own⟩
  · have hf : decide (y ≠ ("__class__" : Str)) = true := hf
    rw [decide_eq_true_eq] at hf
    rcases uCl_get h with h | ⟨e, _⟩
    · exact Nat.le_of_lt (x.above y c (PySem.mem_of_lookup h))
    · exact absurd e hf
  · have hi : i < vs.length := by
      unfold L2.start at h2
      by_cases hi : i < vs.length
      · exact hi
      · rw [List.getElem?_append_right (by simpa using hi)] at h2
        rw [List.getElem?_replicate] at h2
        split at h2 <;> cases h2
    have ha : vs[i]? = some v := by
      unfold L2.start at h2
      rw [List.getElem?_append_left (by simpa using hi), List.getElem?_map] at h2
      cases e : vs[i]? with
      | none => rw [e] at h2; cases h2
      | some a => rw [e] at h2; cases h2; rfl
    obtain ⟨u, hu, rv⟩ := r.get ha
    have hpt : N.take ps.length = ps := by
      have q := congrArg (List.take ps.length) S.pre
      rw [List.take_take, Nat.min_eq_left (by omega)] at q
      rw [q]; simp
    have hp : ps[i]? = some y := by
      rw [← hpt, List.getElem?_take_of_lt (by omega)]; exact h1
    have ndP : ps.Nodup := by rw [← hpt]; exact S.nd.sublist (List.take_sublist _ _)
    refine ⟨u, rv, ?_⟩
    rcases S.par y (List.mem_of_getElem? hp) with k | k
    · exact .inl ⟨k, bindL_get ndP hp hu k⟩
    · obtain ⟨c, e⟩ := cell_has (n := s.heap.objs.size + 1) k
      refine .inr ⟨.inl k, c, uCl_new e, ?_⟩
      have q := x.cell y c e
      rw [bindC_get ndP hp hu (by show sc.names.lookup y ≠ _; rw [k]; decide)] at q
      exact q
  · rcases uCl_get h with h | ⟨_, rfl⟩
    · exact ⟨_, x.cell y c h⟩
    · exact ⟨_, _, hk _ _ hcc.1, rfl⟩
  · rcases uCl_get h with h | ⟨_, rfl⟩
    · exact e0.hok.fresh (Nat.le_of_lt (x.above y c (PySem.mem_of_lookup h)))
    · exact hcc.2
  · unfold L2.start
    show _ = N.length
    rw [List.length_append, List.length_map, List.length_replicate]
    omega
end Wg
/-! WgS: defs. -/
namespace Wg
open PySem PySem.Spec PyProof.Rows L2 StX ClX NdefX
/-- a def of the text, by its body, where no repr is under way -/
theorem fn_G {P : Program} {w : World} {K : PySem.W.Frag} {mg : Str → Option Value} {base : Heap} {k : Nat} {x qual : Str} {st : Stmt} {f : Addr} {fd : FuncData} {N ps : List Str} {sp : Sp}
    (F : Fun K x qual st f fd) (S : FnScope N ps (defScope st)) (hb : Binds K fd ps []) (len : ∀ vs H Q E, sp vs H Q E → vs.length = ps.length)
    (hbody : ∀ (cdv : Value) (A : Around) (outer : List Env) (s : Shared) (H : Hp) (vs : List V) (Q : VK) (E : XK), Room (2 * k + 2) (A.deeper (envOfC qual (defScope st) s.heap.objs.size f cdv)) → A.guards = some [] → sp vs H Q E →
      ∃ t, PSs (cxOf (L2.CX P w) P w K mg base N qual (defScope st) f cdv A outer s H E) (defBody st) t ∧ t { nx := fun _ H' => Q .non H', rt := Q } (start N vs) H) :
    FnG P w K mg base (k + 1) f sp := by
  obtain ⟨oc, od, kV, doc, pm, an, cdv, ct, osl, efd, lk, hcd⟩ := F.ex
  subst efd
  constructor
  intro A outer s H us vs Q E hr hg e0 r hsp
  have hl := len _ _ _ _ hsp
  have stays : ∀ b o, base.get? b = some o → s.heap.get? b = some o := fun b o e => (e0.bs b o e).1
  have KX := e0.mod.kin.keeps stays
  have lim := e0.mod.nolimit.keeps stays
  have hul : us.length = ps.length := by rw [← r.length]; exact hl
  have bnd := hb s us KX (by rw [List.append_nil]; exact hul)
  rw [List.append_nil] at bnd
  have kinds : ∀ y ∈ ps.zip us, (defScope st).names.lookup y.1 = some .local ∨ ((defScope st).names.lookup y.1 = some .cell ∧ ((cellsFrom (s.heap.objs.size + 1) (defScope st).names []).lookup y.1).isSome = true) := by
    rintro ⟨n, v⟩ hy
    rcases S.par n (List.of_mem_zip hy).1 with q | q
    · exact Or.inl q
    · exact Or.inr ⟨q, PySem.W.cellsFrom_some _ _ _ (Or.inl q)⟩
  refine codeAny_call_function hr.depth (KX _ _ lk) rfl S.co S.gen rfl (PySem.W.codeRec_of KX hcd) (bnd _ _ _ _ ?_)
  refine wpAny_newFunctionEnv_cells S.kind kinds fun env he s1 xx => ?_
  subst he
  refine ⟨lim.keeps xx.toInCall.keep, codeAny_func ?_⟩
  obtain ⟨t, ht, hq⟩ := hbody cdv A outer s H vs Q E (Room.deeper (k := 2 * k + 2) hr _) hg hsp
  have I0 := inv_start (CX := L2.CX P w) (E := E) (qual := qual) (f := f) (cd := cdv) S hr.hd e0 hl r xx
  refine wpAny_mono (ht.run [] s1 (start N vs) H _ I0 hq) (fun fl s' hs => ?_) fun e s' hs => hs
  match fl, hs with
  | .ret u, ⟨v, σ', H', J, rv, q⟩ => exact ⟨v, H', J.os, J.bare, J.base, J.hok, rv, q⟩
  | .next, ⟨σ', H', J, q⟩ => exact ⟨V.non, H', J.os, J.bare, J.base, J.hok, rfl, q⟩
  | .brk, ⟨_, _, _, q⟩ => exact q.elim
  | .cont, ⟨_, _, _, q⟩ => exact q.elim
/-- def f(a, .., *v) -/
theorem fn_GS {P : Program} {w : World} {K : PySem.W.Frag} {mg : Str → Option Value} {base : Heap} {k : Nat} {x qual : Str} {st : Stmt} {f : Addr} {fd : FuncData} {N ps : List Str} {pv : Str} {sp : Sp}
    (F : Fun K x qual st f fd) (S : FnScope N (ps ++ [pv]) (defScope st)) (hb : ∀ us rest : List Value, us.length = ps.length → bindArgs fd ⟨us ++ rest, []⟩ = (newTuple rest >>= fun t => pure (ps.zip us ++ [(pv, t)])))
    (hbody : ∀ (cdv : Value) (A : Around) (outer : List Env) (s : Shared) (H : Hp) (vs : List V) (Q : VK) (E : XK), Room (2 * k + 2) (A.deeper (envOfC qual (defScope st) s.heap.objs.size f cdv)) → A.guards = some [] → sp vs H Q E →
      ∃ t, PSs (cxOf (L2.CX P w) P w K mg base N qual (defScope st) f cdv A outer s H E) (defBody st) t ∧ t { nx := fun _ H' => Q .non H', rt := Q } (start N vs) H) :
    FnG P w K mg base (k + 1) f (fun vs H Q E => ∃ ws rest, vs = ws ++ rest ∧ ws.length = ps.length ∧ rest.length ≤ sizeLine ∧ ∀ (p : Addr) (o : Obj), H p = Option.none → o.dict = Option.none → sp (ws ++ [V.ref p]) (upd H p (.frz o (.tup rest))) Q E) := by
  obtain ⟨oc, od, kV, doc, pm, an, cdv, ct, osl, efd, lk, hcd⟩ := F.ex
  subst efd
  constructor
  intro A outer s H us vs Q E hr hg e0 r hsp
  obtain ⟨ws, rest, ev, hl, hz, hq⟩ := hsp
  subst ev
  obtain ⟨u1, u2, eu, r1, r2⟩ := vals_split r
  subst eu
  have hn : H s.heap.objs.size = Option.none := e0.hok.fresh (Nat.le_refl _)
  have hl1 : u1.length = ps.length := by rw [← r1.length]; exact hl
  have hl2 : u2.length ≤ sizeLine := by rw [← r2.length]; exact hz
  refine run_bnd (k := 2 * k + 2) lk hcd S hr e0 (G := fun xs H2 => ∃ (p : Addr) (o : Obj), H p = Option.none ∧ o.dict = Option.none ∧ xs = ws ++ [V.ref p] ∧ H2 = upd H p (.frz o (.tup rest))) (fun A' Ex Q' h => ?_) fun s2 H2 xs ⟨p, o, hp, ho, ex, eH⟩ hr' => ?_
  · rw [hb u1 u2 hl1]
    refine wpAny_bind (wpAny_newTuple (wpAny_pure ?_) hl2)
    have new : ObjOk P w (upd H s.heap.objs.size (.frz (tObj u2) (.tup rest))) (s.heap.push (tObj u2)) s.heap.objs.size (.frz (tObj u2) (.tup rest)) := ⟨Heap.get?_push_size _ rfl, hz, u2, r2, ⟨_, Heap.get?_push_size _ rfl, rfl, _, rfl⟩⟩
    have un := un_laid (fs := frs outer) (s := s) (o := tObj u2) (u := .frz (tObj u2) (.tup rest)) hn
    have z := h _ _ (ws ++ [V.ref s.heap.objs.size]) (u1 ++ [Value.ref s.heap.objs.size]) (env0_laid e0 new) un rfl (fun e s' => cxUp outer s H _ _ E e s' un (fun b o q => Heap.get?_push_of_some _ q) rfl) (r1.append (.cons rfl .nil))
      (by rw [List.length_append, List.length_append, hl] <;> rfl) ⟨_, _, hn, rfl, rfl, rfl⟩
    rw [List.zip_append hl1.symm] at z
    exact z
  · subst ex eH
    exact hbody cdv A outer s2 _ _ Q E hr' hg (hq p o hp ho)
/-! ### all defs -/
/-- how the arguments are bound -/
def BindOk (K : PySem.W.Frag) (fd : FuncData) (ps : List Str) (d : PD) : Prop :=
  (d.np < 1000 ∧ Binds K fd ps [] ∧ ps.length = d.np) ∨
  (1000 ≤ d.np ∧ ∃ ps0 pv, ps = ps0 ++ [pv] ∧ ps0.length = d.np - 1000 ∧ ∀ us rest : List Value, us.length = ps0.length → bindArgs fd ⟨us ++ rest, []⟩ = (newTuple rest >>= fun t => pure (ps0.zip us ++ [(pv, t)])))
/-- a def of the text and its evaluation -/
structure DefOk (g : GI) (K : PySem.W.Frag) (x : Str) (d : PD) (f : Addr) (fd : FuncData) (st : Stmt) (N ps : List Str) (qual : Str) (m : Nat) : Prop where
  fn : Fun K x qual st f fd
  sc : FnScope N ps (defScope st)
  bnd : BindOk K fd ps d
  ns : N.length = d.ns
  cp : optAll (cpS g m ⟨N, defScope st, false⟩) (defBody st) = some d.body
/-- a def that calls a method of the class above: it has the cell of its class D -/
structure DefU (P : Program) (g : GI) (K : PySem.W.Frag) (mg : Str → Option Value) (cm : Cm) (sup : Str → Str → Str → Option Str) (x : Str) (d : PD) (f : Addr) (st : Stmt) (N ps : List Str) (qual : Str) (m : Nat) (D : Str) : Prop where
  fn : ∃ (oc : Value) (od : Option Addr) (osl : Array (Option Value)) (kV doc pm : Value) (an : Option Addr) (cdv ct : Value) (cc : Addr), K.lookup f = some ⟨oc, od, .func (PySem.W.fnX x qual (defArgs st) (defBody st) (defScope st) [("__class__", cc)] .none kV doc pm an cdv ct), osl⟩ ∧ PySem.W.codeIn K cdv qual = true ∧
    Binds K (PySem.W.fnX x qual (defArgs st) (defBody st) (defScope st) [("__class__", cc)] .none kV doc pm an cdv ct) ps [] ∧
    (∃ (cd : Addr) (coc : Value) (cod : Option Addr) (vs : Array Value) (cosl : Array (Option Value)) (file : Str) (tf : Tok), cdv = .ref cd ∧ K.lookup cd = some ⟨coc, cod, .fields vs, cosl⟩ ∧ vs[2]? = some (.str file tf) ∧ ((P.main.file : Str) == file) = true) ∧
    ∃ (DA : Addr) (loc : Value) (lod : Option Addr) (losl : Array (Option Value)) (cdD : ClassData), K.lookup cc = some ⟨loc, lod, .cell (some (.ref DA)), losl⟩ ∧ PySem.W.clsIn K DA = some cdD ∧
      ∀ C m q CA, sup D C m = some q → cm.ins C = some CA → ∃ f, cm.fn q = some f ∧ PySem.W.ks_superIn K CA DA m = some (some (.ref f)) ∧ PySem.W.typeIn K (.ref f) = some (.type "function") ∧ PySem.W.fnIn K f = true ∧ PySem.W.mroIn K CA (.ref DA) = some true
  kp : PySem.W.keepIn K (.ref f) = true
  sc : UScope N ps (defScope st)
  np : d.np < 1000 ∧ ps.length = d.np
  ns : N.length = d.ns
  self : ∃ ar : Arg, ((defArgs st).posonlyargs ++ (defArgs st).args).head? = some ar ∧ N[0]? = some ar.arg ∧ ((defScope st).names.lookup ar.arg = some .local ∨ (defScope st).names.lookup ar.arg = some .cell)
  cp : optAll (cpU g m ⟨N, defScope st, false⟩ D) (defBody st) = some d.body
  top : (P.main.scope.names.lookup ("super" : Str)).isSome = false
  mgs : mg "super" = none
  any : PySem.W.nsIn K cStatics "thirdparty.any" = some none
structure Top (P : Program) (g : GI) (pr : Prg) (K : PySem.W.Frag) (mg : Str → Option Value) (cm : Cm) : Prop where
  blt : ∀ x ∈ g.blt, mg x = none
  glob : ∀ x v, x ∈ g.glob → pr.glob.lookup x = some v → ∃ u z, mg x = some u ∧ RelV z u ∧ ∀ ι n H, RV K ι n H v z
  exc : Xc g K mg cm pr.sub
  fn : ∀ q f, cm.fn q = some f → (∃ x d fd st N ps qual m, pr.defs.lookup q = some d ∧ DefOk g K x d f fd st N ps qual m) ∨ ∃ x d st N ps qual m D, pr.defs.lookup q = some d ∧ DefU P g K mg cm pr.sup x d f st N ps qual m D
  top : ∀ x ∈ g.defs, ∃ f, cm.fn x = some f ∧ mg x = some (.ref f)
  cls : ∀ c ∈ g.cls, ∃ C, cm.ins c = some C ∧ ClsK g K mg cm pr.att pr.isub c C
  ins : ∀ c C, cm.ins c = some C → c ∈ g.cls
  attc : ∀ c f a, pr.att c f = some a → c ∈ g.cls
  dig : PySem.W.nsIn K cStatics "sys.int_max_str_digits" = some none
theorem Top.kp {P : Program} {g : GI} {pr : Prg} {K : PySem.W.Frag} {mg : Str → Option Value} {cm : Cm} (T : Top P g pr K mg cm) {q : Str} {f : Addr} (h : cm.fn q = some f) : PySem.W.keepIn K (.ref f) = true := by
  rcases T.fn q f h with ⟨x', d, fd, st, N, ps, qual, m, _, D⟩ | ⟨x', d, st, N, ps, qual, m, _, _, D⟩
  · exact D.fn.kp
  · exact D.kp
theorem start_ok {K : PySem.W.Frag} {ι : Nat → Addr} {n : Nat} {H : Hp} {N : List Str} {d : PD} {ivs : List IV} {vs : List V} (h : RVs K ι n H ivs vs) (hn : N.length = d.ns) : RSl K ι n H (startI d ivs) (start N vs) := by
  have hl := h.length
  refine ⟨by simp [startI, L2.start, hl, hn], fun i iv e => ?_⟩
  unfold startI at e
  by_cases hi : i < ivs.length
  · rw [List.getElem?_append_left (by simpa using hi), List.getElem?_map] at e
    cases q : ivs[i]? with
    | none => rw [q] at e; cases e
    | some a =>
      rw [q] at e
      simp only [Option.map_some, Option.some.injEq] at e
      subst e
      obtain ⟨v, hv, rv⟩ := h.get q
      refine ⟨v, ?_, rv⟩
      unfold L2.start
      rw [List.getElem?_append_left (by simpa [hl] using hi), List.getElem?_map, hv]
      rfl
  · rw [List.getElem?_append_right (by simpa using hi), List.getElem?_replicate] at e
    split at e <;> cases e
theorem body_ok {P : Program} {w : World} {g : GI} {pr : Prg} {K : PySem.W.Frag} {mg : Str → Option Value} {cm : Cm} {base : Heap} {k : Nat} {x : Str} {d : PD} {f : Addr} {fd : FuncData} {st : Stmt} {N ps : List Str} {qual : Str} {m : Nat}
    (T : Top P g pr K mg cm) (ih : Wd g P w K mg base cm (mkGam pr (run pr k)) k) (D : DefOk g K x d f fd st N ps qual m) {cdv : Value} {A : Around} {outer : List Env} {s : Shared} {H H0 : Hp} {vs : List V} {Q : VK} {E : XK} {ι : Nat → Addr} {S : Sto} {ivs : List IV}
    (hr : Room (2 * k + 2) (A.deeper (envOfC qual (defScope st) s.heap.objs.size f cdv))) (hg : A.guards = some []) (rl : Rel K cm ι S H) (rv : RVs K ι S.length H ivs vs) (r0 : Rel K cm ι S H0) (st0 : Step ι S H0 ι S H) (o : OutC K cm ι S H0 ((evSs (mkGam pr (run pr k)) pr.sub d.body (startI d ivs) S).done S) Q E) :
    ∃ t, PSs (cxOf (L2.CX P w) P w K mg base N qual (defScope st) f cdv A outer s H E) (defBody st) t ∧ t { nx := fun _ H' => Q .non H', rt := Q } (start N vs) H := by
  let X := cxOf (L2.CX P w) P w K mg base N qual (defScope st) f cdv A outer s H E
  have tk : Takes X (fun cls d _ H' => E cls d H') := takes_of rfl rfl rfl rfl
  have C : CxS g ⟨N, defScope st, false⟩ cm (mkGam pr (run pr k)) pr.sub X (fun cls d _ H' => E cls d H') k :=
    ⟨⟨ih, rfl, D.sc.nd, rfl, fun _ => rfl, fun _ => hr, by have := hr.un; exact (by omega : (A.deeper (envOfC qual (defScope st) s.heap.objs.size f cdv)).units + 70 < cLine), hg, tk⟩, passes_of rfl, rfl, rfl, fun _ _ => .inl rfl, T.exc⟩
  refine ⟨_, sound_Ss (fun st' p h => sound_S g cm _ pr.sub m _ X _ k st' p C h) _ _ D.cp, ι, S, startI d ivs, rl, start_ok rv D.ns, ?_⟩
  cases e : evSs (mkGam pr (run pr k)) pr.sub d.body (startI d ivs) S with
  | next τ1 S1 =>
    rw [e] at o
    intro ι1 H1 σ1 st1 r1 _
    have st2 := Step.trans rl st0 st1
    obtain ⟨a1, a2, a3⟩ := settle_ok (v := .non) (x := .non) r0 st2 r1 (by simp only [RV])
    exact o ι1 H1 .non a1 a2 (by simp only [RV])
  | ret v S1 =>
    rw [e] at o
    intro ι1 H1 z st1 r1 rz
    have st2 := Step.trans rl st0 st1
    obtain ⟨a1, a2, a3⟩ := settle_ok r0 st2 r1 rz
    exact o ι1 H1 z a1 a2 a3
  | exc cn τ1 S1 =>
    rw [e] at o
    intro ι1 H1 σ1 st1 r1 _ Cn hC
    have st2 := Step.trans rl st0 st1
    obtain ⟨a1, a2, a3⟩ := settle_ok (v := .non) (x := .non) r0 st2 r1 (by simp only [RV])
    exact o ι1 H1 a1 a2 Cn hC
  | brk τ1 S1 => rw [e] at o; exact o.elim
  | cnt τ1 S1 => rw [e] at o; exact o.elim
  | bad => rw [e] at o; exact o.elim
theorem FnG.imp {P : Program} {w : World} {K : PySem.W.Frag} {mg : Str → Option Value} {base : Heap} {k : Nat} {f : Addr} {sp sp' : Sp} (F : FnG P w K mg base k f sp) (h : ∀ vs H Q E, sp' vs H Q E → sp vs H Q E) : FnG P w K mg base k f sp' :=
  ⟨fun A outer s H us vs Q E hr hg e0 r q => F.run A outer s H us vs Q E hr hg e0 r (h _ _ _ _ q)⟩
set_option maxRecDepth 100000 in
theorem def_fn {P : Program} {w : World} {g : GI} {pr : Prg} {K : PySem.W.Frag} {mg : Str → Option Value} {cm : Cm} {base : Heap} {k : Nat} {q x : Str} {d : PD} {f : Addr} {fd : FuncData} {st : Stmt} {N ps : List Str} {qual : Str} {m : Nat}
    (T : Top P g pr K mg cm) (ih : Wd g P w K mg base cm (mkGam pr (run pr k)) k) (hd : pr.defs.lookup q = some d) (D : DefOk g K x d f fd st N ps qual m) : FnG P w K mg base (k + 1) f (spI K cm (run pr (k + 1) q)) := by
  rcases D.bnd with ⟨hnp, hb, hl⟩ | ⟨hnp, ps0, pv, hps, hl, hb⟩
  · refine fn_G D.fn D.sc hb (fun vs H Q E h => ?_) fun cdv A outer s H vs Q E hr hg h => ?_
    · obtain ⟨ι, S, ivs, _, rv, o⟩ := h
      simp only [run, hd, hnp, if_true] at o
      split at o
      · rename_i hl'; rw [rv.length, hl', hl]
      · exact o.elim
    · obtain ⟨ι, S, ivs, rl, rv, o⟩ := h
      simp only [run, hd, hnp, if_true] at o
      split at o
      · exact body_ok T ih D hr hg rl rv rl Step.refl o
      · exact o.elim
  · have hS := D.sc
    rw [hps] at hS
    refine FnG.imp (fn_GS (sp := fun vs H Q E => ∃ ι S ivs H0, Rel K cm ι S H ∧ RVs K ι S.length H ivs vs ∧ Rel K cm ι S H0 ∧ Step ι S H0 ι S H ∧ OutC K cm ι S H0 ((evSs (mkGam pr (run pr k)) pr.sub d.body (startI d ivs) S).done S) Q E) D.fn hS hb fun cdv A outer s H vs Q E hr hg h => ?_) fun vs H Q E h => ?_
    · obtain ⟨ι, S, ivs, H0, rl, rv, r0, st0, o⟩ := h
      exact body_ok T ih D hr hg rl rv r0 st0 o
    · obtain ⟨ι, S, ivs, rl, rv, o⟩ := h
      have hnp' : ¬ d.np < 1000 := by omega
      simp only [run, hd, hnp', if_false] at o
      split at o
      · rename_i hz
        rw [Bool.and_eq_true, decide_eq_true_eq] at hz
        have hlen := rv.length
        have hz2 := sz_le hz.2
        refine ⟨vs.take (d.np - 1000), vs.drop (d.np - 1000), (List.take_append_drop _ _).symm, by rw [List.length_take, hl]; omega, by rw [List.length_drop]; omega, fun p ob hp hob => ?_⟩
        obtain ⟨r1, st1⟩ := rl.upd_new (o := .frz ob (.tup (vs.drop (d.np - 1000)))) hp
        refine ⟨ι, S, pack (d.np - 1000) ivs, H, r1, ?_, rl, st1, o⟩
        unfold pack
        refine ((rv.take _).step rl st1).append (.cons ?_ .nil)
        simp only [RV]
        exact ⟨p, _, rfl, .inl ⟨ob, hob, upd_same⟩, (rv.drop _).step rl st1⟩
      · exact o.elim
/-- a def with the cell of its class, by its body where its own code stands -/
theorem fn_U {P : Program} {w : World} {K : PySem.W.Frag} {mg : Str → Option Value} {base : Heap} {k : Nat} {x qual : Str} {st : Stmt} {f cc cd DA : Addr} {N ps : List Str} {sp : Sp} {oc loc : Value} {od lod : Option Addr} {osl losl : Array (Option Value)} {kV doc pm ct : Value} {an : Option Addr}
    (lk : K.lookup f = some ⟨oc, od, .func (PySem.W.fnX x qual (defArgs st) (defBody st) (defScope st) [("__class__", cc)] .none kV doc pm an (.ref cd) ct), osl⟩) (hcd : PySem.W.codeIn K (.ref cd) qual = true) (hb : Binds K (PySem.W.fnX x qual (defArgs st) (defBody st) (defScope st) [("__class__", cc)] .none kV doc pm an (.ref cd) ct) ps [])
    (lcc : K.lookup cc = some ⟨loc, lod, .cell (some (.ref DA)), losl⟩) (S : UScope N ps (defScope st)) (len : ∀ vs H Q E, sp vs H Q E → vs.length = ps.length)
    (hbody : ∀ (A : Around) (outer : List Env) (s : Shared) (H : Hp) (vs : List V) (Q : VK) (E : XK), Room (2 * k + 2) (A.deeper (envU qual (defScope st) f cd s.heap.objs.size cc)) → A.guards = some [] → sp vs H Q E →
      ∀ s1, Inv (ucx (L2.CX P w) P w K mg base N qual (defScope st) f cd cc A outer s H E) [] (L2.start N vs) H s1 →
        _root_.PySem.wpAt (model P w) (A.deeper (envU qual (defScope st) f cd s.heap.objs.size cc)) (.func (defBody st) (envU qual (defScope st) f cd s.heap.objs.size cc)) (execs (defBody st) (envU qual (defScope st) f cd s.heap.objs.size cc))
          (SP (ucx (L2.CX P w) P w K mg base N qual (defScope st) f cd cc A outer s H E) [] { nx := fun _ H' => Q .non H', rt := Q }) (ucx (L2.CX P w) P w K mg base N qual (defScope st) f cd cc A outer s H E).xe s1) :
    FnG P w K mg base (k + 1) f sp := by
  constructor
  intro A outer s H us vs Q E hr hg e0 r hsp
  have hl := len _ _ _ _ hsp
  have stays : ∀ b o, base.get? b = some o → s.heap.get? b = some o := fun b o e => (e0.bs b o e).1
  have KX := e0.mod.kin.keeps stays
  have lim := e0.mod.nolimit.keeps stays
  have hul : us.length = ps.length := by rw [← r.length]; exact hl
  have bnd := hb s us KX (by rw [List.append_nil]; exact hul)
  rw [List.append_nil] at bnd
  have kinds : ∀ y ∈ ps.zip us, (defScope st).names.lookup y.1 = some .local ∨ ((defScope st).names.lookup y.1 = some .cell ∧ ((cellsFrom (s.heap.objs.size + 1) (defScope st).names []).lookup y.1).isSome = true) := by
    rintro ⟨n, v⟩ hy
    rcases S.par n (List.of_mem_zip hy).1 with q | q
    · exact Or.inl q
    · exact Or.inr ⟨q, PySem.W.cellsFrom_some _ _ _ (Or.inl q)⟩
  refine codeAny_call_function hr.depth (KX _ _ lk) rfl S.co S.gen rfl (PySem.W.codeRec_of KX hcd) (bnd _ _ _ _ ?_)
  refine newEnvU S.kind kinds fun env he s1 xx => ?_
  subst he
  refine ⟨lim.keeps xx.toInCall.keep, ?_⟩
  show codeAny _ _ (.func (defBody st) (envU qual (defScope st) f cd s.heap.objs.size cc)) _ _
  refine ks_codeAny_funcAt ?_
  have I : Inv (ucx (L2.CX P w) P w K mg base N qual (defScope st) f cd cc A outer s H E) [] (L2.start N vs) H s1 := inv_startU S hr.hd e0 hl r lcc xx
  refine ks_wpAt_mono (hbody A outer s H vs Q E (hr.deeper _) hg hsp _ I) (fun fl s' hs => ?_) fun e s' hs => hs
  match fl, hs with
  | .ret u, ⟨v, σ', H', J, rv, q⟩ => exact ⟨v, H', J.os, J.bare, J.base, J.hok, rv, q⟩
  | .next, ⟨σ', H', J, q⟩ => exact ⟨V.non, H', J.os, J.bare, J.base, J.hok, rfl, q⟩
  | .brk, ⟨_, _, _, q⟩ => exact q.elim
  | .cont, ⟨_, _, _, q⟩ => exact q.elim
theorem def_fnU {P : Program} {w : World} {g : GI} {pr : Prg} {K : PySem.W.Frag} {mg : Str → Option Value} {cm : Cm} {base : Heap} {k : Nat} {q x : Str} {d : PD} {f : Addr} {st : Stmt} {N ps : List Str} {qual : Str} {m : Nat} {Dn : Str}
    (T : Top P g pr K mg cm) (ih : Wd g P w K mg base cm (mkGam pr (run pr k)) k) (hd : pr.defs.lookup q = some d) (D : DefU P g K mg cm pr.sup x d f st N ps qual m Dn) : FnG P w K mg base (k + 1) f (spI K cm (run pr (k + 1) q)) := by
  obtain ⟨oc, od, osl, kV, doc, pm, an, cdv, ct, cc, lk, hcd, hb, ⟨cd, coc, cod, vs0, cosl, file, tf, rfl, lcd, hvs, hfile⟩, DA, loc, lod, losl, cdD, lcc, hD, hsup⟩ := D.fn
  obtain ⟨ar, hp, hN0, hka⟩ := D.self
  refine fn_U lk hcd hb lcc D.sc (fun vs H Q E h => ?_) fun A outer s H vs Q E hr hg h s1 I => ?_
  · obtain ⟨ι, S, ivs, _, rv, o⟩ := h
    simp only [run, hd, D.np.1, if_true] at o
    split at o
    · rename_i hl'; rw [rv.length, hl', D.np.2]
    · exact o.elim
  · obtain ⟨ι, S, ivs, rl, rv, o⟩ := h
    simp only [run, hd, D.np.1, if_true] at o
    split at o
    · rename_i hl'
      let X := ucx (L2.CX P w) P w K mg base N qual (defScope st) f cd cc A outer s H E
      have tk : Takes X (fun cls d _ H' => E cls d H') := takes_of rfl rfl rfl rfl
      have C : CxS g ⟨N, defScope st, false⟩ cm (mkGam pr (run pr k)) pr.sub X (fun cls d _ H' => E cls d H') k :=
        ⟨⟨ih, rfl, D.sc.nd, rfl, fun _ => rfl, fun _ => hr, by
          have := hr.un
          show (A.deeper (envU qual (defScope st) f cd s.heap.objs.size cc)).units + 70 < cLine
          omega, hg, tk⟩, passes_of rfl, rfl, rfl, fun y hy => hy.elim .inr fun z => .inl (by show decide (y ≠ ("__class__" : Str)) = true; rw [decide_eq_true_eq]; exact D.sc.own _ (PySem.mem_of_lookup z) rfl), T.exc⟩
      have Z : SupX X cm pr.sup Dn := ⟨⟨f, oc, od, _, osl, ar, rfl, lk, hp, hN0, hka⟩, ⟨cd, coc, cod, vs0, cosl, file, tf, rfl, lcd, hvs, hfile⟩, D.top, D.mgs, D.any, ⟨cc, DA, loc, lod, losl, cdD, uCl_cls D.sc.own, lcc, hD, hsup⟩⟩
      refine sound_Us (n := m) C rfl Z _ _ [] s1 _ H _ D.cp I ⟨ι, S, startI d ivs, rl, start_ok rv D.ns, ?_⟩
      cases e : evSs (mkGam pr (run pr k)) pr.sub d.body (startI d ivs) S with
      | next τ1 S1 =>
        rw [e] at o
        intro ι1 H1 σ1 st1 r1 _
        obtain ⟨a1, a2, a3⟩ := settle_ok (v := .non) (x := .non) rl st1 r1 (by simp only [RV])
        exact o ι1 H1 .non a1 a2 (by simp only [RV])
      | ret v S1 =>
        rw [e] at o
        intro ι1 H1 z st1 r1 rz
        obtain ⟨a1, a2, a3⟩ := settle_ok rl st1 r1 rz
        exact o ι1 H1 z a1 a2 a3
      | exc cn τ1 S1 =>
        rw [e] at o
        intro ι1 H1 σ1 st1 r1 _ Cn hC
        obtain ⟨a1, a2, a3⟩ := settle_ok (v := .non) (x := .non) rl st1 r1 (by simp only [RV])
        exact o ι1 H1 a1 a2 Cn hC
      | brk τ1 S1 => rw [e] at o; exact o.elim
      | cnt τ1 S1 => rw [e] at o; exact o.elim
      | bad => rw [e] at o; exact o.elim
    · exact o.elim
theorem all_defs {P : Program} {w : World} {g : GI} {pr : Prg} {K : PySem.W.Frag} {mg : Str → Option Value} {cm : Cm} (T : Top P g pr K mg cm) (base : Heap) : ∀ k : Nat, Wd g P w K mg base cm (mkGam pr (run pr k)) k := by
  intro k
  have key : ∀ q f, cm.fn q = some f → FnG P w K mg base k f (spI K cm (run pr k q)) := by
    induction k with
    | zero =>
      intro q f hq
      refine ⟨fun A outer s H us vs Q E hr hg e0 r h => ?_⟩
      obtain ⟨ι, S, ivs, _, _, o⟩ := h
      simp only [run] at o
      exact o.elim
    | succ k ih =>
      intro q f hq
      have W0 : Wd g P w K mg base cm (mkGam pr (run pr k)) k := ⟨T.blt, T.cls, T.ins, T.attc, ih, T.glob, fun x hx => by
        obtain ⟨f, h1, h2⟩ := T.top x hx
        exact ⟨f, h2, T.kp h1, ih x f h1⟩, T.dig⟩
      rcases T.fn q f hq with ⟨x', d, fd, st, N, ps, qual, m, hd, D⟩ | ⟨x', d, st, N, ps, qual, m, Dn, hd, D⟩
      · exact def_fn T W0 hd D
      · exact def_fnU T W0 hd D
  exact ⟨T.blt, T.cls, T.ins, T.attc, key, T.glob, fun x hx => by
    obtain ⟨f, h1, h2⟩ := T.top x hx
    exact ⟨f, h2, T.kp h1, key x f h1⟩, T.dig⟩
end Wg
/-! WgT: the end of a law. -/
namespace Wg
open PySem PySem.Spec PyProof.Rows L2
/-- no list stands in the written part -/
def noLst (K : PySem.W.Frag) : Bool := K.all fun p => match p.2.cls with
  | .type n => !(n == "list")
  | _ => true
theorem noLst_at {K : PySem.W.Frag} (h : noLst K = true) {a : Addr} {o : Obj} (e : K.lookup a = some o) : o.cls ≠ .type "list" := by
  intro z
  have hm : (a, o) ∈ K := by
    revert e
    induction K with
    | nil => intro e; simp at e
    | cons p r ih =>
      intro e
      rw [List.lookup_cons] at e
      cases q : a == p.1 with
      | true => rw [q] at e; simp only [Option.some.injEq] at e; have : a = p.1 := by simpa using q
                subst this; subst e; exact List.mem_cons_self
      | false => rw [q] at e; exact List.mem_cons_of_mem _ (ih (by simp only [noLst, List.all_cons, Bool.and_eq_true] at h; exact h.2) e)
  have := List.all_eq_true.mp h _ hm
  rw [z] at this
  simp at this
section
variable {P : Program} {w : World} {K : PySem.W.Frag} {mg mb : Str → Option Value} {k : Nat} {fa a : Addr} {sp : Sp} {s₁ : Shared} {vs : List Value} {ns : List Int}
theorem law_G (KX : K.In s₁.heap) (hns : s₁.heap.Ns mainGlobals mg) (hb : s₁.heap.Ns builtinsNs mb) (hbb : ∀ x : Str, x ≠ "__name__" → mb x = bootBuiltins x) (hlim : s₁.heap.NoLimit) (hg : s₁.gens = #[])
    (ha : s₁.heap.get? a = some { cls := .type "list", data := .seq vs.toArray }) (hi : IntsAre vs ns) (hl : ns.length ≤ sizeLine) (nl : noLst K = true) (hr : Room (2 * k + 1) callerA) (F : ∀ base : Heap, FnG P w K mg base k fa sp)
    (hsp : ∀ H : Hp, (∃ o, H a = some (.frz o (.lst (ns.map V.int)))) → (∀ b, b ≠ a → H b = none) → sp [.ref a] H (fun v _ => v = .bl true) fun _ _ _ => False) :
    codeAny (model P w) callerA (.call (.ref fa) ⟨[.ref a], []⟩) (fun r s' => r = .ok (.ret (.bool true)) ∧ OldK s₁.heap s'.heap ∧ s'.os = s₁.os ∧ AllBare s'.gens) s₁ := by
  have hk : K.lookup a = none := by
    cases e : K.lookup a with
    | none => rfl
    | some o =>
      have q := KX a o e
      rw [ha] at q
      cases q
      exact absurd rfl (noLst_at nl e)
  generalize ho : ({ cls := .type "list", data := .seq vs.toArray } : Obj) = ob at ha
  have hob : ob.data = .seq vs.toArray 0 := by rw [← ho]
  -- the script is all that is tracked
  let H : Hp := fun b => if b = a then some (.frz ob (.lst (ns.map V.int))) else none
  have Ha : H a = some (.frz ob (.lst (ns.map V.int))) := if_pos rfl
  have Hn : ∀ b, b ≠ a → H b = none := fun b h => if_neg h
  have rv := vals_ints hi
  have hok : HOk P w H s₁.heap := fun b u e => by
    by_cases h : b = a
    · subst h
      rw [Ha] at e; cases e
      refine ⟨ha, by rw [List.length_map]; exact hl, vs, 0, rv, ?_⟩
      rw [ha, ← ho]
    · rw [Hn b h] at e; cases e
  have up : ∀ {b : Addr} {o : Obj}, s₁.heap.get? b = some o → b ≠ a → (hidT s₁.heap H).get? b = some o := fun e h => hidT_get e (Hn _ h)
  have nsUp : ∀ {b : Addr} {m : Str → Option Value}, s₁.heap.Ns b m → (hidT s₁.heap H).Ns b m := by
    rintro b m ⟨o, es, ep, e, d, r⟩
    refine ⟨o, es, ep, up e ?_, d, r⟩
    rintro rfl
    rw [ha] at e; cases e
    rw [hob] at d; cases d
  have hKb : K.In (hidT s₁.heap H) := fun b o e => up (KX b o e) (by rintro rfl; rw [hk] at e; cases e)
  have hM : Mod K mg (hidT s₁.heap H) := by
    obtain ⟨mc, l1, l2⟩ := hlim
    exact ⟨hKb, nsUp hns, ⟨mb, nsUp hb, hbb⟩, mc, nsUp l1, l2⟩
  have e0 : Env0 P w K mg (hidT s₁.heap H) callerA [] s₁ H :=
    ⟨rfl, hM, fun b o e => of_hidT e, Nat.le_of_eq (hidT_size _ _), trivial, fun b z => (by cases z), hok, AllBare.of_eq hg⟩
  have key := (F (hidT s₁.heap H)).run callerA [] s₁ H [.ref a] [.ref a] _ _ hr rfl e0 (.cons rfl .nil) (hsp H ⟨_, Ha⟩ Hn)
  refine codeAny_mono key fun r s' h => ?_
  match r, h with
  | .error e, h =>
    obtain ⟨_, _, _, _, _, _, _, _, _, _, _, _, z⟩ := h
    exact z.elim
  | .ok (.ret u), ⟨v, H', os, bare, un, hok', r', q⟩ =>
    obtain rfl : v = .bl true := q
    obtain rfl : u = Value.bool true := r'
    refine ⟨rfl, OldK.of_keep fun b o e => ?_, os, bare⟩
    by_cases h : b = a
    · subst h
      have z2 := un.frzs b _ _ Ha
      obtain ⟨e2, _⟩ := hok' b _ z2
      rw [ha] at e; cases e
      exact e2
    · exact un.keep b o e (Hn b h) (by intro z; cases z) (by intro z; cases z)
end
end Wg
namespace Wg
open PySem PySem.Spec PyProof.Rows L2
theorem all_nil {α : Type} {p : α → Prop} : ∀ x ∈ ([] : List α), p x := fun _ h => by cases h
theorem all_cons {α : Type} {p : α → Prop} {a : α} {l : List α} (h : p a) (t : ∀ x ∈ l, p x) : ∀ x ∈ a :: l, p x := fun x hx => by
  rcases List.mem_cons.mp hx with rfl | hx
  · exact h
  · exact t x hx
end Wg
/-! WnA: a law's head by one run: the facts are read off the heap by a Hook. -/
namespace Wg
open PySem PySem.Spec PyProof.Rows L2 StX ClX
/-! ### where things stand -/
inductive HPath where
  | top (x : Str) | meth (c m : Str) | getter (c m : Str) | setter (c m : Str) | cmeth (c m : Str)
def recAt (K : PySem.W.Frag) (p : Addr) (T : String) (i : Nat) : Addr := match PySem.W.recIn K p T with
  | some vs => match vs[i]? with
    | some (.ref a) => a
    | _ => 0
  | none => 0
def cmAt (K : PySem.W.Frag) (C : Addr) (m : Str) : Addr := match PySem.W.findCls K (.ref C) (.type "type") m with
  | some (.get _ (.ref p) _ _) => p
  | _ => 0
def HPath.adr (K : PySem.W.Frag) : HPath → Addr
  | .top x => He.ga K x
  | .meth c m => He.ma K (He.ga K c) m
  | .getter c m => recAt K (He.ma K (He.ga K c) m) "property" 0
  | .setter c m => recAt K (He.ma K (He.ga K c) m) "property" 1
  | .cmeth c m => recAt K (cmAt K (He.ga K c) m) "classmethod" 0
/-- a def: its key, where it stands, name, qualified name, statement, local names, parameters -/
structure HDef where
  q : Str
  at_ : HPath
  x : Str
  qual : Str
  st : Stmt
  N : List Str
  ps : List Str
  own : Option Str := none
abbrev HDef.adr (K : PySem.W.Frag) (d : HDef) : Addr := d.at_.adr K
/-! ### what is read off -/
abbrev HV : Type := Option (Str × Str × Arguments × FuncBody × Scope × Addr × List Str × Value × Addr)
def hvOf (K : PySem.W.Frag) (a : Addr) : HV := match K.lookup a with
  | some ⟨_, _, .func fd, _⟩ => some (fd.name, fd.qualname, fd.params, fd.body, fd.scope, fd.globals, fd.closure.map (·.1), fd.defaults, fd.builtins)
  | _ => none
def HDef.val (d : HDef) : HV := some (d.x, d.qual, defArgs d.st, .stmts (defBody d.st), defScope d.st, mainGlobals, (match d.own with | none => [] | some _ => ["__class__"]), .none, builtinsNs)
def eqV (a b : Option (Option Value)) : Bool := He.eqO a b
def isRef (o : Option (Option Value)) (a : Addr) : Bool := match o with
  | some (some (.ref b)) => Nat.beq b a
  | _ => false
theorem isRef_ok {o : Option (Option Value)} {a : Addr} (h : isRef o a = true) : o = some (some (.ref a)) := by
  unfold isRef at h
  split at h
  · rw [Nat.eq_of_beq_eq_true h]
  · cases h
def isBlt (o : Option (Option Value)) (s : String) : Bool := match o with
  | some (some (.builtin t)) => decide (t = s)
  | _ => false
theorem isBlt_ok {o : Option (Option Value)} {s : String} (h : isBlt o s = true) : o = some (some (.builtin s)) := by
  unfold isBlt at h
  split at h
  · rw [of_decide_eq_true h]
  · cases h
def isNone (o : Option (Option Value)) : Bool := match o with
  | some none => true
  | _ => false
theorem isNone_ok {o : Option (Option Value)} (h : isNone o = true) : o = some none := by
  unfold isNone at h
  split at h
  · rfl
  · cases h
def isB (o : Option Bool) (b : Bool) : Bool := match o with
  | some c => c == b
  | none => false
theorem isB_ok {o : Option Bool} {b : Bool} (h : isB o b = true) : o = some b := by
  unfold isB at h
  split at h
  · rw [eq_of_beq h]
  · cases h
def codeB (K : PySem.W.Frag) (a : Addr) (q : Str) : Bool := match K.lookup a with
  | some ⟨_, _, .func fd, _⟩ => PySem.W.codeIn K fd.code q
  | _ => false
/-- a constant as it stands -/
def litB (v : IV) (u : Value) : Bool := match v, u with
  | .int i, .int j _ => decide (i = j)
  | .str x, .str y _ => decide (x = y)
  | _, _ => false
theorem litB_ok {v : IV} {u : Value} (h : litB v u = true) : ∃ z, RelV z u ∧ ∀ K ι n H, RV K ι n H v z := by
  unfold litB at h
  split at h
  · rename_i i j t
    exact ⟨.int i, ⟨t, by rw [of_decide_eq_true h]⟩, fun K ι n H => by simp only [RV]⟩
  · rename_i i j t
    exact ⟨.str i, ⟨t, by rw [of_decide_eq_true h]⟩, fun K ι n H => by simp only [RV]⟩
  · cases h
def globB (K : PySem.W.Frag) (x : Str) (o : Option IV) : Bool := match o with
  | none => true
  | some v => match PySem.W.nsIn K mainGlobals x with
    | some (some u) => litB v u
    | _ => false
def excB (g : GI) (sub : Str → Str → Bool) (K : PySem.W.Frag) (x : Str) : Bool :=
  isRef (PySem.W.nsIn K mainGlobals x) (He.ga K x) && (He.Fa.exc x).ok K && g.exc.all fun y => isB (PySem.W.exmOne K (.ref (He.ga K x)) (.ref (He.ga K y))) (sub x y)
/-- what isinstance says of a caught exception -/
def esB (g : GI) (K : PySem.W.Frag) (p : Str × List Str) : Bool :=
  decide (p.1 ∈ g.exc) && (isBlt (PySem.W.findIn K (.ref (He.ga K p.1)) "__getattribute__") "BaseException.__getattribute__" && (isNone (PySem.W.findIn K (.ref (He.ga K p.1)) "__getattr__") && (isB (PySem.W.subIn K (.ref (He.ga K p.1)) (.type "BaseException")) true &&
  (PySem.W.hasDictIn K (He.ga K p.1) && (isBlt (PySem.W.findIn K (.ref (He.ga K p.1)) "__class__") "object.__class__" && (isBlt (PySem.W.specialIn K (.builtin "object.__class__") "__get__") "getset_descriptor.__get__" && (isB (PySem.W.takesIn K (.builtin "object.__class__")) true &&
  (isB (PySem.W.mroIn K (He.ga K p.1) (.type "object")) true && ((g.exc.all fun y => isB (PySem.W.kitOne K (.ref (He.ga K p.1)) (.ref (He.ga K y))) (p.2.contains y)) && isB (PySem.W.kitOne K (.ref (He.ga K p.1)) (.type "ValueError")) (p.2.contains "ValueError"))))))))))
def adrOf (hs : List HDef) (K : PySem.W.Frag) (q : Str) : Option Addr := match hs.find? fun d => decide (d.q = q) with
  | some d => some (d.adr K)
  | none => none
def isSome' (o : Option Addr) (a : Addr) : Bool := match o with
  | some b => Nat.beq b a
  | none => false
theorem isSome'_ok {o : Option Addr} {a : Addr} (h : isSome' o a = true) : o = some a := by
  unfold isSome' at h
  split at h
  · rw [Nat.eq_of_beq_eq_true h]
  · cases h
def crB (K : PySem.W.Frag) (C : Addr) : Bool := PySem.W.readsIn K C (.type "type") && isBlt (PySem.W.specialIn K (.ref C) "__getattribute__") "type.__getattribute__"
def isGet (o : Option PySem.W.CFound) (p C : Addr) : Bool := match o with
  | some (.get (.builtin s) (.ref a) .none (.ref b)) => decide (s = "classmethod.__get__") && (Nat.beq a p && Nat.beq b C)
  | _ => false
theorem isGet_ok {o : Option PySem.W.CFound} {p C : Addr} (h : isGet o p C = true) : o = some (.get (.builtin "classmethod.__get__") (.ref p) .none (.ref C)) := by
  unfold isGet at h
  split at h
  · simp only [Bool.and_eq_true, decide_eq_true_eq] at h
    rw [h.1, Nat.eq_of_beq_eq_true h.2.1, Nat.eq_of_beq_eq_true h.2.2]
  · cases h
def recB (K : PySem.W.Frag) (p : Addr) (T : String) (a : Addr) : Bool := match PySem.W.recIn K p T with
  | some (.ref b :: _) => Nat.beq b a
  | _ => false
theorem recB_ok {K : PySem.W.Frag} {p a : Addr} {T : String} (h : recB K p T a = true) : ∃ r, PySem.W.recIn K p T = some (.ref a :: r) := by
  unfold recB at h
  split at h
  · rename_i b r e
    exact ⟨r, by rw [e, Nat.eq_of_beq_eq_true h]⟩
  · cases h
def rec2B (K : PySem.W.Frag) (p : Addr) (T : String) (a : Addr) : Bool := match PySem.W.recIn K p T with
  | some (_ :: .ref b :: _) => Nat.beq b a
  | _ => false
theorem rec2B_ok {K : PySem.W.Frag} {p a : Addr} {T : String} (h : rec2B K p T a = true) : ∃ z r, PySem.W.recIn K p T = some (z :: .ref a :: r) := by
  unfold rec2B at h
  split at h
  · rename_i z b r e
    exact ⟨z, r, by rw [e, Nat.eq_of_beq_eq_true h]⟩
  · cases h
def isVal (o : Option PySem.W.CFound) (u : Value) : Bool := match o with
  | some (.val v) => decide (v = u)
  | _ => false
theorem isVal_ok {o : Option PySem.W.CFound} {u : Value} (h : isVal o u = true) : o = some (.val u) := by
  unfold isVal at h
  split at h
  · rw [of_decide_eq_true h]
  · cases h
def isTy (o : Option Value) (s : String) : Bool := match o with
  | some (.type t) => decide (t = s)
  | _ => false
theorem isTy_ok {o : Option Value} {s : String} (h : isTy o s = true) : o = some (.type s) := by
  unfold isTy at h
  split at h
  · rw [of_decide_eq_true h]
  · cases h
/-- what the class has by a name -/
def atB (hs : List HDef) (K : PySem.W.Frag) (C : Addr) (f : Str) : Option At → Bool
  | none => isNone (PySem.W.findIn K (.ref C) f)
  | some (.meth q) => isRef (PySem.W.findIn K (.ref C) f) (He.ma K C f) && (isSome' (adrOf hs K q) (He.ma K C f) && (PySem.W.isFn K (.ref (He.ma K C f)) && PySem.W.keepIn K (.ref (He.ma K C f))))
  | some (.prop gq sq) => isRef (PySem.W.findIn K (.ref C) f) (He.ma K C f) && (isBlt (PySem.W.specialIn K (.ref (He.ma K C f)) "__get__") "property.__get__" && (isB (PySem.W.takesIn K (.ref (He.ma K C f))) true &&
      (recB K (He.ma K C f) "property" (recAt K (He.ma K C f) "property" 0) && (isSome' (adrOf hs K gq) (recAt K (He.ma K C f) "property" 0) && match sq with
        | none => true
        | some q => isSome' (adrOf hs K q) (recAt K (He.ma K C f) "property" 1) && (isRef (PySem.W.takerIn K C f) (He.ma K C f) && (isTy (PySem.W.typeIn K (.ref (He.ma K C f))) "property" && rec2B K (He.ma K C f) "property" (recAt K (He.ma K C f) "property" 1)))))))
  | some (.con v) => match PySem.W.findIn K (.ref C) f with
    | some (some u) => litB v u && (isNone (PySem.W.specialIn K u "__get__") && (!PySem.W.copiedNames.contains f && (crB K C && isVal (PySem.W.findCls K (.ref C) (.type "type") f) u)))
    | _ => false
  | some (.cmeth q) => isSome' (adrOf hs K q) (recAt K (cmAt K C f) "classmethod" 0) && (crB K C && (isGet (PySem.W.findCls K (.ref C) (.type "type") f) (cmAt K C f) C && (recB K (cmAt K C f) "classmethod" (recAt K (cmAt K C f) "classmethod" 0) && PySem.W.fnIn K (recAt K (cmAt K C f) "classmethod" 0))))
def initB (hs : List HDef) (K : PySem.W.Frag) (C : Addr) : Option At → Bool
  | some (.meth q) => isSome' (adrOf hs K q) (He.ma K C "__init__") && (PySem.W.makesIn K C && (isRef (PySem.W.findIn K (.ref C) "__init__") (He.ma K C "__init__") && (PySem.W.isFn K (.ref (He.ma K C "__init__")) && PySem.W.keepIn K (.ref C))))
  | _ => true
def clsB (g : GI) (pr : Prg) (hs : List HDef) (K : PySem.W.Frag) (c : Str) : Bool :=
  isRef (PySem.W.nsIn K mainGlobals c) (He.ga K c) && (PySem.W.plainGet K (He.ga K c) Str.empty && (PySem.W.hasDictIn K (He.ga K c) && (PySem.W.plainOver K (He.ga K c) && (isBlt (PySem.W.findIn K (.ref (He.ga K c)) "__setattr__") "object.__setattr__" &&
  (isBlt (PySem.W.findIn K (.ref (He.ga K c)) "__class__") "object.__class__" && (isB (PySem.W.mroIn K (He.ga K c) (.type "object")) true && (isBlt (PySem.W.findIn K (.ref (He.ga K c)) "__eq__") "object.__eq__" &&
  (isBlt (PySem.W.findIn K (.ref (He.ga K c)) "__ne__") "object.__ne__" && ((baseTys.all fun t => isB (PySem.W.kitOne K (.type t) (.ref (He.ga K c))) false) && ((g.cls.all fun d => isB (PySem.W.kitOne K (.ref (He.ga K d)) (.ref (He.ga K c))) (pr.isub d c)) &&
  (initB hs K (He.ga K c) (pr.att c "__init__") && g.atts.all fun f => atB hs K (He.ga K c) f (pr.att c f))))))))))))
/-! a def with the cell of its class -/
def cellB (K : PySem.W.Frag) (cc DA : Addr) : Bool := match K.lookup cc with
  | some ⟨_, _, .cell (some (.ref a)), _⟩ => Nat.beq a DA
  | _ => false
theorem cellB_ok {K : PySem.W.Frag} {cc DA : Addr} (h : cellB K cc DA = true) : ∃ oc od sl, K.lookup cc = some ⟨oc, od, .cell (some (.ref DA)), sl⟩ := by
  unfold cellB at h
  split at h
  · rename_i oc od a sl e
    rw [Nat.eq_of_beq_eq_true h] at e
    exact ⟨oc, od, sl, e⟩
  · cases h
def fileB (K : PySem.W.Frag) (cdv : Value) (file : Str) : Bool := match cdv with
  | .ref c => match K.lookup c with
    | some ⟨_, _, .fields vs, _⟩ => match vs[2]? with
      | some (Value.str f _) => decide (f = file)
      | _ => false
    | _ => false
  | _ => false
theorem fileB_ok {K : PySem.W.Frag} {cdv : Value} {file : Str} (h : fileB K cdv file = true) : ∃ (cd : Addr) (coc : Value) (cod : Option Addr) (vs : Array Value) (cosl : Array (Option Value)) (tf : Tok), cdv = .ref cd ∧ K.lookup cd = some ⟨coc, cod, .fields vs, cosl⟩ ∧ vs[2]? = some (.str file tf) := by
  unfold fileB at h
  split at h
  · rename_i c
    split at h
    · rename_i oc od vs sl e
      split at h
      · rename_i f t e2
        rw [of_decide_eq_true h] at e2
        exact ⟨c, oc, od, vs, sl, t, rfl, e, e2⟩
      · cases h
    · cases h
  · cases h
def supB (pr : Prg) (hs : List HDef) (K : PySem.W.Frag) (D C m : Str) : Bool := match pr.sup D C m with
  | none => true
  | some q => match adrOf hs K q with
    | some f => isRef (PySem.W.ks_superIn K (He.ga K C) (He.ga K D) m) f && (isTy (PySem.W.typeIn K (.ref f)) "function" && (PySem.W.fnIn K f && isB (PySem.W.mroIn K (He.ga K C) (.ref (He.ga K D))) true))
    | none => false
def ownB (g : GI) (pr : Prg) (hs : List HDef) (K : PySem.W.Frag) (a : Addr) : Option Str → Bool
  | none => true
  | some D => (match K.lookup a with
    | some ⟨_, _, .func fd, _⟩ => (match fd.closure with
      | [(_, cc)] => cellB K cc (He.ga K D)
      | _ => false) && fileB K fd.code g.file
    | _ => false) && ((PySem.W.clsIn K (He.ga K D)).isSome && (isNone (PySem.W.nsIn K cStatics "thirdparty.any") && (isNone (PySem.W.nsIn K mainGlobals "super") && g.cls.all fun C => g.sups.all fun m => supB pr hs K D C m)))
def topB (g : GI) (pr : Prg) (hs : List HDef) (K : PySem.W.Frag) : Bool :=
  (noLst K && isNone (PySem.W.nsIn K cStatics "sys.int_max_str_digits")) && ((g.blt.all fun x => isNone (PySem.W.nsIn K mainGlobals x)) && ((g.glob.all fun x => globB K x (pr.glob.lookup x)) && (((g.exc.all fun x => excB g pr.sub K x) && g.esup.all fun p => esB g K p) &&
  ((hs.all fun d => codeB K (d.adr K) d.qual && (PySem.W.keepIn K (.ref (d.adr K)) && ownB g pr hs K (d.adr K) d.own)) && ((g.defs.all fun x => match adrOf hs K x with
    | some a => isRef (PySem.W.nsIn K mainGlobals x) a
    | none => false) && ((g.cls.isEmpty || (isBlt (PySem.W.specialIn K (.builtin "object.__class__") "__get__") "getset_descriptor.__get__" && isB (PySem.W.takesIn K (.builtin "object.__class__")) true)) && g.cls.all fun c => clsB g pr hs K c))))))
/-! ### what it says -/
structure DefS (g : GI) (d : HDef) (p : PD) : Prop where
  own : d.own = none
  sc : FnScope d.N d.ps (defScope d.st)
  ns : d.N.length = p.ns
  cp : optAll (cpS g 60 ⟨d.N, defScope d.st, false⟩) (defBody d.st) = some p.body
  bnd : ∀ (K : PySem.W.Frag) (kV doc pm : Value) (an : Option Addr) (cdv ct : Value), BindOk K (PySem.W.fnOf d.x d.qual (defArgs d.st) (defBody d.st) (defScope d.st) .none kV doc pm an cdv ct) d.ps p
/-- a def of the class D with its cell -/
structure DefV (P : Program) (g : GI) (d : HDef) (p : PD) (D : Str) : Prop where
  own : d.own = some D
  sc : UScope d.N d.ps (defScope d.st)
  np : p.np < 1000 ∧ d.ps.length = p.np
  ns : d.N.length = p.ns
  self : ∃ ar : Arg, ((defArgs d.st).posonlyargs ++ (defArgs d.st).args).head? = some ar ∧ d.N[0]? = some ar.arg ∧ ((defScope d.st).names.lookup ar.arg = some .local ∨ (defScope d.st).names.lookup ar.arg = some .cell)
  cp : optAll (cpU g 60 ⟨d.N, defScope d.st, false⟩ D) (defBody d.st) = some p.body
  bnd : ∀ (K : PySem.W.Frag) (cl : List (Str × Addr)) (kV doc pm : Value) (an : Option Addr) (cdv ct : Value), Binds K (PySem.W.fnX d.x d.qual (defArgs d.st) (defBody d.st) (defScope d.st) cl .none kV doc pm an cdv ct) d.ps []
  file : ((P.main.file : Str) == g.file) = true
  top : (P.main.scope.names.lookup ("super" : Str)).isSome = false
theorem hv_ok {K : PySem.W.Frag} {a : Addr} {d : HDef} (ho : d.own = none) (e : hvOf K a = d.val) (c : codeB K a d.qual = true) :
    ∃ oc od osl kV doc pm an cdv ct, K.lookup a = some ⟨oc, od, .func (PySem.W.fnOf d.x d.qual (defArgs d.st) (defBody d.st) (defScope d.st) .none kV doc pm an cdv ct), osl⟩ ∧ PySem.W.codeIn K cdv d.qual = true := by
  unfold codeB at c
  unfold hvOf at e
  cases q : K.lookup a with
  | none => rw [q] at c; cases c
  | some o =>
    obtain ⟨oc, od, dt, osl⟩ := o
    rw [q] at c e
    cases dt with
    | func fd =>
      obtain ⟨n1, n2, n3, n4, n5, n6, n7, n8, n9, n10, n11, n12, n13, n14, n15⟩ := fd
      have e2 : (some (n1, n2, n3, n4, n5, n6, n7.map (·.1), n8, n15) : HV) = some (d.x, d.qual, defArgs d.st, .stmts (defBody d.st), defScope d.st, mainGlobals, (match d.own with | none => [] | some _ => ["__class__"]), .none, builtinsNs) := e
      rw [ho] at e2
      simp only [Option.some.injEq, Prod.mk.injEq] at e2
      obtain ⟨h1, h2, h3, h4, h5, h6, h7, h8, h9⟩ := e2
      have h7 := List.map_eq_nil_iff.mp h7
      subst h1 h2 h3 h4 h5 h6 h7 h8 h9
      exact ⟨oc, od, osl, n9, n10, n11, n12, n13, n14, rfl, c⟩
    | _ => cases c
theorem hv_okU {g : GI} {pr : Prg} {hs : List HDef} {K : PySem.W.Frag} {a : Addr} {d : HDef} {D : Str} (ho : d.own = some D) (e : hvOf K a = d.val) (c : codeB K a d.qual = true) (b : ownB g pr hs K a d.own = true) :
    ∃ oc od osl kV doc pm an cdv ct cc, K.lookup a = some ⟨oc, od, .func (PySem.W.fnX d.x d.qual (defArgs d.st) (defBody d.st) (defScope d.st) [("__class__", cc)] .none kV doc pm an cdv ct), osl⟩ ∧ PySem.W.codeIn K cdv d.qual = true ∧ fileB K cdv g.file = true ∧ cellB K cc (He.ga K D) = true ∧
      (PySem.W.clsIn K (He.ga K D)).isSome = true ∧ isNone (PySem.W.nsIn K cStatics "thirdparty.any") = true ∧ isNone (PySem.W.nsIn K mainGlobals "super") = true ∧ (g.cls.all fun C => g.sups.all fun m => supB pr hs K D C m) = true := by
  rw [ho] at b
  simp only [ownB, Bool.and_eq_true] at b
  obtain ⟨b0, b1, b2, b3, b4⟩ := b
  unfold codeB at c
  unfold hvOf at e
  cases q : K.lookup a with
  | none => rw [q] at c; cases c
  | some o =>
    obtain ⟨oc, od, dt, osl⟩ := o
    rw [q] at c e b0
    cases dt with
    | func fd =>
      obtain ⟨n1, n2, n3, n4, n5, n6, n7, n8, n9, n10, n11, n12, n13, n14, n15⟩ := fd
      have e2 : (some (n1, n2, n3, n4, n5, n6, n7.map (·.1), n8, n15) : HV) = some (d.x, d.qual, defArgs d.st, .stmts (defBody d.st), defScope d.st, mainGlobals, (match d.own with | none => [] | some _ => ["__class__"]), .none, builtinsNs) := e
      rw [ho] at e2
      simp only [Option.some.injEq, Prod.mk.injEq] at e2
      obtain ⟨h1, h2, h3, h4, h5, h6, h7, h8, h9⟩ := e2
      match n7, h7, b0 with
      | [(y, cc)], h7, b0 =>
        simp only [List.map_cons, List.map_nil, List.cons.injEq, and_true] at h7
        subst h1 h2 h3 h4 h5 h6 h7 h8 h9
        simp only [Bool.and_eq_true] at b0
        exact ⟨oc, od, osl, n9, n10, n11, n12, n13, n14, cc, rfl, c, b0.2, b0.1, b1, b2, b3, b4⟩
    | _ => cases c
section
variable {g : GI} {pr : Prg} {hs : List HDef} {K : PySem.W.Frag} {h : Heap} {mg : Str → Option Value}
def cmOf (g : GI) (hs : List HDef) (K : PySem.W.Frag) : Cm := ⟨fun x => if x ∈ g.exc then some (He.ga K x) else none, fun c => if c ∈ g.cls then some (He.ga K c) else none, adrOf hs K⟩
theorem atB_ok {C : Addr} {f : Str} {a : Option At} (h : atB hs K C f a = true) : AtOk K (cmOf g hs K) C f a := by
  match a, h with
  | none, h => exact isNone_ok h
  | some (.meth q), h =>
    simp only [atB, Bool.and_eq_true] at h
    exact ⟨_, isSome'_ok h.2.1, ⟨isRef_ok h.1, h.2.2.1, h.2.2.2⟩⟩
  | some (.prop gq sq), h =>
    simp only [atB, Bool.and_eq_true] at h
    obtain ⟨h1, h2, h3, h4, h5, h6⟩ := h
    refine ⟨_, _, isSome'_ok h5, ⟨isRef_ok h1, isBlt_ok h2, isB_ok h3, recB_ok h4⟩, fun q hq => ?_⟩
    subst hq
    simp only [Bool.and_eq_true] at h6
    exact ⟨_, isSome'_ok h6.1, ⟨isRef_ok h6.2.1, isTy_ok h6.2.2.1, rec2B_ok h6.2.2.2⟩⟩
  | some (.con v), h =>
    simp only [atB] at h
    split at h
    · rename_i u e
      simp only [Bool.and_eq_true, Bool.not_eq_true', crB] at h
      obtain ⟨h1, h2, h3, ⟨h4, h5⟩, h6⟩ := h
      obtain ⟨z, rz, rv⟩ := litB_ok h1
      exact ⟨z, u, ⟨e, rz, isNone_ok h2, h3⟩, fun ι n H => rv K ι n H, _, ⟨h4, isBlt_ok h5⟩, ⟨isVal_ok h6, rz⟩⟩
    · cases h
  | some (.cmeth q), h =>
    simp only [atB, Bool.and_eq_true, crB] at h
    obtain ⟨h1, ⟨h2, h3⟩, h4, h5, h6⟩ := h
    exact ⟨_, _, _, isSome'_ok h1, ⟨h2, isBlt_ok h3⟩, ⟨isGet_ok h4, recB_ok h5, h6⟩⟩
theorem top_of {P : Program} (X : K.In h) (G : h.Ns mainGlobals mg) (ok : topB g pr hs K = true) (hv : (hs.map fun d => hvOf K (d.adr K)) = hs.map HDef.val) (hd : ∀ d ∈ hs, ∃ p, pr.defs.lookup d.q = some p ∧ (DefS g d p ∨ ∃ D, DefV P g d p D)) (ha : ∀ c f a, pr.att c f = some a → c ∈ g.cls) (hsu : ∀ D C m q, pr.sup D C m = some q → C ∈ g.cls ∧ m ∈ g.sups) :
    noLst K = true ∧ ∃ cm, Top P g pr K mg cm := by
  simp only [topB, Bool.and_eq_true] at ok
  obtain ⟨⟨o1, o10⟩, o2, o3, ⟨o4, o9⟩, o5, o6, o7, o8⟩ := ok
  refine ⟨o1, cmOf g hs K, ⟨fun x hx => ?_, fun x v hx hv => ?_, ⟨fun x hx => ?_, fun c C d D hc hd hD => ?_, fun c l hl => ?_⟩, fun q f hq => ?_, fun x hx => ?_, fun c hc => ?_, fun c C hC => ?_, ha, isNone_ok o10⟩⟩
  · exact PySem.W.mg_none_of X G (isNone_ok (List.all_eq_true.mp o2 x hx))
  · have := List.all_eq_true.mp o3 x hx
    rw [hv] at this
    simp only [globB] at this
    split at this
    · rename_i u e
      obtain ⟨z, rz, rv⟩ := litB_ok this
      exact ⟨u, z, PySem.W.mg_of X G e, rz, fun ι n H => rv K ι n H⟩
    · cases this
  · have := List.all_eq_true.mp o4 x hx
    simp only [excB, Bool.and_eq_true] at this
    obtain ⟨e1, e2, e3, e4⟩ := He.exc_ok this.1.2
    exact ⟨_, if_pos hx, PySem.W.mg_of X G (isRef_ok this.1.1), e1, e2, e3, e4⟩
  · have hce : c ∈ g.exc := by
      by_cases q : c ∈ g.exc
      · exact q
      · have : (cmOf g hs K) c = none := if_neg q
        rw [this] at hc; cases hc
    have ec : (cmOf g hs K) c = some (He.ga K c) := if_pos hce
    have ed : (cmOf g hs K) d = some (He.ga K d) := if_pos hd
    rw [ec] at hc; rw [ed] at hD
    cases hc; cases hD
    have := List.all_eq_true.mp o4 c hce
    simp only [excB, Bool.and_eq_true] at this
    exact isB_ok (List.all_eq_true.mp this.2 d hd)
  · have z := List.all_eq_true.mp o9 (c, l) hl
    simp only [esB, Bool.and_eq_true, decide_eq_true_eq] at z
    obtain ⟨z0, z1, z2, z3, z4, z5, z6, z7, z8, z9, z10⟩ := z
    refine ⟨He.ga K c, if_pos z0, ⟨isBlt_ok z1, isNone_ok z2, isB_ok z3, z4, isBlt_ok z5, isBlt_ok z6, isB_ok z7, isB_ok z8⟩, fun T hT => ?_, isB_ok z10⟩
    have y := List.all_eq_true.mp o4 T hT
    simp only [excB, Bool.and_eq_true] at y
    exact ⟨_, PySem.W.mg_of X G (isRef_ok y.1.1), isB_ok (List.all_eq_true.mp z9 T hT)⟩
  · have hq' : adrOf hs K q = some f := hq
    unfold adrOf at hq'
    split at hq'
    · rename_i d e
      cases hq'
      have hm := List.mem_of_find?_eq_some e
      have hqq : d.q = q := by have := List.find?_some e; exact of_decide_eq_true this
      obtain ⟨p, hp, D⟩ := hd d hm
      have o5' := List.all_eq_true.mp o5 d hm
      simp only [Bool.and_eq_true] at o5'
      have e2 : hvOf K (d.adr K) = d.val := (List.map_eq_map_iff.mp hv) d hm
      rcases D with D | ⟨Dn, D⟩
      · obtain ⟨oc, od, osl, kV, doc, pm, an, cdv, ct, hl, hc⟩ := hv_ok D.own e2 o5'.1
        subst hqq
        exact .inl ⟨d.x, p, _, d.st, d.N, d.ps, d.qual, 60, hp, ⟨fun_mk hl hc o5'.2.1, D.sc, D.bnd K kV doc pm an cdv ct, D.ns, D.cp⟩⟩
      · obtain ⟨oc, od, osl, kV, doc, pm, an, cdv, ct, cc, hl, hc, hfl, hce, hcl, han, hsp, hal⟩ := hv_okU D.own e2 o5'.1 o5'.2.2
        subst hqq
        obtain ⟨cd, coc, cod, vs, cosl, tf, f1, f2, f3⟩ := fileB_ok hfl
        obtain ⟨c1, c2, c3, c4⟩ := cellB_ok hce
        obtain ⟨cdD, hcd⟩ := Option.isSome_iff_exists.mp hcl
        refine .inr ⟨d.x, p, d.st, d.N, d.ps, d.qual, 60, Dn, hp, ⟨⟨oc, od, osl, kV, doc, pm, an, cdv, ct, cc, hl, hc, D.bnd K _ kV doc pm an cdv ct, ⟨cd, coc, cod, vs, cosl, g.file, tf, f1, f2, f3, D.file⟩, _, c1, c2, c3, cdD, c4, hcd, fun C m q' CA hs' hCA => ?_⟩, o5'.2.1, D.sc, D.np, D.ns, D.self, D.cp, D.top, PySem.W.mg_none_of X G (isNone_ok hsp), isNone_ok han⟩⟩
        obtain ⟨hC, hm'⟩ := hsu Dn C m q' hs'
        have ec : (cmOf g hs K).ins C = some (He.ga K C) := if_pos hC
        rw [ec] at hCA; cases hCA
        have z := List.all_eq_true.mp (List.all_eq_true.mp hal C hC) m hm'
        unfold supB at z
        rw [hs'] at z
        simp only at z
        cases ea : adrOf hs K q' with
        | none => rw [ea] at z; cases z
        | some f =>
          rw [ea] at z
          simp only [Bool.and_eq_true] at z
          exact ⟨f, ea, isRef_ok z.1, isTy_ok z.2.1, z.2.2.1, isB_ok z.2.2.2⟩
    · cases hq'
  · have := List.all_eq_true.mp o6 x hx
    split at this
    · rename_i a e
      exact ⟨a, e, PySem.W.mg_of X G (isRef_ok this)⟩
    · cases this
  · have hb := List.all_eq_true.mp o8 c hc
    simp only [clsB, Bool.and_eq_true] at hb
    obtain ⟨c1, c2, c3, c4, c5, c6, c7, c8, c9, c10, c11, c12, c13⟩ := hb
    have hne : g.cls.isEmpty = false := by
      cases q : g.cls with
      | nil => rw [q] at hc; cases hc
      | cons _ _ => rfl
    rw [hne, Bool.false_or, Bool.and_eq_true] at o7
    refine ⟨_, if_pos hc, ⟨isRef_ok c1, PySem.W.mg_of X G (isRef_ok c1), ⟨c2, c3, c4, isBlt_ok c5⟩, isBlt_ok c6, isBlt_ok o7.1, isB_ok o7.2, isB_ok c7, isBlt_ok c8, isBlt_ok c9, fun t ht => isB_ok (List.all_eq_true.mp c10 t ht), fun d D hD => ?_, fun q hq => ?_, fun f hf => ?_⟩⟩
    · by_cases z : d ∈ g.cls
      · have : (cmOf g hs K).ins d = some (He.ga K d) := if_pos z
        rw [this] at hD; cases hD
        exact isB_ok (List.all_eq_true.mp c11 d z)
      · have : (cmOf g hs K).ins d = none := if_neg z
        rw [this] at hD; cases hD
    · rw [hq] at c12
      simp only [initB, Bool.and_eq_true] at c12
      exact ⟨_, isSome'_ok c12.1, ⟨c12.2.1, isRef_ok c12.2.2.1, c12.2.2.2.1, c12.2.2.2.2⟩⟩
    · exact atB_ok (List.all_eq_true.mp c13 f hf)
  · by_cases z : c ∈ g.cls
    · exact z
    · have : (cmOf g hs K).ins c = none := if_neg z
      rw [this] at hC; cases hC
end
/-! ### the Hook -/
/-- what an object names, as far as the facts want it -/
def refsS (o : Obj) : List Addr := match o.data with
  | .func fd => He.refV fd.code ++ fd.closure.map (·.2)
  | .cls cd => cd.ns :: cd.mro.flatMap He.refV
  | .dict es _ => es.toList.flatMap fun e => He.refV e.val
  | .fields vs => match o.cls with
    | .type t => if t = "property" ∨ t = "classmethod" then vs.toList.flatMap He.refV else []
    | _ => []
  | .cell (some v) => He.refV v
  | _ => []
def memN (a : Nat) : List Nat → Bool
  | [] => false
  | b :: r => match Nat.beq b a with
    | true => true
    | false => memN a r
/-- further addresses, each once -/
def newN : List Nat → List Nat → List Nat → List Nat
  | [], _, acc => acc
  | a :: r, seen, acc => match memN a seen with
    | true => newN r seen acc
    | false => match memN a acc with
      | true => newN r seen acc
      | false => newN r seen (a :: acc)
def frL {α : Type} : List Nat → (List Nat → α) → α
  | [], k => k []
  | a :: r, k => HandSHeadRun.frNat a fun a => frL r fun r => k (a :: r)
def growS (g : Addr → Option Obj) : Nat → List Addr → List Addr → List Addr
  | 0, _, seen => seen
  | n + 1, fr, seen => frL (newN (fr.flatMap fun a => match g a with | some o => refsS o | none => []) seen []) fun nw => growS g n nw (seen ++ nw)
def frag (g : Addr → Option Obj) : PySem.W.Frag := He.frG g (growS g 5 [mainGlobals] [mainGlobals, cStatics])
def frF {α : Type} : List (Addr × Obj) → (List (Addr × Obj) → α) → α
  | [], k => k []
  | p :: r, k => match p with
    | (a, o) => frF r fun r => k ((a, o) :: r)
theorem frF_eq {α : Type} : ∀ (l : List (Addr × Obj)) (k : List (Addr × Obj) → α), frF l k = k l
  | [], _ => rfl
  | (a, o) :: r, k => by show frF r (fun r => k ((a, o) :: r)) = _; rw [frF_eq r]
abbrev HAl : Type := Bool × List HV
def hObs (g : GI) (pr : Prg) (hs : List HDef) (K : PySem.W.Frag) : HAl := (topB g pr hs K, hs.map fun d => hvOf K (d.adr K))
def hVal (hs : List HDef) : HAl := (true, hs.map HDef.val)
def hookH (g : GI) (pr : Prg) (hs : List HDef) : PySem.W.Hook where
  α := HAl
  obs := fun s => frF (frag s.heap.get?) (hObs g pr hs)
  val := fun _ => hVal hs
  says := fun _ h => ∃ K : PySem.W.Frag, K.In h ∧ hObs g pr hs K = hVal hs
  of := fun _ _ e => ⟨_, He.frG_in, by rw [frF_eq] at e; exact e⟩
  keeps := fun _ _ _ ⟨K, hK, c⟩ k => ⟨K, PySem.W.Frag.In.keeps hK k, c⟩
def obH (g : GI) (pr : Prg) (hs : List HDef) (s : PySem.W.SharedT) : HAl := frF (frag (HandSHeadRun.getT s)) (hObs g pr hs)
theorem obH_eq (g : GI) (pr : Prg) (hs : List HDef) (s : PySem.W.SharedT) : obH g pr hs s = (hookH g pr hs).obs s.abs := by
  have e : HandSHeadRun.getT s = s.abs.heap.get? := funext fun a => HandSHeadRun.getT_eq s a
  show frF (frag (HandSHeadRun.getT s)) (hObs g pr hs) = frF (frag s.abs.heap.get?) (hObs g pr hs)
  rw [e]
/-- a law's end over such a head -/
theorem walk_H {l : PySem.W.OpenLaw} {n k : Nat} {q : Program} {loose : List Str} {XP : (Str → Option Value) → Heap → Prop} {d : DefRec} {x : Str} {g : GI} {pr : Prg} {hs : List HDef}
    (hn : l.most = some n) (hn2 : n ≤ sizeLine) (hdf : d.params.defaults = []) (hnm : d.name = x) (hr : Room (2 * k + 1) callerA)
    (hlaw : x ∈ g.defs) (hd : ∀ e ∈ hs, ∃ p, pr.defs.lookup e.q = some p ∧ (DefS g e p ∨ ∃ D, DefV l.prog g e p D)) (ha : ∀ c f a, pr.att c f = some a → c ∈ g.cls) (hsu : ∀ D C m q, pr.sup D C m = some q → C ∈ g.cls ∧ m ∈ g.sups)
    (hrun : ∀ ns : List Int, ns.length ≤ n → (∀ z ∈ ns, Builtin.Int.intBits z ≤ 1048576) → ∃ S', run pr k x [.ref 0] [.frz (ns.map .int)] = .ok (.bl true) S') :
    PySem.W.WalkO q loose XP (hookH g pr hs).says l.row.toRowW d [] (fun f vs => PySem.call f vs) := by
  subst hnm
  refine Att.attach_callB hn hdf fun w s₀ s₁ mg mb fa o pm cd doc a vs ns G Y ho hd' hcd hmg hobj hints hlen hbits hg => ?_
  obtain ⟨K, KX, c⟩ := Y
  obtain ⟨nl, cm, T⟩ := top_of (P := l.prog) (g := g) (pr := pr) (hs := hs) (mg := mg) KX G.T.g (congrArg Prod.fst c) (congrArg Prod.snd c) hd ha hsu
  have FF : ∀ base : Heap, FnG l.prog w K mg base k fa (spI K cm (run pr k d.name)) := fun base => by
    obtain ⟨f, h1, h2, h3⟩ := (all_defs (P := l.prog) (w := w) T base k).fn d.name hlaw
    rw [hmg] at h1; cases h1
    exact h3
  refine law_G KX G.T.g G.T.b G.T.builtins G.T.nolimit hg hobj hints (Nat.le_trans hlen hn2) nl hr FF fun H hH hO => ?_
  obtain ⟨ob, hH⟩ := hH
  obtain ⟨S', e⟩ := hrun ns hlen hbits
  refine ⟨fun _ => a, [.frz (ns.map .int)], [.ref 0], ⟨fun i c hc => ?_, fun i j hi hj _ => by simp at hi hj; omega⟩, .cons (by simp only [RV]; exact ⟨by simp, trivial⟩) .nil, ?_⟩
  · cases i with
    | zero =>
      simp at hc; subst hc
      refine ⟨ob, _, hH, ?_⟩
      have all : ∀ l : List Int, RVs K (fun _ => a) 1 H (l.map .int) (l.map V.int) := by
        intro l
        induction l with
        | nil => exact .nil
        | cons z r ih => exact .cons (by simp only [RV]) ih
      exact all ns
    | succ i => simp at hc
  · rw [e]
    intro ι' H' v st r rv
    simpa only [RV] using rv
end Wg
namespace Lw
open PySem PySem.Spec PyProof.Rows L2 Wg
/-! ### the text -/
def tp (i : Nat) : Stmt := PySem.Challenge.pw_wagerroom_k59_texts_that_are_no_fraction.main.body.getD i (.Pass ⟨0, 0, 0, 0⟩)
def gi : GI := { defs := ["is_integer", "greatest_divisor", "is_valid_fraction", "figures", "number_of", "written", "is_number_text", "parse_fraction", "_law_cell", "_law_fraction", "_law_is_same", "_law_text", "_law_changed", "_law_number", "_law_value", "law"], glob := ["DIGITS", "FIGURES"], blt := ["len", "abs", "str", "int", "tuple", "all", "isinstance", "range", "bool", "ValueError"], exc := ["RoomError", "InvalidFractionError", "InvalidTextError"], cls := [], atts := ["replace"], mets := [], esup := [("InvalidTextError", ["InvalidTextError", "RoomError", "ValueError"])], tdn := [] }
def d_is_integer : PD := ⟨1, 1, [
    .ret (.and (.isi (.loc 0) .int) (.not (.isi (.loc 0) .bool)))]⟩
def lb_greatest_divisor_1 : List Sm := [
      .par 0 1 (.loc 1) (.bin .mod (.loc 0) (.loc 1))]
def d_greatest_divisor : PD := ⟨2, 2, [
    .set (.nm 0) (.blt .abs [(.loc 0)]),
    .set (.nm 1) (.blt .abs [(.loc 1)]),
    .whil (.cmp .gt (.loc 1) (.k (.int 0))) lb_greatest_divisor_1,
    .ret (.loc 0)]⟩
def d_is_valid_fraction : PD := ⟨1, 1, [
    .cond (.or (.not (.isi (.loc 0) .tuple)) (.cmp .ne (.blt .len [(.loc 0)]) (.k (.int 2)))) [
      .ret (.k (.bl false))] [],
    .cond (.or (.not (.call "is_integer" [(.ix (.loc 0) (.k (.int 0)))])) (.or (.not (.call "is_integer" [(.ix (.loc 0) (.k (.int 1)))])) (.cmp .lt (.ix (.loc 0) (.k (.int 1))) (.k (.int 1))))) [
      .ret (.k (.bl false))] [],
    .ret (.cmp .eq (.call "greatest_divisor" [(.ix (.loc 0) (.k (.int 0))), (.ix (.loc 0) (.k (.int 1)))]) (.k (.int 1)))]⟩
def lb_figures_1 : List Sm := [
      .set (.nm 3) (.blt .str [(.bin .mod (.loc 0) (.loc 2))]),
      .set (.nm 1) (.bin .add (.bin .add (.bin .mul (.k (.str "0")) (.bin .sub (.glb "FIGURES") (.blt .len [(.loc 3)]))) (.loc 3)) (.loc 1)),
      .set (.nm 0) (.bin .fdiv (.loc 0) (.loc 2))]
def d_figures : PD := ⟨1, 4, [
    .cond (.cmp .lt (.loc 0) (.k (.int 0))) [
      .ret (.bin .add (.k (.str "-")) (.call "figures" [(.neg (.loc 0))]))] [],
    .par 1 2 (.k (.str "")) (.blt .int [(.bin .add (.k (.str "1")) (.bin .mul (.k (.str "0")) (.glb "FIGURES")))]),
    .whil (.cmp .ge (.loc 0) (.loc 2)) lb_figures_1,
    .ret (.bin .add (.blt .str [(.loc 0)]) (.loc 1))]⟩
def lb_number_of_1 : List Sm := [
      .set (.nm 3) (.bin .add (.bin .mul (.loc 3) (.loc 2)) (.blt .int [(.sl (.loc 1) (some (.loc 4)) (some (.bin .add (.loc 4) (.glb "FIGURES"))))])),
      .set (.nm 4) (.bin .add (.loc 4) (.glb "FIGURES"))]
def d_number_of : PD := ⟨1, 5, [
    .par 1 2 (.smt "removeprefix" (.loc 0) (.k (.str "-"))) (.blt .int [(.bin .add (.k (.str "1")) (.bin .mul (.k (.str "0")) (.glb "FIGURES")))]),
    .par 3 4 (.k (.int 0)) (.bin .mod (.blt .len [(.loc 1)]) (.glb "FIGURES")),
    .cond (.cmp .gt (.loc 4) (.k (.int 0))) [
      .set (.nm 3) (.blt .int [(.sl (.loc 1) none (some (.loc 4)))])] [],
    .whil (.cmp .lt (.loc 4) (.blt .len [(.loc 1)])) lb_number_of_1,
    .ret (.ite (.smt "startswith" (.loc 0) (.k (.str "-"))) (.neg (.loc 3)) (.loc 3))]⟩
def d_written : PD := ⟨1, 1, [
    .ret (.ite (.cmp .eq (.ix (.loc 0) (.k (.int 1))) (.k (.int 1))) (.call "figures" [(.ix (.loc 0) (.k (.int 0)))]) (.fst [(.call "figures" [(.ix (.loc 0) (.k (.int 0)))]), (.k (.str "/")), (.call "figures" [(.ix (.loc 0) (.k (.int 1)))])]))]⟩
def d_is_number_text : PD := ⟨1, 3, [
    .set (.nm 1) (.smt "removeprefix" (.loc 0) (.k (.str "-"))),
    .cond (.or (.cmp .eq (.loc 1) (.k (.str ""))) (.not (.blt .all [(.lc [2] (.nm 2) (.val (.loc 1)) [] (.cmp .isin (.loc 2) (.glb "DIGITS")))]))) [
      .ret (.k (.bl false))] [],
    .ret (.and (.cmp .ne (.loc 0) (.k (.str "-0"))) (.or (.cmp .eq (.loc 1) (.k (.str "0"))) (.cmp .ne (.ix (.loc 1) (.k (.int 0))) (.k (.str "0")))))]⟩
def d_parse_fraction : PD := ⟨1, 4, [
    .cond (.not (.isi (.loc 0) .str)) [
      .raise "InvalidTextError"] [],
    .set (.nm 1) (.smt "split" (.loc 0) (.k (.str "/"))),
    .cond (.or (.cmp .gt (.blt .len [(.loc 1)]) (.k (.int 2))) (.not (.blt .all [(.lc [2] (.nm 2) (.val (.loc 1)) [] (.call "is_number_text" [(.loc 2)]))]))) [
      .raise "InvalidTextError"] [],
    .set (.nm 3) (.tup [(.call "number_of" [(.ix (.loc 1) (.k (.int 0)))]), (.call "number_of" [(.ix (.bin .add (.loc 1) (.lst [(.k (.str "1"))])) (.k (.int 1)))])]),
    .cond (.or (.not (.call "is_valid_fraction" [(.loc 3)])) (.cmp .ne (.call "written" [(.loc 3)]) (.loc 0))) [
      .raise "InvalidTextError"] [],
    .ret (.loc 3)]⟩
def d_l_cell : PD := ⟨2, 2, [
    .cond (.cmp .lt (.loc 1) (.blt .len [(.loc 0)])) [
      .ret (.ix (.loc 0) (.loc 1))] [],
    .ret (.k (.int 0))]⟩
def lb_l_fraction_1 : List Sm := [
      .set (.nm 4) (.bin .mod (.loc 2) (.loc 3)),
      .set (.nm 2) (.loc 3),
      .set (.nm 3) (.loc 4)]
def d_l_fraction : PD := ⟨2, 5, [
    .set (.nm 2) (.blt .abs [(.loc 0)]),
    .set (.nm 3) (.loc 1),
    .whil (.cmp .gt (.loc 3) (.k (.int 0))) lb_l_fraction_1,
    .ret (.tup [(.bin .fdiv (.loc 0) (.loc 2)), (.bin .fdiv (.loc 1) (.loc 2))])]⟩
def d_l_is_same : PD := ⟨2, 3, [
    .cond (.isi (.loc 1) .tuple) [
      .cond (.or (.not (.isi (.loc 0) .tuple)) (.cmp .ne (.blt .len [(.loc 0)]) (.blt .len [(.loc 1)]))) [
        .ret (.k (.bl false))] [],
      .ret (.blt .all [(.lc [2] (.nm 2) (.rng [(.blt .len [(.loc 1)])]) [] (.call "_law_is_same" [(.ix (.loc 0) (.loc 2)), (.ix (.loc 1) (.loc 2))]))])] [],
    .cond (.cmp .is (.loc 1) (.k .non)) [
      .ret (.cmp .is (.loc 0) (.k .non))] [],
    .cond (.isi (.loc 1) .str) [
      .ret (.and (.isi (.loc 0) .str) (.cmp .eq (.loc 0) (.loc 1)))] [],
    .cond (.or (.not (.isi (.loc 0) .int)) (.cmp .ne (.isi (.loc 0) .bool) (.isi (.loc 1) .bool))) [
      .ret (.k (.bl false))] [],
    .ret (.cmp .eq (.loc 0) (.loc 1))]⟩
def d_l_text : PD := ⟨1, 1, [
    .cond (.cmp .eq (.ix (.loc 0) (.k (.int 1))) (.k (.int 1))) [
      .ret (.blt .str [(.ix (.loc 0) (.k (.int 0)))])] [],
    .ret (.bin .add (.bin .add (.blt .str [(.ix (.loc 0) (.k (.int 0)))]) (.k (.str "/"))) (.blt .str [(.ix (.loc 0) (.k (.int 1)))]))]⟩
def d_l_changed : PD := ⟨3, 5, [
    .set (.nm 3) (.call "_law_text" [(.loc 0)]),
    .cond (.cmp .eq (.loc 1) (.k (.int 0))) [
      .ret (.bin .add (.k (.str "0")) (.loc 3))] [],
    .cond (.cmp .eq (.loc 1) (.k (.int 1))) [
      .ret (.bin .add (.k (.str "+")) (.loc 3))] [],
    .cond (.cmp .eq (.loc 1) (.k (.int 2))) [
      .ret (.ix (.lst [(.bin .add (.k (.str " ")) (.loc 3)), (.bin .add (.loc 3) (.k (.str " "))), (.bin .add (.loc 3) (.k (.str "\n")))]) (.bin .mod (.loc 2) (.k (.int 3))))] [],
    .cond (.cmp .eq (.loc 1) (.k (.int 3))) [
      .ret (.bin .add (.bin .add (.blt .str [(.bin .mul (.k (.int 2)) (.ix (.loc 0) (.k (.int 0))))]) (.k (.str "/"))) (.blt .str [(.bin .mul (.k (.int 2)) (.ix (.loc 0) (.k (.int 1))))]))] [],
    .cond (.cmp .eq (.loc 1) (.k (.int 4))) [
      .ret (.bin .add (.loc 3) (.k (.str "/1")))] [],
    .rpl (.loc 1) (5) (.loc 3) "/" "//" "/",
    .cond (.cmp .eq (.loc 1) (.k (.int 6))) [
      .ret (.bin .add (.blt .str [(.ix (.loc 0) (.k (.int 0)))]) (.k (.str "/")))] [],
    .cond (.cmp .eq (.loc 1) (.k (.int 7))) [
      .ret (.bin .add (.bin .add (.blt .str [(.ix (.loc 0) (.k (.int 0)))]) (.k (.str "/-"))) (.blt .str [(.ix (.loc 0) (.k (.int 1)))]))] [],
    .set (.nm 4) (.bin .mod (.bin .fdiv (.loc 2) (.k (.int 12))) (.bin .add (.blt .len [(.loc 3)]) (.k (.int 1)))),
    .ret (.bin .add (.bin .add (.sl (.loc 3) none (some (.loc 4))) (.ix (.k (.str "0123 -+/.:a_")) (.bin .mod (.loc 2) (.k (.int 12))))) (.sl (.loc 3) (some (.loc 4)) none))]⟩
def d_l_number : PD := ⟨2, 4, [
    .set (.nm 2) (.loc 0),
    .cond (.and (.cmp .lt (.loc 1) (.k (.int 0))) (.cmp .eq (.sl (.loc 0) none (some (.k (.int 1)))) (.k (.str "-")))) [
      .set (.nm 2) (.sl (.loc 0) (some (.k (.int 1))) none)] [],
    .cond (.or (.cmp .eq (.loc 2) (.k (.str ""))) (.not (.blt .all [(.lc [3] (.nm 3) (.val (.loc 2)) [] (.cmp .isin (.loc 3) (.k (.str "0123456789"))))]))) [
      .ret (.k .non)] [],
    .cond (.and (.cmp .gt (.blt .len [(.loc 2)]) (.k (.int 1))) (.cmp .eq (.ix (.loc 2) (.k (.int 0))) (.k (.str "0")))) [
      .ret (.k .non)] [],
    .cond (.and (.cmp .eq (.loc 2) (.k (.str "0"))) (.or (.cmp .ne (.loc 2) (.loc 0)) (.cmp .gt (.loc 1) (.k (.int 0))))) [
      .ret (.k .non)] [],
    .ret (.blt .int [(.loc 0)])]⟩
def d_l_value : PD := ⟨1, 4, [
    .set (.nm 1) (.smt "split" (.loc 0) (.k (.str "/"))),
    .set (.nm 2) (.call "_law_number" [(.ix (.loc 1) (.k (.int 0))), (.neg (.k (.int 1)))]),
    .cond (.or (.cmp .gt (.blt .len [(.loc 1)]) (.k (.int 2))) (.cmp .is (.loc 2) (.k .non))) [
      .ret (.k .non)] [],
    .cond (.cmp .eq (.blt .len [(.loc 1)]) (.k (.int 1))) [
      .ret (.tup [(.loc 2), (.k (.int 1))])] [],
    .set (.nm 3) (.call "_law_number" [(.ix (.loc 1) (.k (.int 1))), (.k (.int 2))]),
    .cond (.or (.cmp .is (.loc 3) (.k .non)) (.or (.cmp .lt (.loc 3) (.k (.int 2))) (.cmp .ne (.call "_law_fraction" [(.loc 2), (.loc 3)]) (.tup [(.loc 2), (.loc 3)])))) [
      .ret (.k .non)] [],
    .ret (.tup [(.loc 2), (.loc 3)])]⟩
def d_law : PD := ⟨1, 6, [
    .set (.nm 1) (.call "_law_fraction" [(.bin .sub (.bin .mod (.call "_law_cell" [(.loc 0), (.k (.int 0))]) (.k (.int 41))) (.k (.int 20))), (.bin .add (.k (.int 1)) (.bin .mod (.call "_law_cell" [(.loc 0), (.k (.int 1))]) (.k (.int 12))))]),
    .cond (.not (.call "_law_is_same" [(.call "parse_fraction" [(.call "_law_text" [(.loc 1)])]), (.loc 1)])) [
      .ret (.k (.bl false))] [],
    .set (.nm 2) (.call "_law_changed" [(.loc 1), (.bin .mod (.call "_law_cell" [(.loc 0), (.k (.int 2))]) (.k (.int 9))), (.call "_law_cell" [(.loc 0), (.k (.int 3))])]),
    .cond (.cmp .eq (.bin .mod (.call "_law_cell" [(.loc 0), (.k (.int 4))]) (.k (.int 5))) (.k (.int 4))) [
      .set (.nm 2) (.ix (.lst [(.k .non), (.loc 1), (.ix (.loc 1) (.k (.int 0))), (.tup [(.call "_law_text" [(.loc 1)])]), (.k (.bl true))]) (.bin .mod (.call "_law_cell" [(.loc 0), (.k (.int 3))]) (.k (.int 5))))] [],
    .set (.nm 3) (.k .non),
    .cond (.isi (.loc 2) .str) [
      .set (.nm 3) (.call "_law_value" [(.loc 2)])] [],
    .tryas [
      .set (.nm 4) (.call "parse_fraction" [(.loc 2)])] 5 "InvalidTextError" [("InvalidTextError", [
      .ret (.and (.cmp .is (.loc 3) (.k .non)) (.not (.k (.bl false))))])],
    .ret (.and (.cmp .isnot (.loc 3) (.k .non)) (.call "_law_is_same" [(.loc 4), (.loc 3)]))]⟩
def pr : Prg where
  defs := ([("is_integer", d_is_integer), ("greatest_divisor", d_greatest_divisor), ("is_valid_fraction", d_is_valid_fraction), ("figures", d_figures), ("number_of", d_number_of), ("written", d_written), ("is_number_text", d_is_number_text), ("parse_fraction", d_parse_fraction), ("_law_cell", d_l_cell), ("_law_fraction", d_l_fraction), ("_law_is_same", d_l_is_same), ("_law_text", d_l_text), ("_law_changed", d_l_changed), ("_law_number", d_l_number), ("_law_value", d_l_value), ("law", d_law)] : List (Str × PD))
  glob := [("DIGITS", (.str "0123456789")), ("FIGURES", (.int 1000))]
  sub := fun c d => match ([("RoomError", ["RoomError"]), ("InvalidFractionError", ["InvalidFractionError", "RoomError"]), ("InvalidTextError", ["InvalidTextError", "RoomError"])] : List (Str × List Str)).lookup c with
    | some l => l.contains d
    | none => false
theorem lk_is_integer : pr.defs.lookup ("is_integer" : Str) = some d_is_integer := by kernel_rfl
theorem lk_greatest_divisor : pr.defs.lookup ("greatest_divisor" : Str) = some d_greatest_divisor := by kernel_rfl
theorem lk_is_valid_fraction : pr.defs.lookup ("is_valid_fraction" : Str) = some d_is_valid_fraction := by kernel_rfl
theorem lk_figures : pr.defs.lookup ("figures" : Str) = some d_figures := by kernel_rfl
theorem lk_number_of : pr.defs.lookup ("number_of" : Str) = some d_number_of := by kernel_rfl
theorem lk_written : pr.defs.lookup ("written" : Str) = some d_written := by kernel_rfl
theorem lk_is_number_text : pr.defs.lookup ("is_number_text" : Str) = some d_is_number_text := by kernel_rfl
theorem lk_parse_fraction : pr.defs.lookup ("parse_fraction" : Str) = some d_parse_fraction := by kernel_rfl
theorem lk_l_cell : pr.defs.lookup ("_law_cell" : Str) = some d_l_cell := by kernel_rfl
theorem lk_l_fraction : pr.defs.lookup ("_law_fraction" : Str) = some d_l_fraction := by kernel_rfl
theorem lk_l_is_same : pr.defs.lookup ("_law_is_same" : Str) = some d_l_is_same := by kernel_rfl
theorem lk_l_text : pr.defs.lookup ("_law_text" : Str) = some d_l_text := by kernel_rfl
theorem lk_l_changed : pr.defs.lookup ("_law_changed" : Str) = some d_l_changed := by kernel_rfl
theorem lk_l_number : pr.defs.lookup ("_law_number" : Str) = some d_l_number := by kernel_rfl
theorem lk_l_value : pr.defs.lookup ("_law_value" : Str) = some d_l_value := by kernel_rfl
theorem lk_law : pr.defs.lookup ("law" : Str) = some d_law := by kernel_rfl
end Lw
namespace Lw
open PySem PySem.Spec PyProof.Rows L2 Wg StX ClX
/-! ### the facts of the head -/
theorem sc_is_integer : FnScope ["value"] ["value"] (defScope (tp 5)) := ⟨rfl, rfl, rfl, by decide +kernel, rfl, by decide +kernel, by decide +kernel⟩
theorem cp_is_integer : optAll (cpS gi 60 ⟨["value"], defScope (tp 5), false⟩) (defBody (tp 5)) = some d_is_integer.body := by kernel_rfl
def h_is_integer : HDef := ⟨"is_integer", (.top "is_integer"), "is_integer", "is_integer", (tp 5), ["value"], ["value"], none⟩
theorem hs_is_integer : DefS gi h_is_integer d_is_integer := ⟨rfl, sc_is_integer, rfl, cp_is_integer, fun K kV doc pm an cdv ct => .inl ⟨by decide, Binds.all (ps := ["value"]) (fun us hl => match us, hl with | [_], _ => rfl), rfl⟩⟩
theorem sc_greatest_divisor : FnScope ["one", "other"] ["one", "other"] (defScope (tp 6)) := ⟨rfl, rfl, rfl, by decide +kernel, rfl, by decide +kernel, by decide +kernel⟩
theorem cp_greatest_divisor : optAll (cpS gi 60 ⟨["one", "other"], defScope (tp 6), false⟩) (defBody (tp 6)) = some d_greatest_divisor.body := by kernel_rfl
def h_greatest_divisor : HDef := ⟨"greatest_divisor", (.top "greatest_divisor"), "greatest_divisor", "greatest_divisor", (tp 6), ["one", "other"], ["one", "other"], none⟩
theorem hs_greatest_divisor : DefS gi h_greatest_divisor d_greatest_divisor := ⟨rfl, sc_greatest_divisor, rfl, cp_greatest_divisor, fun K kV doc pm an cdv ct => .inl ⟨by decide, Binds.all (ps := ["one", "other"]) (fun us hl => match us, hl with | [_, _], _ => rfl), rfl⟩⟩
theorem sc_is_valid_fraction : FnScope ["value"] ["value"] (defScope (tp 7)) := ⟨rfl, rfl, rfl, by decide +kernel, rfl, by decide +kernel, by decide +kernel⟩
theorem cp_is_valid_fraction : optAll (cpS gi 60 ⟨["value"], defScope (tp 7), false⟩) (defBody (tp 7)) = some d_is_valid_fraction.body := by kernel_rfl
def h_is_valid_fraction : HDef := ⟨"is_valid_fraction", (.top "is_valid_fraction"), "is_valid_fraction", "is_valid_fraction", (tp 7), ["value"], ["value"], none⟩
theorem hs_is_valid_fraction : DefS gi h_is_valid_fraction d_is_valid_fraction := ⟨rfl, sc_is_valid_fraction, rfl, cp_is_valid_fraction, fun K kV doc pm an cdv ct => .inl ⟨by decide, Binds.all (ps := ["value"]) (fun us hl => match us, hl with | [_], _ => rfl), rfl⟩⟩
theorem sc_figures : FnScope ["number", "found", "piece", "low"] ["number"] (defScope (tp 11)) := ⟨rfl, rfl, rfl, by decide +kernel, rfl, by decide +kernel, by decide +kernel⟩
theorem cp_figures : optAll (cpS gi 60 ⟨["number", "found", "piece", "low"], defScope (tp 11), false⟩) (defBody (tp 11)) = some d_figures.body := by kernel_rfl
def h_figures : HDef := ⟨"figures", (.top "figures"), "figures", "figures", (tp 11), ["number", "found", "piece", "low"], ["number"], none⟩
theorem hs_figures : DefS gi h_figures d_figures := ⟨rfl, sc_figures, rfl, cp_figures, fun K kV doc pm an cdv ct => .inl ⟨by decide, Binds.all (ps := ["number"]) (fun us hl => match us, hl with | [_], _ => rfl), rfl⟩⟩
theorem sc_number_of : FnScope ["text", "digits", "piece", "found", "at"] ["text"] (defScope (tp 12)) := ⟨rfl, rfl, rfl, by decide +kernel, rfl, by decide +kernel, by decide +kernel⟩
theorem cp_number_of : optAll (cpS gi 60 ⟨["text", "digits", "piece", "found", "at"], defScope (tp 12), false⟩) (defBody (tp 12)) = some d_number_of.body := by kernel_rfl
def h_number_of : HDef := ⟨"number_of", (.top "number_of"), "number_of", "number_of", (tp 12), ["text", "digits", "piece", "found", "at"], ["text"], none⟩
theorem hs_number_of : DefS gi h_number_of d_number_of := ⟨rfl, sc_number_of, rfl, cp_number_of, fun K kV doc pm an cdv ct => .inl ⟨by decide, Binds.all (ps := ["text"]) (fun us hl => match us, hl with | [_], _ => rfl), rfl⟩⟩
theorem sc_written : FnScope ["value"] ["value"] (defScope (tp 13)) := ⟨rfl, rfl, rfl, by decide +kernel, rfl, by decide +kernel, by decide +kernel⟩
theorem cp_written : optAll (cpS gi 60 ⟨["value"], defScope (tp 13), false⟩) (defBody (tp 13)) = some d_written.body := by kernel_rfl
def h_written : HDef := ⟨"written", (.top "written"), "written", "written", (tp 13), ["value"], ["value"], none⟩
theorem hs_written : DefS gi h_written d_written := ⟨rfl, sc_written, rfl, cp_written, fun K kV doc pm an cdv ct => .inl ⟨by decide, Binds.all (ps := ["value"]) (fun us hl => match us, hl with | [_], _ => rfl), rfl⟩⟩
theorem sc_is_number_text : FnScope ["text", "digits", "digit"] ["text"] (defScope (tp 14)) := ⟨rfl, rfl, rfl, by decide +kernel, rfl, by decide +kernel, by decide +kernel⟩
theorem cp_is_number_text : optAll (cpS gi 60 ⟨["text", "digits", "digit"], defScope (tp 14), false⟩) (defBody (tp 14)) = some d_is_number_text.body := by kernel_rfl
def h_is_number_text : HDef := ⟨"is_number_text", (.top "is_number_text"), "is_number_text", "is_number_text", (tp 14), ["text", "digits", "digit"], ["text"], none⟩
theorem hs_is_number_text : DefS gi h_is_number_text d_is_number_text := ⟨rfl, sc_is_number_text, rfl, cp_is_number_text, fun K kV doc pm an cdv ct => .inl ⟨by decide, Binds.all (ps := ["text"]) (fun us hl => match us, hl with | [_], _ => rfl), rfl⟩⟩
theorem sc_parse_fraction : FnScope ["text", "words", "word", "value"] ["text"] (defScope (tp 15)) := ⟨rfl, rfl, rfl, by decide +kernel, rfl, by decide +kernel, by decide +kernel⟩
theorem cp_parse_fraction : optAll (cpS gi 60 ⟨["text", "words", "word", "value"], defScope (tp 15), false⟩) (defBody (tp 15)) = some d_parse_fraction.body := by kernel_rfl
def h_parse_fraction : HDef := ⟨"parse_fraction", (.top "parse_fraction"), "parse_fraction", "parse_fraction", (tp 15), ["text", "words", "word", "value"], ["text"], none⟩
theorem hs_parse_fraction : DefS gi h_parse_fraction d_parse_fraction := ⟨rfl, sc_parse_fraction, rfl, cp_parse_fraction, fun K kV doc pm an cdv ct => .inl ⟨by decide, Binds.all (ps := ["text"]) (fun us hl => match us, hl with | [_], _ => rfl), rfl⟩⟩
theorem sc_l_cell : FnScope ["_law_script", "_law_k"] ["_law_script", "_law_k"] (defScope (tp 17)) := ⟨rfl, rfl, rfl, by decide +kernel, rfl, by decide +kernel, by decide +kernel⟩
theorem cp_l_cell : optAll (cpS gi 60 ⟨["_law_script", "_law_k"], defScope (tp 17), false⟩) (defBody (tp 17)) = some d_l_cell.body := by kernel_rfl
def h_l_cell : HDef := ⟨"_law_cell", (.top "_law_cell"), "_law_cell", "_law_cell", (tp 17), ["_law_script", "_law_k"], ["_law_script", "_law_k"], none⟩
theorem hs_l_cell : DefS gi h_l_cell d_l_cell := ⟨rfl, sc_l_cell, rfl, cp_l_cell, fun K kV doc pm an cdv ct => .inl ⟨by decide, Binds.all (ps := ["_law_script", "_law_k"]) (fun us hl => match us, hl with | [_, _], _ => rfl), rfl⟩⟩
theorem sc_l_fraction : FnScope ["_law_top", "_law_bottom", "_law_one", "_law_other", "_law_rest"] ["_law_top", "_law_bottom"] (defScope (tp 18)) := ⟨rfl, rfl, rfl, by decide +kernel, rfl, by decide +kernel, by decide +kernel⟩
theorem cp_l_fraction : optAll (cpS gi 60 ⟨["_law_top", "_law_bottom", "_law_one", "_law_other", "_law_rest"], defScope (tp 18), false⟩) (defBody (tp 18)) = some d_l_fraction.body := by kernel_rfl
def h_l_fraction : HDef := ⟨"_law_fraction", (.top "_law_fraction"), "_law_fraction", "_law_fraction", (tp 18), ["_law_top", "_law_bottom", "_law_one", "_law_other", "_law_rest"], ["_law_top", "_law_bottom"], none⟩
theorem hs_l_fraction : DefS gi h_l_fraction d_l_fraction := ⟨rfl, sc_l_fraction, rfl, cp_l_fraction, fun K kV doc pm an cdv ct => .inl ⟨by decide, Binds.all (ps := ["_law_top", "_law_bottom"]) (fun us hl => match us, hl with | [_, _], _ => rfl), rfl⟩⟩
theorem sc_l_is_same : FnScope ["_law_actual", "_law_wanted", "_law_k"] ["_law_actual", "_law_wanted"] (defScope (tp 19)) := ⟨rfl, rfl, rfl, by decide +kernel, rfl, by decide +kernel, by decide +kernel⟩
theorem cp_l_is_same : optAll (cpS gi 60 ⟨["_law_actual", "_law_wanted", "_law_k"], defScope (tp 19), false⟩) (defBody (tp 19)) = some d_l_is_same.body := by kernel_rfl
def h_l_is_same : HDef := ⟨"_law_is_same", (.top "_law_is_same"), "_law_is_same", "_law_is_same", (tp 19), ["_law_actual", "_law_wanted", "_law_k"], ["_law_actual", "_law_wanted"], none⟩
theorem hs_l_is_same : DefS gi h_l_is_same d_l_is_same := ⟨rfl, sc_l_is_same, rfl, cp_l_is_same, fun K kV doc pm an cdv ct => .inl ⟨by decide, Binds.all (ps := ["_law_actual", "_law_wanted"]) (fun us hl => match us, hl with | [_, _], _ => rfl), rfl⟩⟩
theorem sc_l_text : FnScope ["_law_value_here"] ["_law_value_here"] (defScope (tp 20)) := ⟨rfl, rfl, rfl, by decide +kernel, rfl, by decide +kernel, by decide +kernel⟩
theorem cp_l_text : optAll (cpS gi 60 ⟨["_law_value_here"], defScope (tp 20), false⟩) (defBody (tp 20)) = some d_l_text.body := by kernel_rfl
def h_l_text : HDef := ⟨"_law_text", (.top "_law_text"), "_law_text", "_law_text", (tp 20), ["_law_value_here"], ["_law_value_here"], none⟩
theorem hs_l_text : DefS gi h_l_text d_l_text := ⟨rfl, sc_l_text, rfl, cp_l_text, fun K kV doc pm an cdv ct => .inl ⟨by decide, Binds.all (ps := ["_law_value_here"]) (fun us hl => match us, hl with | [_], _ => rfl), rfl⟩⟩
theorem sc_l_changed : FnScope ["_law_value_here", "_law_fault", "_law_cell_here", "_law_text_here", "_law_at"] ["_law_value_here", "_law_fault", "_law_cell_here"] (defScope (tp 21)) := ⟨rfl, rfl, rfl, by decide +kernel, rfl, by decide +kernel, by decide +kernel⟩
theorem cp_l_changed : optAll (cpS gi 60 ⟨["_law_value_here", "_law_fault", "_law_cell_here", "_law_text_here", "_law_at"], defScope (tp 21), false⟩) (defBody (tp 21)) = some d_l_changed.body := by kernel_rfl
def h_l_changed : HDef := ⟨"_law_changed", (.top "_law_changed"), "_law_changed", "_law_changed", (tp 21), ["_law_value_here", "_law_fault", "_law_cell_here", "_law_text_here", "_law_at"], ["_law_value_here", "_law_fault", "_law_cell_here"], none⟩
theorem hs_l_changed : DefS gi h_l_changed d_l_changed := ⟨rfl, sc_l_changed, rfl, cp_l_changed, fun K kV doc pm an cdv ct => .inl ⟨by decide, Binds.all (ps := ["_law_value_here", "_law_fault", "_law_cell_here"]) (fun us hl => match us, hl with | [_, _, _], _ => rfl), rfl⟩⟩
theorem sc_l_number : FnScope ["_law_text_here", "_law_least", "_law_digits", "_law_char"] ["_law_text_here", "_law_least"] (defScope (tp 22)) := ⟨rfl, rfl, rfl, by decide +kernel, rfl, by decide +kernel, by decide +kernel⟩
theorem cp_l_number : optAll (cpS gi 60 ⟨["_law_text_here", "_law_least", "_law_digits", "_law_char"], defScope (tp 22), false⟩) (defBody (tp 22)) = some d_l_number.body := by kernel_rfl
def h_l_number : HDef := ⟨"_law_number", (.top "_law_number"), "_law_number", "_law_number", (tp 22), ["_law_text_here", "_law_least", "_law_digits", "_law_char"], ["_law_text_here", "_law_least"], none⟩
theorem hs_l_number : DefS gi h_l_number d_l_number := ⟨rfl, sc_l_number, rfl, cp_l_number, fun K kV doc pm an cdv ct => .inl ⟨by decide, Binds.all (ps := ["_law_text_here", "_law_least"]) (fun us hl => match us, hl with | [_, _], _ => rfl), rfl⟩⟩
theorem sc_l_value : FnScope ["_law_text_here", "_law_words", "_law_top", "_law_bottom"] ["_law_text_here"] (defScope (tp 23)) := ⟨rfl, rfl, rfl, by decide +kernel, rfl, by decide +kernel, by decide +kernel⟩
theorem cp_l_value : optAll (cpS gi 60 ⟨["_law_text_here", "_law_words", "_law_top", "_law_bottom"], defScope (tp 23), false⟩) (defBody (tp 23)) = some d_l_value.body := by kernel_rfl
def h_l_value : HDef := ⟨"_law_value", (.top "_law_value"), "_law_value", "_law_value", (tp 23), ["_law_text_here", "_law_words", "_law_top", "_law_bottom"], ["_law_text_here"], none⟩
theorem hs_l_value : DefS gi h_l_value d_l_value := ⟨rfl, sc_l_value, rfl, cp_l_value, fun K kV doc pm an cdv ct => .inl ⟨by decide, Binds.all (ps := ["_law_text_here"]) (fun us hl => match us, hl with | [_], _ => rfl), rfl⟩⟩
theorem sc_law : FnScope ["_law_script", "_law_value_here", "_law_changed_here", "_law_wanted", "_law_actual", "error"] ["_law_script"] (defScope (tp 24)) := ⟨rfl, rfl, rfl, by decide +kernel, rfl, by decide +kernel, by decide +kernel⟩
theorem cp_law : optAll (cpS gi 60 ⟨["_law_script", "_law_value_here", "_law_changed_here", "_law_wanted", "_law_actual", "error"], defScope (tp 24), false⟩) (defBody (tp 24)) = some d_law.body := by kernel_rfl
def h_law : HDef := ⟨"law", (.top "law"), "law", "law", (tp 24), ["_law_script", "_law_value_here", "_law_changed_here", "_law_wanted", "_law_actual", "error"], ["_law_script"], none⟩
theorem hs_law : DefS gi h_law d_law := ⟨rfl, sc_law, rfl, cp_law, fun K kV doc pm an cdv ct => .inl ⟨by decide, Binds.all (ps := ["_law_script"]) (fun us hl => match us, hl with | [_], _ => rfl), rfl⟩⟩
def hs : List HDef := [h_is_integer, h_greatest_divisor, h_is_valid_fraction, h_figures, h_number_of, h_written, h_is_number_text, h_parse_fraction, h_l_cell, h_l_fraction, h_l_is_same, h_l_text, h_l_changed, h_l_number, h_l_value, h_law]
theorem hs_ok : ∀ d ∈ hs, ∃ p, pr.defs.lookup d.q = some p ∧ (DefS gi d p ∨ ∃ D, DefV PySem.Challenge.rw_wagerroom_k59_texts_that_are_no_fraction.prog gi d p D) := (all_cons ⟨_, lk_is_integer, .inl hs_is_integer⟩ (all_cons ⟨_, lk_greatest_divisor, .inl hs_greatest_divisor⟩ (all_cons ⟨_, lk_is_valid_fraction, .inl hs_is_valid_fraction⟩ (all_cons ⟨_, lk_figures, .inl hs_figures⟩ (all_cons ⟨_, lk_number_of, .inl hs_number_of⟩ (all_cons ⟨_, lk_written, .inl hs_written⟩ (all_cons ⟨_, lk_is_number_text, .inl hs_is_number_text⟩ (all_cons ⟨_, lk_parse_fraction, .inl hs_parse_fraction⟩ (all_cons ⟨_, lk_l_cell, .inl hs_l_cell⟩ (all_cons ⟨_, lk_l_fraction, .inl hs_l_fraction⟩ (all_cons ⟨_, lk_l_is_same, .inl hs_l_is_same⟩ (all_cons ⟨_, lk_l_text, .inl hs_l_text⟩ (all_cons ⟨_, lk_l_changed, .inl hs_l_changed⟩ (all_cons ⟨_, lk_l_number, .inl hs_l_number⟩ (all_cons ⟨_, lk_l_value, .inl hs_l_value⟩ (all_cons ⟨_, lk_law, .inl hs_law⟩ all_nil))))))))))))))))
theorem sup_ok : ∀ D C m q, pr.sup D C m = some q → C ∈ gi.cls ∧ m ∈ gi.sups := fun D C m q h => by cases h
theorem at_ok : ∀ c f a, pr.att c f = some a → c ∈ gi.cls := fun c f a ha => by simp [pr] at ha
end Lw
namespace Lw
open PySem PySem.W PySem.Calls PyProof.Rows Wg
/-! ### the head -/
abbrev RR : PySem.W.OpenRow := PySem.W.OpenLaw.row PySem.Challenge.rw_wagerroom_k59_texts_that_are_no_fraction
def loose : List PySem.Str := (["RoomError", "InvalidFractionError", "InvalidTextError", "is_integer", "greatest_divisor", "is_valid_fraction", "DIGITS", "FIGURES", "figures", "number_of", "written", "is_number_text", "parse_fraction", "_law_cell", "_law_fraction", "_law_is_same", "_law_text", "_law_changed", "_law_number", "_law_value"] : List PySem.Str)
set_option maxHeartbeats 0 in
set_option maxRecDepth 100000 in
theorem hrun (w : World) : HandSHeadRun.RunEq RR (PySem.W.view RR.prog [24]) (hookH gi pr hs) (obH gi pr hs) 60000 loose w := by
  intro os
  kernel_rfl
end Lw
/-! WgU: plain tools for the evaluation. -/
namespace Wg
open PySem L2
/-! ### what a callee leaves -/
theorem okOld_append {S G : Sto} : ∀ m, m ≤ S.length → okOld S.length m S (S ++ G) = true
  | 0, _ => rfl
  | m + 1, h => by
    have hm : m < S.length := h
    simp only [okOld, List.getElem?_append_left hm, List.getElem?_eq_getElem hm, Cell.eqb_refl, Bool.or_true, Bool.true_and]
    exact okOld_append m (Nat.le_of_lt h)
theorem settle_self (S : Sto) (v : IV) : settle S v S = S := by
  unfold settle
  split
  · exact List.take_length
  · rfl
theorem settle_append {S G : Sto} {v : IV} (h : v.lt S.length = true) : settle S v (S ++ G) = S := by
  unfold settle
  rw [h, okOld_append _ (Nat.le_refl _), Bool.and_self, if_pos rfl, List.take_left]
/-! ### while -/
section
variable {test : Sl → Sto → Rs IV} {body : Sl → Sto → Rz} {τ τ2 : Sl} {S S1 S2 : Sto}
theorem whileN_det : ∀ {n m : Nat} {τ : Sl} {S : Sto} {r r' : Rz}, whileN test body n τ S = some r → whileN test body m τ S = some r' → r = r'
  | 0, _, _, _, _, _, h, _ => by simp [whileN] at h
  | _ + 1, 0, _, _, _, _, _, h => by simp [whileN] at h
  | n + 1, m + 1, τ, S, r, r', h, h' => by
    simp only [whileN] at h h'
    split at h
    · rename_i S1 e
      rw [e] at h'
      simp only [] at h'
      cases e2 : body τ S1 with
      | next a b => rw [e2] at h h'; exact whileN_det h h'
      | cnt a b => rw [e2] at h h'; exact whileN_det h h'
      | brk a b => rw [e2] at h h'; cases h; cases h'; rfl
      | ret a b => rw [e2] at h h'; cases h; cases h'; rfl
      | exc a b c => rw [e2] at h h'; cases h; cases h'; rfl
      | bad => rw [e2] at h h'; cases h; cases h'; rfl
    · rename_i S1 e
      rw [e] at h'
      cases h; cases h'; rfl
    · rename_i c S1 e
      rw [e] at h'
      cases h; cases h'; rfl
    · rename_i x n1 n2 n3
      cases e : test τ S with
      | bad => rw [e] at h'; cases h; cases h'; rfl
      | exc c S1 => exact absurd e (n3 c S1)
      | ok v S1 =>
        cases v with
        | bl b => cases b with
          | true => exact absurd e (n1 S1)
          | false => exact absurd e (n2 S1)
        | non => rw [e] at h'; cases h; cases h'; rfl
        | int i => rw [e] at h'; cases h; cases h'; rfl
        | str i => rw [e] at h'; cases h; cases h'; rfl
        | tup i => rw [e] at h'; cases h; cases h'; rfl
        | ref i => rw [e] at h'; cases h; cases h'; rfl
        | cls i => rw [e] at h'; cases h; cases h'; rfl
open Classical in
theorem whileC_of {n : Nat} {r : Rz} (h : whileN test body n τ S = some r) : whileC test body τ S = r := by
  unfold whileC
  have hx : ∃ n r, whileN test body n τ S = some r := ⟨n, r, h⟩
  rw [dif_pos hx]
  exact whileN_det hx.choose_spec.choose_spec h
open Classical in
theorem whileC_step (h : test τ S = .ok (.bl true) S1) (hb : body τ S1 = .next τ2 S2) : whileC test body τ S = whileC test body τ2 S2 := by
  by_cases hx : ∃ n r, whileN test body n τ2 S2 = some r
  · obtain ⟨n, r, e⟩ := hx
    rw [whileC_of e]
    refine whileC_of (n := n + 1) ?_
    simp only [whileN, h, hb, e]
  · have hy : ¬ ∃ n r, whileN test body n τ S = some r := by
      rintro ⟨n, r, e⟩
      cases n with
      | zero => simp [whileN] at e
      | succ n => simp only [whileN, h, hb] at e; exact hx ⟨n, r, e⟩
    unfold whileC
    rw [dif_neg hx, dif_neg hy]
theorem whileC_stop (h : test τ S = .ok (.bl false) S1) : whileC test body τ S = .next τ S1 := whileC_of (n := 1) (by simp only [whileN, h])
end
/-! ### loops that keep an invariant -/
end Wg
/-! WgV: texts of data; divisors. -/
namespace Wg
open PySem L2
/-! ### how long a data's text is at most -/
mutual
def wtD : PyData → Nat
  | .none => 4
  | .bool _ => 5
  | .int _ => 1921
  | .str x => (reprText x).length
  | .list xs => wtDs xs + 3
  | .tuple xs => wtDs xs + 3
  | .dict kvs => wtKv kvs + 3
def wtDs : List PyData → Nat
  | [] => 0
  | x :: xs => wtD x + 2 + wtDs xs
def wtKv : List (PyData × PyData) → Nat
  | [] => 0
  | (k, v) :: r => wtD k + wtD v + 4 + wtKv r
end
mutual
theorem shown_le : ∀ d : PyData, d.showable = true → d.shown.length ≤ wtD d
  | .none, _ => by simp only [PyData.shown, wtD]; decide
  | .bool b, _ => by cases b <;> simp only [PyData.shown, wtD] <;> decide
  | .int i, h => by
    simp only [PyData.shown, wtD]
    exact PyProof.Rows.int_text_len_1921 (by simpa [PyData.showable] using h)
  | .str x, _ => by simp only [PyData.shown, wtD]; exact Nat.le_refl _
  | .list xs, h => by
    simp only [PyData.shown, wtD]
    have := listText_len_le (PyData.shownAll xs)
    have := shownAll_le xs (by simpa [PyData.showable] using h)
    omega
  | .tuple xs, h => by
    simp only [PyData.shown, wtD]
    have := tupleText_len_le (PyData.shownAll xs)
    have := shownAll_le xs (by simpa [PyData.showable] using h)
    omega
  | .dict kvs, h => by
    simp only [PyData.shown, wtD]
    have := dictText_len_le (PyData.shownKv kvs)
    have := shownKv_le kvs (by simpa [PyData.showable] using h)
    omega
theorem shownAll_le : ∀ xs : List PyData, PyData.showableAll xs = true → ((PyData.shownAll xs).map (·.length)).sum + 2 * (PyData.shownAll xs).length ≤ wtDs xs
  | [], _ => by simp [PyData.shownAll, wtDs]
  | x :: xs, h => by
    simp only [PyData.showableAll, Bool.and_eq_true] at h
    have h1 := shown_le x h.1
    have h2 := shownAll_le xs h.2
    simp only [PyData.shownAll, wtDs, List.map_cons, List.sum_cons, List.length_cons]
    omega
theorem shownKv_le : ∀ kvs : List (PyData × PyData), PyData.showableKv kvs = true → ((PyData.shownKv kvs).map (·.length)).sum + 2 * (PyData.shownKv kvs).length ≤ wtKv kvs
  | [], _ => by simp [PyData.shownKv, wtKv]
  | (k, v) :: r, h => by
    simp only [PyData.showableKv, Bool.and_eq_true] at h
    have h1 := shown_le k h.1.1
    have h2 := shown_le v h.1.2
    have h3 := shownKv_le r h.2
    simp only [PyData.shownKv, wtKv, List.map_cons, List.sum_cons, List.length_cons, Str.length_append]
    have : (Str.ofString ": ").length = 2 := by decide
    omega
end
theorem shownOk_of {d : PyData} (h1 : d.showable = true) (h2 : (!d.hasDict || !hasL d) = true) (h3 : wtD d ≤ 16777216) (h4 : d.depth ≤ 60) : shownOk d = true := by
  simp only [shownOk, h1, h2, Bool.true_and, Bool.and_true, Bool.and_eq_true, decide_eq_true_eq]
  exact ⟨Nat.le_trans (shown_le d h1) h3, h4⟩
/-! ### divisors -/
end Wg
/-! WgW: the evaluation's equations, each at all its arguments. -/
namespace Wg
open PySem L2
section
variable {Γ : Gam} {sub : Str → Str → Bool} {τ : Sl} {S S1 : Sto} {v : IV}
theorem bind_ok {α β : Type} {a : α} {f : α → Sto → Rs β} : (Rs.ok a S).bind f = f a S := (rfl)
theorem bind_exc {α β : Type} {c : Str} {f : α → Sto → Rs β} : (Rs.exc c S : Rs α).bind f = .exc c S := (rfl)
theorem thn_ok {α : Type} {a : α} {f : α → Sto → Rz} : (Rs.ok a S).thn τ f = f a S := (rfl)
theorem thn_exc {α : Type} {c : Str} {f : α → Sto → Rz} : (Rs.exc c S : Rs α).thn τ f = .exc c τ S := (rfl)
theorem seq_next {f : Sl → Sto → Rz} : (Rz.next τ S).seq f = f τ S := (rfl)
theorem seq_ret {f : Sl → Sto → Rz} : (Rz.ret v S).seq f = .ret v S := (rfl)
theorem seq_brk {f : Sl → Sto → Rz} : (Rz.brk τ S).seq f = .brk τ S := (rfl)
theorem seq_cnt {f : Sl → Sto → Rz} : (Rz.cnt τ S).seq f = .cnt τ S := (rfl)
theorem seq_exc {c : Str} {f : Sl → Sto → Rz} : (Rz.exc c τ S).seq f = .exc c τ S := (rfl)
theorem done_ret : (Rz.ret v S1).done S = .ok v (settle S v S1) := (rfl)
theorem done_next : (Rz.next τ S1).done S = .ok .non (settle S .non S1) := (rfl)
theorem done_exc {c : Str} : (Rz.exc c τ S1).done S = .exc c (settle S .non S1) := (rfl)
theorem tr_ok {b : Bool} {f : Bool → Sto → Rs IV} : truth (.ok (.bl b) S) f = f b S := (rfl)
theorem tr_exc {c : Str} {f : Bool → Sto → Rs IV} : truth (.exc c S) f = .exc c S := (rfl)
/-! expressions -/
def getI (o : Option (Option IV)) (S : Sto) : Rs IV := match o with
  | some (some v) => .ok v S
  | _ => .bad
theorem getI_some : getI (some (some v)) S = .ok v S := (rfl)
def getO (o : Option IV) (S : Sto) : Rs IV := match o with
  | some v => .ok v S
  | none => .bad
theorem getO_some : getO (some v) S = .ok v S := (rfl)
theorem x_k : evE Γ (.k v) τ S = .ok v S := (rfl)
theorem x_loc {i : Nat} : evE Γ (.loc i) τ S = getI τ[i]? S := (rfl)
theorem x_glb {x : Str} : evE Γ (.glb x) τ S = getO (Γ.glob x) S := by simp only [evE, getO] <;> (cases Γ.glob x <;> rfl)
theorem x_bin {o : Bop} {a b : PX} : evE Γ (.bin o a b) τ S = (evE Γ a τ S).bind fun x S1 => (evE Γ b τ S1).bind fun y S2 => binI o x y S2 := (rfl)
theorem x_neg {a : PX} : evE Γ (.neg a) τ S = (evE Γ a τ S).bind fun x S1 => negI x S1 := (rfl)
theorem x_cmp {o : Cop} {a b : PX} : evE Γ (.cmp o a b) τ S = (evE Γ a τ S).bind fun x S1 => (evE Γ b τ S1).bind fun y S2 => cmpI o x y S2 := (rfl)
theorem x_chain {o o' : Cop} {a b c : PX} : evE Γ (.chain o o' a b c) τ S = (evE Γ a τ S).bind fun x S1 => (evE Γ b τ S1).bind fun y S2 => truth (cmpI o x y S2) fun k S3 =>
      if k then (evE Γ c τ S3).bind fun z S4 => cmpI o' y z S4 else .ok (.bl false) S3 := (rfl)
theorem x_and {a b : PX} : evE Γ (.and a b) τ S = truth (evE Γ a τ S) fun k S1 => if k then evE Γ b τ S1 else .ok (.bl false) S1 := (rfl)
theorem x_or {a b : PX} : evE Γ (.or a b) τ S = truth (evE Γ a τ S) fun k S1 => if k then .ok (.bl true) S1 else evE Γ b τ S1 := (rfl)
theorem x_not {a : PX} : evE Γ (.not a) τ S = truth (evE Γ a τ S) fun k S1 => .ok (.bl (!k)) S1 := (rfl)
theorem x_ite {c a b : PX} : evE Γ (.ite c a b) τ S = truth (evE Γ c τ S) fun k S1 => if k then evE Γ a τ S1 else evE Γ b τ S1 := (rfl)
def mkTu (xs : List IV) (S : Sto) : Rs IV := if szOk xs.length then .ok (.tup xs) S else .bad
def mkLi (xs : List IV) (S : Sto) : Rs IV := if szOk xs.length then .ok (.ref S.length) (S ++ [.lst xs]) else .bad
theorem mkLi_eq {xs : List IV} (h : szOk xs.length = true) : mkLi xs S = .ok (.ref S.length) (S ++ [.lst xs]) := if_pos h
theorem mkTu_1 {a : IV} : mkTu [a] S = .ok (.tup [a]) S := (rfl)
theorem mkTu_0 : mkTu [] S = .ok (.tup []) S := (rfl)
theorem mkTu_2 {a b : IV} : mkTu [a, b] S = .ok (.tup [a, b]) S := (rfl)
theorem mkTu_3 {a b c : IV} : mkTu [a, b, c] S = .ok (.tup [a, b, c]) S := (rfl)
theorem mkTu_4 {a b c d : IV} : mkTu [a, b, c, d] S = .ok (.tup [a, b, c, d]) S := (rfl)
theorem mkLi_0 : mkLi [] S = .ok (.ref S.length) (S ++ [.lst []]) := (rfl)
theorem mkLi_1 {a : IV} : mkLi [a] S = .ok (.ref S.length) (S ++ [.lst [a]]) := (rfl)
theorem mkLi_2 {a b : IV} : mkLi [a, b] S = .ok (.ref S.length) (S ++ [.lst [a, b]]) := (rfl)
theorem mkLi_3 {a b c : IV} : mkLi [a, b, c] S = .ok (.ref S.length) (S ++ [.lst [a, b, c]]) := (rfl)
theorem mkLi_4 {a b c d : IV} : mkLi [a, b, c, d] S = .ok (.ref S.length) (S ++ [.lst [a, b, c, d]]) := (rfl)
theorem x_tup {es : List PX} : evE Γ (.tup es) τ S = (evEs Γ es τ S).bind fun xs S1 => mkTu xs S1 := (rfl)
theorem x_lst {es : List PX} : evE Γ (.lst es) τ S = (evEs Γ es τ S).bind fun xs S1 => mkLi xs S1 := (rfl)
theorem x_dct0 : evE Γ (.dct []) τ S = .ok (.ref S.length) (S ++ [.dct []]) := (rfl)
theorem x_dct1 {i j : Int} : evE Γ (.dct [(.k (.int i), .k (.int j))]) τ S = .ok (.ref S.length) (S ++ [.dct [(.inl i, .int j)]]) := (rfl)
theorem x_ix {a b : PX} : evE Γ (.ix a b) τ S = (evE Γ a τ S).bind fun x S1 => (evE Γ b τ S1).bind fun y S2 => ixI x y S2 := (rfl)
theorem x_sl {a : PX} {lo hi : Option PX} : evE Γ (.sl a lo hi) τ S = (evE Γ a τ S).bind fun x S1 => (evO Γ lo τ S1).bind fun l S2 => (evO Γ hi τ S2).bind fun h S3 => slI x l h S3 := (rfl)
theorem x_rev {a : PX} : evE Γ (.rev a) τ S = (evE Γ a τ S).bind fun x S1 => revI x S1 := (rfl)
theorem r_tup {xs : List IV} : revI (.tup xs) S = .ok (.tup xs.reverse) S := (rfl)
theorem x_rgs {t : Bool} {e : PX} : evE Γ (.rgs t e) τ S = (evE Γ e τ S).bind fun x S1 => rgsI t x S1 := (rfl)
theorem x_call {f : Str} {es : List PX} : evE Γ (.call f es) τ S = (evEs Γ es τ S).bind fun xs S1 => Γ.call f xs S1 := (rfl)
theorem x_blt {f : Bf} {es : List PX} : evE Γ (.blt f es) τ S = ((evEs Γ es τ S).bind fun xs S1 => bltI f xs S1).settle S := (rfl)
theorem st_self : (Rs.ok v S).settle S = .ok v S := by simp only [Rs.settle, settle_self]
theorem st_exc {c : Str} : (Rs.exc c S).settle S = .exc c S := by simp only [Rs.settle, settle_self]
theorem st_excA {c : Str} {G : Sto} : (Rs.exc c (S ++ G)).settle S = .exc c S := by simp only [Rs.settle]; rw [settle_append rfl]
theorem x_gc {e : PX} : evE Γ (.gc e) τ S = (evE Γ e τ S).settle S := (rfl)
theorem settle_new {c : Cell} : settle S (.ref S.length) (S ++ [c]) = S ++ [c] := by unfold settle; simp [IV.lt]
theorem st_new {c : Cell} : (Rs.ok (.ref S.length) (S ++ [c])).settle S = .ok (.ref S.length) (S ++ [c]) := by simp only [Rs.settle, settle_new]
theorem st_int {i : Int} {G : Sto} : (Rs.ok (.int i) (S ++ G)).settle S = .ok (.int i) S := by simp only [Rs.settle]; rw [settle_append rfl]
theorem st_bl {i : Bool} {G : Sto} : (Rs.ok (.bl i) (S ++ G)).settle S = .ok (.bl i) S := by simp only [Rs.settle]; rw [settle_append rfl]
theorem st_str {i : Str} {G : Sto} : (Rs.ok (.str i) (S ++ G)).settle S = .ok (.str i) S := by simp only [Rs.settle]; rw [settle_append rfl]
/-! attributes, methods, new instances -/
theorem x_att {f : Str} {o : PX} : evE Γ (.att f o) τ S = (evE Γ o τ S).bind fun x S1 => attI Γ f x S1 := (rfl)
def metR (Γ : Gam) (q : Option Str) (x : IV) (r : Sto → Rs (List IV)) (S : Sto) : Rs IV := match q with
  | some q => (r S).bind fun xs S2 => Γ.call q (x :: xs) S2
  | none => .bad
theorem x_met {m : Str} {o : PX} {es : List PX} : evE Γ (.met m o es) τ S = (evE Γ o τ S).bind fun x S1 => metR Γ (metI Γ m es.isEmpty x S1) x (evEs Γ es τ) S1 := (rfl)
theorem metR_some {q : Str} {x : IV} {r : Sto → Rs (List IV)} : metR Γ (some q) x r S = (r S).bind fun xs S2 => Γ.call q (x :: xs) S2 := (rfl)
def newR (Γ : Gam) (y : IV) (r : Sto → Rs (List IV)) (S : Sto) : Rs IV := match y with
  | .cls c => if hasInit Γ c then (r S).bind fun xs S1 => mkI Γ c xs S1 else .bad
  | _ => .bad
theorem x_new {f : PX} {es : List PX} : evE Γ (.new f es) τ S = (evE Γ f τ S).bind fun y S0 => newR Γ y (evEs Γ es τ) S0 := (rfl)
theorem x_iso {a : PX} {c : Str} : evE Γ (.iso a c) τ S = (evE Γ a τ S).bind fun x S1 => isoI Γ x c S1 := (rfl)
def starR (y : IV) (S : Sto) : Rs (List IV) := match itemsI y S with
  | some ys => .ok ys S
  | none => .bad
theorem starR_tup {xs : List IV} : starR (.tup xs) S = .ok xs S := (rfl)
theorem x_calls {f : Str} {es : List PX} {e : PX} : evE Γ (.calls f es e) τ S = (evEs Γ es τ S).bind fun xs S1 => (evE Γ e τ S1).bind fun y S2 => (starR y S2).bind fun ys S3 => Γ.call f (xs ++ ys) S3 := by
  simp only [evE]
  congr 1; funext xs S1; congr 1; funext y S2
  unfold starR
  cases itemsI y S2 <;> rfl
theorem att_fld {n : Nat} {c f : Str} {fs : List (Str × IV)} {w : IV} (h : S[n]? = some (.ins c fs)) (ha : Γ.att c f = none) (hf : fs.lookup f = some w) : attI Γ f (.ref n) S = .ok w S := by simp only [attI, h, ha, hf]
theorem ok_only : okOnly (.ok v S) = .ok v S := (rfl)
theorem met_ins {n : Nat} {c m q : Str} {em : Bool} {fs : List (Str × IV)} (h : S[n]? = some (.ins c fs)) (ha : Γ.att c m = some (.meth q)) (hf : fs.lookup m = none) : metI Γ m em (.ref n) S = some q := by simp only [metI, h, ha, hf]
theorem s_fld {o e : PX} {f : Str} : evS Γ sub (.fld o f e) τ S = (evE Γ e τ S).thn τ fun v S1 => (evE Γ o τ S1).thn τ fun x S2 => fldN Γ f v x τ S2 := (rfl)
def enumR (x : IV) (S : Sto) : Rs Walk := match enumV x S with
  | some w => .ok w S
  | none => .bad
theorem xi_enum {e : PX} : evI Γ (.enum e) τ S = (evE Γ e τ S).bind fun x S1 => enumR x S1 := (rfl)
theorem enumR_tup {xs : List IV} : enumR (.tup xs) S = .ok ⟨enumI xs, none⟩ S := (rfl)
def zipR (x y : IV) (S : Sto) : Rs Walk := match x, y with
  | .tup xs, .tup ys => .ok ⟨zipI xs ys, none⟩ S
  | .tup xs, .ref n => match S[n]? with
    | some (.lst ys) => if xs.length = ys.length then .ok ⟨zipI xs ys, some (n, .lst ys)⟩ S else .bad
    | _ => .bad
  | _, _ => .bad
theorem xi_zip {a b : PX} : evI Γ (.zip a b) τ S = (evE Γ a τ S).bind fun x S1 => (evE Γ b τ S1).bind fun y S2 => zipR x y S2 := (rfl)
theorem zipR_tup {xs ys : List IV} : zipR (.tup xs) (.tup ys) S = .ok ⟨zipI xs ys, none⟩ S := (rfl)
theorem x_isi {a : PX} {T : Ty} : evE Γ (.isi a T) τ S = (evE Γ a τ S).bind fun x S1 => isiI x T S1 := (rfl)
theorem x_mth {m : Str} {o : PX} {es : List PX} : evE Γ (.mth m o es) τ S = (evE Γ o τ S).bind fun x S1 => if rcvI x S1 then (evEs Γ es τ S1).bind fun xs S2 => mthI m x xs S2 else if rcv2 m x S1 then (evEs Γ es τ S1).bind fun xs S2 => mth2 m x xs S2 else .bad := (rfl)
theorem x_smt {m : Str} {o e : PX} : evE Γ (.smt m o e) τ S = (evE Γ o τ S).bind fun x S1 => match x with
    | .str a => (evE Γ e τ S1).bind fun y S2 => smI m (.str a) y S2
    | _ => .bad := (rfl)
theorem x_fst {es : List PX} : evE Γ (.fst es) τ S = (evF Γ es Str.empty τ S).bind fun z S1 => .ok (.str z) S1 := (rfl)
theorem xf_nil {acc : Str} : evF Γ [] acc τ S = .ok acc S := (rfl)
theorem xf_cons {e : PX} {es : List PX} {acc : Str} : evF Γ (e :: es) acc τ S = (evE Γ e τ S).bind fun x S1 => match fmtI x with
    | some y => if (acc ++ y).length ≤ 1000000 then evF Γ es (acc ++ y) τ S1 else .bad
    | none => .bad := (rfl)
theorem xs_nil : evEs Γ [] τ S = .ok [] S := (rfl)
theorem xs_cons {e : PX} {es : List PX} : evEs Γ (e :: es) τ S = (evE Γ e τ S).bind fun x S1 => (evEs Γ es τ S1).bind fun xs S2 => .ok (x :: xs) S2 := (rfl)
theorem xo_none : evO Γ none τ S = .ok none S := (rfl)
def intR (x : IV) (S : Sto) : Rs (Option Int) := match x with
  | .int i => .ok (some i) S
  | _ => .bad
theorem intR_int {i : Int} : intR (.int i) S = .ok (some i) S := (rfl)
theorem xo_some {e : PX} : evO Γ (some e) τ S = (evE Γ e τ S).bind fun x S1 => intR x S1 := (rfl)
def walkR (x : IV) (S : Sto) : Rs Walk := match walkV x S with
  | some w => .ok w S
  | none => .bad
def rngR (xs : List IV) (S : Sto) : Rs Walk := match xs with
  | [.int n] => if decide (-(2 ^ 62) ≤ n) && decide (n < 2 ^ 62) then .ok ⟨rngI n.toNat, none⟩ S else .bad
  | [.int a, .int b] => if decide (-1000 ≤ a) && decide (a ≤ 1000) && decide (-1000 ≤ b) && decide (b ≤ 1000) then .ok ⟨rngJ a b, none⟩ S else .bad
  | _ => .bad
theorem xi_val {e : PX} : evI Γ (.val e) τ S = (evE Γ e τ S).bind fun x S1 => walkR x S1 := (rfl)
theorem xi_rng {es : List PX} : evI Γ (.rng es) τ S = (evEs Γ es τ S).bind fun xs S1 => rngR xs S1 := (rfl)
theorem rngR_nat {n : Nat} (h : n < 4000000000000000000) : rngR [.int (n : Nat)] S = .ok ⟨rngI n, none⟩ S := by
  simp only [rngR]
  rw [if_pos (by simp; omega)]
  simp
theorem walkR_tup {xs : List IV} : walkR (.tup xs) S = .ok ⟨xs, none⟩ S := (rfl)
theorem walkR_str {z : Str} : walkR (.str z) S = .ok ⟨signs z, none⟩ S := (rfl)
theorem walkR_lst {n : Nat} {xs : List IV} (h : S[n]? = some (.lst xs)) : walkR (.ref n) S = .ok ⟨xs, some (n, .lst xs)⟩ S := by simp only [walkR, walkV, h]
/-- one turn of a comprehension -/
def lcOne (Γ : Gam) (own : List Nat) (tg : Tg) (ifs : List PX) (elt : PX) (τ : Sl) (x : IV) (S : Sto) : Rs (Option IV) := match setT tg x (wipeI τ own) with
  | none => .bad
  | some τ' => (evTs Γ ifs τ' S).bind fun k S3 => if k then (evE Γ elt τ' S3).bind fun y S4 => .ok (some y) S4 else .ok none S3
theorem x_lc {own : List Nat} {tg : Tg} {it : PIt} {ifs : List PX} {elt : PX} : evE Γ (.lc own tg it ifs elt) τ S = (evI Γ it τ S).bind fun wk S1 =>
      (lcGo (lcOne Γ own tg ifs elt τ) wk.held wk.items [] S1).bind fun ys S2 => .ok (.ref S2.length) (S2 ++ [.lst ys]) := (rfl)
theorem ts_nil : evTs Γ [] τ S = .ok true S := (rfl)
def tsR (x : IV) (S : Sto) (r : Rs Bool) : Rs Bool := match x with
  | .bl true => r
  | .bl false => .ok false S
  | _ => .bad
theorem tsR_bl {b : Bool} {r : Rs Bool} : tsR (.bl b) S r = if b = true then r else .ok false S := by cases b <;> rfl
theorem ts_cons {e : PX} {es : List PX} : evTs Γ (e :: es) τ S = (evE Γ e τ S).bind fun x S1 => tsR x S1 (evTs Γ es τ S1) := (rfl)
/-! statements -/
def pickZ (v : IV) (a b : Rz) : Rz := match v with
  | .bl true => a
  | .bl false => b
  | _ => .bad
theorem pick_bl {k : Bool} {a b : Rz} : pickZ (.bl k) a b = if k = true then a else b := by cases k <;> rfl
theorem s_nil : evSs Γ sub [] τ S = .next τ S := (rfl)
noncomputable def rest (Γ : Gam) (sub : Str → Str → Bool) (ss : List Sm) (τ : Sl) (S : Sto) : Rz := evSs Γ sub ss τ S
theorem rest_eq {ss : List Sm} : rest Γ sub ss τ S = evSs Γ sub ss τ S := (rfl)
theorem s_cons {s : Sm} {ss : List Sm} : evSs Γ sub (s :: ss) τ S = (evS Γ sub s τ S).seq (rest Γ sub ss) := (rfl)
theorem s_expr {e : PX} : evS Γ sub (.expr e) τ S = (evE Γ e τ S).thn τ fun _ S1 => .next τ S1 := (rfl)
theorem s_ret {e : PX} : evS Γ sub (.ret e) τ S = (evE Γ e τ S).thn τ fun v S1 => .ret v S1 := (rfl)
theorem s_retN : evS Γ sub .retN τ S = .ret .non S := (rfl)
theorem s_pass : evS Γ sub .pass τ S = .next τ S := (rfl)
theorem s_brk : evS Γ sub .brk τ S = .brk τ S := (rfl)
theorem s_cnt : evS Γ sub .cnt τ S = .cnt τ S := (rfl)
theorem s_set {tg : Tg} {e : PX} : evS Γ sub (.set tg e) τ S = (evE Γ e τ S).thn τ fun v S1 => setN tg v τ S1 := (rfl)
theorem s_par {i j : Nat} {a b : PX} : evS Γ sub (.par i j a b) τ S = (evE Γ a τ S).thn τ fun x S1 => (evE Γ b τ S1).thn τ fun y S2 => .next ((τ.set i (some x)).set j (some y)) S2 := (rfl)
theorem s_par3 {i j l : Nat} {a b c : PX} : evS Γ sub (.par3 i j l a b c) τ S = (evE Γ a τ S).thn τ fun x S1 => (evE Γ b τ S1).thn τ fun y S2 => (evE Γ c τ S2).thn τ fun z S3 => .next (((τ.set i (some x)).set j (some y)).set l (some z)) S3 := (rfl)
theorem s_sub {o i e : PX} : evS Γ sub (.sub o i e) τ S = (evE Γ e τ S).thn τ fun v S1 => (evE Γ o τ S1).thn τ fun x S2 => (evE Γ i τ S2).thn τ fun y S3 => subN v x y τ S3 := (rfl)
theorem s_cond {c : PX} {a b : List Sm} : evS Γ sub (.cond c a b) τ S = (evE Γ c τ S).thn τ fun v S1 => pickZ v (evSs Γ sub a τ S1) (evSs Γ sub b τ S1) := (rfl)
theorem s_whil {c : PX} {b : List Sm} : evS Γ sub (.whil c b) τ S = whileC (evE Γ c) (evSs Γ sub b) τ S := (rfl)
theorem s_for {tg : Tg} {it : PIt} {b : List Sm} : evS Γ sub (.for tg it b) τ S = (evI Γ it τ S).thn τ fun wk S1 => forGo (evSs Γ sub b) tg wk.held wk.items τ S1 := (rfl)
theorem s_raise {c : Str} : evS Γ sub (.raise c) τ S = .exc c τ S := (rfl)
noncomputable def catR (Γ : Gam) (sub : Str → Str → Bool) (hs : List (Str × List Sm)) (r : Rz) : Rz := match r with
  | .exc c τ1 S1 => catchI sub (evHs Γ sub hs) c τ1 S1
  | r => r
theorem s_try {b : List Sm} {hs : List (Str × List Sm)} : evS Γ sub (.tryx b hs) τ S = catR Γ sub hs (evSs Γ sub b τ S) := (rfl)
noncomputable def catA (Γ : Gam) (sub : Str → Str → Bool) (i : Nat) (d : Str) (hs : List (Str × List Sm)) (r : Rz) : Rz := match r with
  | .exc c τ1 S1 => catchA sub i d (evHs Γ sub hs) c τ1 S1
  | r => r
theorem s_tryas {b : List Sm} {i : Nat} {d : Str} {hs : List (Str × List Sm)} : evS Γ sub (.tryas b i d hs) τ S = catA Γ sub i d hs (evSs Γ sub b τ S) := (rfl)
theorem cat_next {hs : List (Str × List Sm)} : catR Γ sub hs (.next τ S) = .next τ S := (rfl)
theorem cat_ret {hs : List (Str × List Sm)} : catR Γ sub hs (.ret v S) = .ret v S := (rfl)
theorem cat_brk {hs : List (Str × List Sm)} : catR Γ sub hs (.brk τ S) = .brk τ S := (rfl)
theorem cat_cnt {hs : List (Str × List Sm)} : catR Γ sub hs (.cnt τ S) = .cnt τ S := (rfl)
theorem q_ret : quietZ (.ret v S) = .ret v S := (rfl)
theorem q_next : quietZ (.next τ S) = .next τ S := (rfl)
theorem q_brk : quietZ (.brk τ S) = .brk τ S := (rfl)
theorem q_cnt : quietZ (.cnt τ S) = .cnt τ S := (rfl)
def augR (i : Nat) (o : Bop) (x : Option (Option IV)) (r : Sto → Rs IV) (τ : Sl) (S : Sto) : Rz := match x with
  | some (some x) => (r S).thn τ fun y S1 => augN i o x y τ S1
  | _ => .bad
theorem s_aug {i : Nat} {o : Bop} {e : PX} : evS Γ sub (.aug i o e) τ S = augR i o τ[i]? (evE Γ e τ) τ S := (rfl)
theorem augR_some {i : Nat} {o : Bop} {r : Sto → Rs IV} : augR i o (some (some v)) r τ S = (r S).thn τ fun y S1 => augN i o v y τ S1 := (rfl)
theorem aug_add {i : Nat} {p q : Int} : augN i .add (.int p) (.int q) τ S = .next (τ.set i (some (.int (p + q)))) S := (rfl)
theorem aug_sub {i : Nat} {p q : Int} : augN i .sub (.int p) (.int q) τ S = .next (τ.set i (some (.int (p - q)))) S := (rfl)
theorem set_nm {i : Nat} : setN (.nm i) v τ S = .next (τ.set i (some v)) S := (rfl)
def ofO (o : Option Sl) (S : Sto) : Rz := match o with
  | some τ => .next τ S
  | none => .bad
theorem ofO_some : ofO (some τ) S = .next τ S := (rfl)
theorem set_tp {ts : List Tg} {xs : List IV} : setN (.tp ts) (.tup xs) τ S = ofO (setTs ts xs τ) S := by simp only [setN, setT, ofO] <;> (cases setTs ts xs τ <;> rfl)
theorem t_nil : setTs [] [] τ = some τ := (rfl)
theorem t_nm {i : Nat} {ts : List Tg} {xs : List IV} : setTs (.nm i :: ts) (v :: xs) τ = setTs ts xs (τ.set i (some v)) := (rfl)
theorem sT_nm {i : Nat} : setT (.nm i) v τ = some (τ.set i (some v)) := (rfl)
theorem sT_tp {ts : List Tg} {xs : List IV} : setT (.tp ts) (.tup xs) τ = setTs ts xs τ := (rfl)
/-! operators -/
variable {i j : Int}
theorem b_add : binI .add (.int i) (.int j) S = .ok (.int (i + j)) S := (rfl)
theorem b_sub : binI .sub (.int i) (.int j) S = .ok (.int (i - j)) S := (rfl)
theorem b_mul (h : mulOk i j = true) : binI .mul (.int i) (.int j) S = .ok (.int (i * j)) S := if_pos h
theorem b_fdiv (h : divOk j = true) : binI .fdiv (.int i) (.int j) S = .ok (.int (i.fdiv j)) S := if_pos h
theorem b_mod (h : j ≠ 0) : binI .mod (.int i) (.int j) S = .ok (.int (i.fmod j)) S := if_neg h
theorem b_pow (h : powOk i j = true) : binI .pow (.int i) (.int j) S = .ok (.int (i ^ j.toNat)) S := if_pos h
theorem b_lst {m n : Nat} {x y : List IV} (h1 : S[m]? = some (.lst x)) (h2 : S[n]? = some (.lst y)) (h : szOk (x.length + y.length) = true) : binI .add (.ref m) (.ref n) S = .ok (.ref S.length) (S ++ [.lst (x ++ y)]) := by
  simp only [binI, h1, h2, h, if_true, alloc]
theorem n_int : negI (.int i) S = .ok (.int (-i)) S := (rfl)
theorem c_lt : cmpI .lt (.int i) (.int j) S = .ok (.bl (decide (i < j))) S := (rfl)
theorem c_le : cmpI .le (.int i) (.int j) S = .ok (.bl (decide (i ≤ j))) S := (rfl)
theorem c_gt : cmpI .gt (.int i) (.int j) S = .ok (.bl (decide (j < i))) S := (rfl)
theorem c_ge : cmpI .ge (.int i) (.int j) S = .ok (.bl (decide (j ≤ i))) S := (rfl)
theorem c_eq : cmpI .eq (.int i) (.int j) S = .ok (.bl (decide (i = j))) S := (rfl)
theorem c_ne : cmpI .ne (.int i) (.int j) S = .ok (.bl (!decide (i = j))) S := (rfl)
theorem c_eqs {x y : Str} : cmpI .eq (.str x) (.str y) S = .ok (.bl (decide (x = y))) S := (rfl)
theorem c_nes {x y : Str} : cmpI .ne (.str x) (.str y) S = .ok (.bl (!decide (x = y))) S := (rfl)
theorem c_eqb {x y : Bool} : cmpI .eq (.bl x) (.bl y) S = .ok (.bl (decide (x = y))) S := (rfl)
theorem i_tup {xs : List IV} : ixI (.tup xs) (.int i) S = getO (atI xs i) S := by simp only [ixI, itemsI, getO] <;> (cases atI xs i <;> rfl)
theorem i_lst {n : Nat} {xs : List IV} (h : S[n]? = some (.lst xs)) : ixI (.ref n) (.int i) S = getO (atI xs i) S := by simp only [ixI, itemsI, h, getO] <;> (cases atI xs i <;> rfl)
theorem i_frz {n : Nat} {xs : List IV} (h : S[n]? = some (.frz xs)) : ixI (.ref n) (.int i) S = getO (atI xs i) S := by simp only [ixI, itemsI, h, getO] <;> (cases atI xs i <;> rfl)
theorem l_tup {xs : List IV} : bltI .len [.tup xs] S = .ok (.int xs.length) S := (rfl)
theorem l_lst {n : Nat} {xs : List IV} (h : S[n]? = some (.lst xs)) : bltI .len [.ref n] S = .ok (.int xs.length) S := by simp only [bltI, lenI, itemsI, h]
theorem l_frz {n : Nat} {xs : List IV} (h : S[n]? = some (.frz xs)) : bltI .len [.ref n] S = .ok (.int xs.length) S := by simp only [bltI, lenI, itemsI, h]
theorem f_abs : bltI .abs [.int i] S = .ok (.int i.natAbs) S := by
  have : (if i < 0 then -i else i) = (i.natAbs : Int) := by split <;> omega
  simp only [bltI, this]
theorem f_max : bltI .max [.int i, .int j] S = .ok (.int (max i j)) S := by
  have : (if j > i then j else i) = max i j := by split <;> omega
  simp only [bltI, this]
theorem f_min : bltI .min [.int i, .int j] S = .ok (.int (min i j)) S := by
  have : (if j < i then j else i) = min i j := by split <;> omega
  simp only [bltI, this]
theorem at0 {a : IV} {l : List IV} : atI (a :: l) 0 = some a := by
  have := atI_nat (xs := a :: l) (j := 0) (v := a) rfl
  simpa using this
theorem at1 {a b : IV} {l : List IV} : atI (a :: b :: l) 1 = some b := by
  have := atI_nat (xs := a :: b :: l) (j := 1) (v := b) rfl
  simpa using this
theorem at2 {a b c : IV} {l : List IV} : atI (a :: b :: c :: l) 2 = some c := by
  have := atI_nat (xs := a :: b :: c :: l) (j := 2) (v := c) rfl
  simpa using this
end
/-! sizes -/
theorem log_of {i : Int} {k : Nat} (h : i.natAbs < 2 ^ k) (hk : 0 < k) : i.natAbs.log2 < k := by
  by_cases z : i.natAbs = 0
  · rw [z]; simpa using hk
  · exact (Nat.log2_lt z).mpr h
theorem mulOk_r {i j : Int} (h : j.natAbs < 2 ^ 64) : mulOk i j = true := by
  simp only [mulOk, Bool.or_eq_true, decide_eq_true_eq]
  exact .inr h
def Has (pr : Prg) (f : Str) (d : PD) : Prop := pr.defs.lookup f = some d
noncomputable abbrev gam (pr : Prg) (k : Nat) : Gam := mkGam pr (run pr k)
theorem run_eq {pr : Prg} {f : Str} {d : PD} {vs : List IV} {S : Sto} {k : Nat} (h : Has pr f d) (hl : vs.length = d.np) (hn : d.np < 1000 := by decide) : run pr (k + 1) f vs S = (evSs (gam pr k) pr.sub d.body (vs.map some ++ List.replicate (d.ns - vs.length) none) S).done S := by
  unfold Has at h
  rw [run, h]
  simp only [hl, hn, if_true, startI]
end Wg
/-! WgX: the defs that many laws share. -/
namespace Wg
open PySem L2
def d_is_integer : PD := ⟨1, 1, [
    .ret (.and (.isi (.loc 0) .int) (.not (.isi (.loc 0) .bool)))]⟩
def d_greatest_divisor : PD := ⟨2, 2, [
    .set (.nm 0) (.blt .abs [(.loc 0)]),
    .set (.nm 1) (.blt .abs [(.loc 1)]),
    .whil (.cmp .gt (.loc 1) (.k (.int 0))) [
      .par 0 1 (.loc 1) (.bin .mod (.loc 0) (.loc 1))],
    .ret (.loc 0)]⟩
def d_reduced : PD := ⟨2, 3, [
    .set (.nm 2) (.call "greatest_divisor" [(.loc 0), (.loc 1)]),
    .cond (.cmp .lt (.loc 1) (.k (.int 0))) [
      .set (.nm 2) (.neg (.loc 2))] [],
    .ret (.tup [(.bin .fdiv (.loc 0) (.loc 2)), (.bin .fdiv (.loc 1) (.loc 2))])]⟩
def d_l_fraction : PD := ⟨2, 3, [
    .set (.nm 2) (.call "_law_divisor" [(.loc 0), (.loc 1)]),
    .cond (.cmp .lt (.loc 1) (.k (.int 0))) [
      .set (.nm 2) (.bin .sub (.k (.int 0)) (.loc 2))] [],
    .ret (.tup [(.bin .fdiv (.loc 0) (.loc 2)), (.bin .fdiv (.loc 1) (.loc 2))])]⟩
def d_l_cell : PD := ⟨2, 2, [
    .cond (.cmp .lt (.loc 1) (.blt .len [(.loc 0)])) [
      .ret (.ix (.loc 0) (.loc 1))] [],
    .ret (.k (.int 0))]⟩
def d_l_source : PD := ⟨1, 1, [
    .ret (.lst [(.blt .max [(.k (.int 0)), (.bin .sub (.loc 0) (.bin .pow (.k (.int 10)) (.k (.int 18))))]), (.bin .add (.bin .mod (.loc 0) (.k (.int 2147483629))) (.k (.int 1))), (.k (.int 0))])]⟩
section
variable {pr : Prg} {k : Nat} {S : Sto} {f : Str}
def isInt : IV → Bool
  | .int _ => true
  | _ => false
/-- a plain cell: no instance -/
def plainC : Cell → Bool
  | .ins _ _ => false
  | .dtt _ => false
  | _ => true
def plainV (S : Sto) : IV → Prop
  | .ref n => ∃ c, S[n]? = some c ∧ plainC c = true
  | .cls _ => False
  | _ => True
theorem is_integer_run (h : Has pr f d_is_integer) (v : IV) (hs : plainV S v) : run pr (k + 1) f [v] S = .ok (.bl (isInt v)) S := by
  rw [run_eq h rfl]
  cases v with
  | ref n =>
    obtain ⟨c, h1, h2⟩ := hs
    cases c <;> simp [d_is_integer, bind_ok, bind_exc, thn_ok, thn_exc, seq_next, seq_ret, seq_brk, seq_cnt, seq_exc, done_ret, done_next, done_exc, tr_ok, tr_exc, getI_some, getO_some, x_k, x_loc, x_glb, x_bin, x_neg, x_cmp, x_chain, x_and, x_or, x_not, x_ite, mkTu_0, mkTu_1, mkTu_2, mkTu_3, mkTu_4, mkLi_0, mkLi_1, mkLi_2, mkLi_3, mkLi_4, x_tup, x_lst, x_dct0, x_dct1, x_ix, x_sl, x_rev, r_tup, x_rgs, x_call, x_blt, st_self, st_exc, st_excA, x_gc, st_new, st_int, st_bl, st_str, x_att, x_met, metR_some, x_new, x_iso, x_calls, starR_tup, ok_only, s_fld, xi_enum, enumR_tup, xi_zip, zipR_tup, q_ret, q_next, q_brk, q_cnt, List.isEmpty_cons, List.isEmpty_nil, x_isi, x_mth, xs_nil, xs_cons, xo_none, intR_int, xo_some, xi_val, xi_rng, walkR_tup, walkR_str, x_lc, ts_nil, tsR_bl, ts_cons, pick_bl, s_nil, s_cons, rest_eq, s_expr, s_ret, s_retN, s_pass, s_brk, s_cnt, s_set, s_par, s_par3, s_sub, s_cond, s_whil, s_for, s_raise, s_try, cat_next, cat_ret, cat_brk, cat_cnt, s_aug, augR_some, aug_add, aug_sub, set_nm, ofO_some, set_tp, t_nil, t_nm, sT_nm, sT_tp, b_add, b_sub, n_int, c_lt, c_le, c_gt, c_ge, c_eq, c_ne, c_eqs, c_nes, c_eqb, i_tup, l_tup, f_abs, f_max, f_min, at0, at1, at2, settle_self, List.map_cons, List.map_nil, List.length_cons, List.length_nil, List.cons_append, List.nil_append, List.append_nil, List.getElem?_cons_zero, List.getElem?_cons_succ, List.set_cons_zero, List.set_cons_succ, List.replicate, Nat.sub_self, Nat.zero_add, Nat.reduceAdd, Nat.reduceSub, isiI, isInt, plainC, h1] at h2 ⊢
  | cls n => exact hs.elim
  | _ => simp [d_is_integer, bind_ok, bind_exc, thn_ok, thn_exc, seq_next, seq_ret, seq_brk, seq_cnt, seq_exc, done_ret, done_next, done_exc, tr_ok, tr_exc, getI_some, getO_some, x_k, x_loc, x_glb, x_bin, x_neg, x_cmp, x_chain, x_and, x_or, x_not, x_ite, mkTu_0, mkTu_1, mkTu_2, mkTu_3, mkTu_4, mkLi_0, mkLi_1, mkLi_2, mkLi_3, mkLi_4, x_tup, x_lst, x_dct0, x_dct1, x_ix, x_sl, x_rev, r_tup, x_rgs, x_call, x_blt, st_self, st_exc, st_excA, x_gc, st_new, st_int, st_bl, st_str, x_att, x_met, metR_some, x_new, x_iso, x_calls, starR_tup, ok_only, s_fld, xi_enum, enumR_tup, xi_zip, zipR_tup, q_ret, q_next, q_brk, q_cnt, List.isEmpty_cons, List.isEmpty_nil, x_isi, x_mth, xs_nil, xs_cons, xo_none, intR_int, xo_some, xi_val, xi_rng, walkR_tup, walkR_str, x_lc, ts_nil, tsR_bl, ts_cons, pick_bl, s_nil, s_cons, rest_eq, s_expr, s_ret, s_retN, s_pass, s_brk, s_cnt, s_set, s_par, s_par3, s_sub, s_cond, s_whil, s_for, s_raise, s_try, cat_next, cat_ret, cat_brk, cat_cnt, s_aug, augR_some, aug_add, aug_sub, set_nm, ofO_some, set_tp, t_nil, t_nm, sT_nm, sT_tp, b_add, b_sub, n_int, c_lt, c_le, c_gt, c_ge, c_eq, c_ne, c_eqs, c_nes, c_eqb, i_tup, l_tup, f_abs, f_max, f_min, at0, at1, at2, settle_self, List.map_cons, List.map_nil, List.length_cons, List.length_nil, List.cons_append, List.nil_append, List.append_nil, List.getElem?_cons_zero, List.getElem?_cons_succ, List.set_cons_zero, List.set_cons_succ, List.replicate, Nat.sub_self, Nat.zero_add, Nat.reduceAdd, Nat.reduceSub, isiI, isInt]
theorem gd_run (h : Has pr f d_greatest_divisor) (a b : Int) : run pr (k + 1) f [.int a, .int b] S = .ok (.int (Int.gcd a b)) S := by
  rw [run_eq h rfl]
  have loop : ∀ (n m : Nat), whileC (evE (gam pr k) (.cmp .gt (.loc 1) (.k (.int 0)))) (evSs (gam pr k) pr.sub [.par 0 1 (.loc 1) (.bin .mod (.loc 0) (.loc 1))]) [some (.int (m : Nat)), some (.int (n : Nat))] S = .next [some (.int (Nat.gcd m n : Nat)), some (.int 0)] S := by
    intro n
    induction n using Nat.strongRecOn with
    | _ n ih =>
      intro m
      by_cases hn : n = 0
      · subst hn
        refine (whileC_stop (S1 := S) ?_).trans ?_
        · simp [bind_ok, bind_exc, thn_ok, thn_exc, seq_next, seq_ret, seq_brk, seq_cnt, seq_exc, done_ret, done_next, done_exc, tr_ok, tr_exc, getI_some, getO_some, x_k, x_loc, x_glb, x_bin, x_neg, x_cmp, x_chain, x_and, x_or, x_not, x_ite, mkTu_0, mkTu_1, mkTu_2, mkTu_3, mkTu_4, mkLi_0, mkLi_1, mkLi_2, mkLi_3, mkLi_4, x_tup, x_lst, x_dct0, x_dct1, x_ix, x_sl, x_rev, r_tup, x_rgs, x_call, x_blt, st_self, st_exc, st_excA, x_gc, st_new, st_int, st_bl, st_str, x_att, x_met, metR_some, x_new, x_iso, x_calls, starR_tup, ok_only, s_fld, xi_enum, enumR_tup, xi_zip, zipR_tup, q_ret, q_next, q_brk, q_cnt, List.isEmpty_cons, List.isEmpty_nil, x_isi, x_mth, xs_nil, xs_cons, xo_none, intR_int, xo_some, xi_val, xi_rng, walkR_tup, walkR_str, x_lc, ts_nil, tsR_bl, ts_cons, pick_bl, s_nil, s_cons, rest_eq, s_expr, s_ret, s_retN, s_pass, s_brk, s_cnt, s_set, s_par, s_par3, s_sub, s_cond, s_whil, s_for, s_raise, s_try, cat_next, cat_ret, cat_brk, cat_cnt, s_aug, augR_some, aug_add, aug_sub, set_nm, ofO_some, set_tp, t_nil, t_nm, sT_nm, sT_tp, b_add, b_sub, n_int, c_lt, c_le, c_gt, c_ge, c_eq, c_ne, c_eqs, c_nes, c_eqb, i_tup, l_tup, f_abs, f_max, f_min, at0, at1, at2, settle_self, List.map_cons, List.map_nil, List.length_cons, List.length_nil, List.cons_append, List.nil_append, List.append_nil, List.getElem?_cons_zero, List.getElem?_cons_succ, List.set_cons_zero, List.set_cons_succ, List.replicate, Nat.sub_self, Nat.zero_add, Nat.reduceAdd, Nat.reduceSub]
        · simp
      · have hp : 0 < n := Nat.pos_of_ne_zero hn
        have hz : (n : Int) ≠ 0 := by omega
        have e : (m : Int).fmod n = ((m % n : Nat) : Int) := by rw [Int.fmod_eq_emod_of_nonneg _ (by omega)]; simp
        refine (whileC_step (S1 := S) (τ2 := [some (.int n), some (.int (m % n : Nat))]) (S2 := S) ?_ ?_).trans ?_
        · simp only [bind_ok, bind_exc, thn_ok, thn_exc, seq_next, seq_ret, seq_brk, seq_cnt, seq_exc, done_ret, done_next, done_exc, tr_ok, tr_exc, getI_some, getO_some, x_k, x_loc, x_glb, x_bin, x_neg, x_cmp, x_chain, x_and, x_or, x_not, x_ite, mkTu_0, mkTu_1, mkTu_2, mkTu_3, mkTu_4, mkLi_0, mkLi_1, mkLi_2, mkLi_3, mkLi_4, x_tup, x_lst, x_dct0, x_dct1, x_ix, x_sl, x_rev, r_tup, x_rgs, x_call, x_blt, st_self, st_exc, st_excA, x_gc, st_new, st_int, st_bl, st_str, x_att, x_met, metR_some, x_new, x_iso, x_calls, starR_tup, ok_only, s_fld, xi_enum, enumR_tup, xi_zip, zipR_tup, q_ret, q_next, q_brk, q_cnt, List.isEmpty_cons, List.isEmpty_nil, x_isi, x_mth, xs_nil, xs_cons, xo_none, intR_int, xo_some, xi_val, xi_rng, walkR_tup, walkR_str, x_lc, ts_nil, tsR_bl, ts_cons, pick_bl, s_nil, s_cons, rest_eq, s_expr, s_ret, s_retN, s_pass, s_brk, s_cnt, s_set, s_par, s_par3, s_sub, s_cond, s_whil, s_for, s_raise, s_try, cat_next, cat_ret, cat_brk, cat_cnt, s_aug, augR_some, aug_add, aug_sub, set_nm, ofO_some, set_tp, t_nil, t_nm, sT_nm, sT_tp, b_add, b_sub, n_int, c_lt, c_le, c_gt, c_ge, c_eq, c_ne, c_eqs, c_nes, c_eqb, i_tup, l_tup, f_abs, f_max, f_min, at0, at1, at2, settle_self, List.map_cons, List.map_nil, List.length_cons, List.length_nil, List.cons_append, List.nil_append, List.append_nil, List.getElem?_cons_zero, List.getElem?_cons_succ, List.set_cons_zero, List.set_cons_succ, List.replicate, Nat.sub_self, Nat.zero_add, Nat.reduceAdd, Nat.reduceSub]; rw [decide_eq_true (by omega)]
        · simp only [bind_ok, bind_exc, thn_ok, thn_exc, seq_next, seq_ret, seq_brk, seq_cnt, seq_exc, done_ret, done_next, done_exc, tr_ok, tr_exc, getI_some, getO_some, x_k, x_loc, x_glb, x_bin, x_neg, x_cmp, x_chain, x_and, x_or, x_not, x_ite, mkTu_0, mkTu_1, mkTu_2, mkTu_3, mkTu_4, mkLi_0, mkLi_1, mkLi_2, mkLi_3, mkLi_4, x_tup, x_lst, x_dct0, x_dct1, x_ix, x_sl, x_rev, r_tup, x_rgs, x_call, x_blt, st_self, st_exc, st_excA, x_gc, st_new, st_int, st_bl, st_str, x_att, x_met, metR_some, x_new, x_iso, x_calls, starR_tup, ok_only, s_fld, xi_enum, enumR_tup, xi_zip, zipR_tup, q_ret, q_next, q_brk, q_cnt, List.isEmpty_cons, List.isEmpty_nil, x_isi, x_mth, xs_nil, xs_cons, xo_none, intR_int, xo_some, xi_val, xi_rng, walkR_tup, walkR_str, x_lc, ts_nil, tsR_bl, ts_cons, pick_bl, s_nil, s_cons, rest_eq, s_expr, s_ret, s_retN, s_pass, s_brk, s_cnt, s_set, s_par, s_par3, s_sub, s_cond, s_whil, s_for, s_raise, s_try, cat_next, cat_ret, cat_brk, cat_cnt, s_aug, augR_some, aug_add, aug_sub, set_nm, ofO_some, set_tp, t_nil, t_nm, sT_nm, sT_tp, b_add, b_sub, n_int, c_lt, c_le, c_gt, c_ge, c_eq, c_ne, c_eqs, c_nes, c_eqb, i_tup, l_tup, f_abs, f_max, f_min, at0, at1, at2, settle_self, List.map_cons, List.map_nil, List.length_cons, List.length_nil, List.cons_append, List.nil_append, List.append_nil, List.getElem?_cons_zero, List.getElem?_cons_succ, List.set_cons_zero, List.set_cons_succ, List.replicate, Nat.sub_self, Nat.zero_add, Nat.reduceAdd, Nat.reduceSub, b_mod hz, e]
        · rw [ih _ (Nat.mod_lt _ hp) n, Nat.gcd_comm m n, Nat.gcd_comm n (m % n), ← Nat.gcd_rec]
  simp only [d_greatest_divisor, bind_ok, bind_exc, thn_ok, thn_exc, seq_next, seq_ret, seq_brk, seq_cnt, seq_exc, done_ret, done_next, done_exc, tr_ok, tr_exc, getI_some, getO_some, x_k, x_loc, x_glb, x_bin, x_neg, x_cmp, x_chain, x_and, x_or, x_not, x_ite, mkTu_0, mkTu_1, mkTu_2, mkTu_3, mkTu_4, mkLi_0, mkLi_1, mkLi_2, mkLi_3, mkLi_4, x_tup, x_lst, x_dct0, x_dct1, x_ix, x_sl, x_rev, r_tup, x_rgs, x_call, x_blt, st_self, st_exc, st_excA, x_gc, st_new, st_int, st_bl, st_str, x_att, x_met, metR_some, x_new, x_iso, x_calls, starR_tup, ok_only, s_fld, xi_enum, enumR_tup, xi_zip, zipR_tup, q_ret, q_next, q_brk, q_cnt, List.isEmpty_cons, List.isEmpty_nil, x_isi, x_mth, xs_nil, xs_cons, xo_none, intR_int, xo_some, xi_val, xi_rng, walkR_tup, walkR_str, x_lc, ts_nil, tsR_bl, ts_cons, pick_bl, s_nil, s_cons, rest_eq, s_expr, s_ret, s_retN, s_pass, s_brk, s_cnt, s_set, s_par, s_par3, s_sub, s_cond, s_whil, s_for, s_raise, s_try, cat_next, cat_ret, cat_brk, cat_cnt, s_aug, augR_some, aug_add, aug_sub, set_nm, ofO_some, set_tp, t_nil, t_nm, sT_nm, sT_tp, b_add, b_sub, n_int, c_lt, c_le, c_gt, c_ge, c_eq, c_ne, c_eqs, c_nes, c_eqb, i_tup, l_tup, f_abs, f_max, f_min, at0, at1, at2, settle_self, List.map_cons, List.map_nil, List.length_cons, List.length_nil, List.cons_append, List.nil_append, List.append_nil, List.getElem?_cons_zero, List.getElem?_cons_succ, List.set_cons_zero, List.set_cons_succ, List.replicate, Nat.sub_self, Nat.zero_add, Nat.reduceAdd, Nat.reduceSub]
  rw [loop]
  simp only [bind_ok, bind_exc, thn_ok, thn_exc, seq_next, seq_ret, seq_brk, seq_cnt, seq_exc, done_ret, done_next, done_exc, tr_ok, tr_exc, getI_some, getO_some, x_k, x_loc, x_glb, x_bin, x_neg, x_cmp, x_chain, x_and, x_or, x_not, x_ite, mkTu_0, mkTu_1, mkTu_2, mkTu_3, mkTu_4, mkLi_0, mkLi_1, mkLi_2, mkLi_3, mkLi_4, x_tup, x_lst, x_dct0, x_dct1, x_ix, x_sl, x_rev, r_tup, x_rgs, x_call, x_blt, st_self, st_exc, st_excA, x_gc, st_new, st_int, st_bl, st_str, x_att, x_met, metR_some, x_new, x_iso, x_calls, starR_tup, ok_only, s_fld, xi_enum, enumR_tup, xi_zip, zipR_tup, q_ret, q_next, q_brk, q_cnt, List.isEmpty_cons, List.isEmpty_nil, x_isi, x_mth, xs_nil, xs_cons, xo_none, intR_int, xo_some, xi_val, xi_rng, walkR_tup, walkR_str, x_lc, ts_nil, tsR_bl, ts_cons, pick_bl, s_nil, s_cons, rest_eq, s_expr, s_ret, s_retN, s_pass, s_brk, s_cnt, s_set, s_par, s_par3, s_sub, s_cond, s_whil, s_for, s_raise, s_try, cat_next, cat_ret, cat_brk, cat_cnt, s_aug, augR_some, aug_add, aug_sub, set_nm, ofO_some, set_tp, t_nil, t_nm, sT_nm, sT_tp, b_add, b_sub, n_int, c_lt, c_le, c_gt, c_ge, c_eq, c_ne, c_eqs, c_nes, c_eqb, i_tup, l_tup, f_abs, f_max, f_min, at0, at1, at2, settle_self, List.map_cons, List.map_nil, List.length_cons, List.length_nil, List.cons_append, List.nil_append, List.append_nil, List.getElem?_cons_zero, List.getElem?_cons_succ, List.set_cons_zero, List.set_cons_succ, List.replicate, Nat.sub_self, Nat.zero_add, Nat.reduceAdd, Nat.reduceSub, Int.gcd]
/-- lowest terms -/
def redI (a b : Int) : Int × Int := let d : Int := if b < 0 then -(Int.gcd a b : Int) else Int.gcd a b
  (a.fdiv d, b.fdiv d)
/-- the script's cell -/
def cellAt (ns : List Int) (i : Nat) : Int := ns.getD i 0
theorem l_cell_run (h : Has pr f d_l_cell) {ns : List Int} (hS : S[0]? = some (.frz (ns.map .int))) (i : Nat) : run pr (k + 1) f [.ref 0, .int i] S = .ok (.int (cellAt ns i)) S := by
  rw [run_eq h rfl]
  by_cases hi : i < ns.length
  · have e : atI (ns.map IV.int) (i : Int) = some (.int (cellAt ns i)) := atI_nat (by simp [cellAt, hi])
    have q : (i : Int) < (ns.length : Int) := by omega
    simp only [d_l_cell, bind_ok, bind_exc, thn_ok, thn_exc, seq_next, seq_ret, seq_brk, seq_cnt, seq_exc, done_ret, done_next, done_exc, tr_ok, tr_exc, getI_some, getO_some, x_k, x_loc, x_glb, x_bin, x_neg, x_cmp, x_chain, x_and, x_or, x_not, x_ite, mkTu_0, mkTu_1, mkTu_2, mkTu_3, mkTu_4, mkLi_0, mkLi_1, mkLi_2, mkLi_3, mkLi_4, x_tup, x_lst, x_dct0, x_dct1, x_ix, x_sl, x_rev, r_tup, x_rgs, x_call, x_blt, st_self, st_exc, st_excA, x_gc, st_new, st_int, st_bl, st_str, x_att, x_met, metR_some, x_new, x_iso, x_calls, starR_tup, ok_only, s_fld, xi_enum, enumR_tup, xi_zip, zipR_tup, q_ret, q_next, q_brk, q_cnt, List.isEmpty_cons, List.isEmpty_nil, x_isi, x_mth, xs_nil, xs_cons, xo_none, intR_int, xo_some, xi_val, xi_rng, walkR_tup, walkR_str, x_lc, ts_nil, tsR_bl, ts_cons, pick_bl, s_nil, s_cons, rest_eq, s_expr, s_ret, s_retN, s_pass, s_brk, s_cnt, s_set, s_par, s_par3, s_sub, s_cond, s_whil, s_for, s_raise, s_try, cat_next, cat_ret, cat_brk, cat_cnt, s_aug, augR_some, aug_add, aug_sub, set_nm, ofO_some, set_tp, t_nil, t_nm, sT_nm, sT_tp, b_add, b_sub, n_int, c_lt, c_le, c_gt, c_ge, c_eq, c_ne, c_eqs, c_nes, c_eqb, i_tup, l_tup, f_abs, f_max, f_min, at0, at1, at2, settle_self, List.map_cons, List.map_nil, List.length_cons, List.length_nil, List.cons_append, List.nil_append, List.append_nil, List.getElem?_cons_zero, List.getElem?_cons_succ, List.set_cons_zero, List.set_cons_succ, List.replicate, Nat.sub_self, Nat.zero_add, Nat.reduceAdd, Nat.reduceSub, l_frz hS, List.length_map, q, decide_true, if_true, i_frz hS, e]
  · have q : ¬ (i : Int) < (ns.length : Int) := by omega
    have e : cellAt ns i = 0 := by simp [cellAt]; rw [List.getElem?_eq_none (by omega)]; rfl
    simp only [d_l_cell, bind_ok, bind_exc, thn_ok, thn_exc, seq_next, seq_ret, seq_brk, seq_cnt, seq_exc, done_ret, done_next, done_exc, tr_ok, tr_exc, getI_some, getO_some, x_k, x_loc, x_glb, x_bin, x_neg, x_cmp, x_chain, x_and, x_or, x_not, x_ite, mkTu_0, mkTu_1, mkTu_2, mkTu_3, mkTu_4, mkLi_0, mkLi_1, mkLi_2, mkLi_3, mkLi_4, x_tup, x_lst, x_dct0, x_dct1, x_ix, x_sl, x_rev, r_tup, x_rgs, x_call, x_blt, st_self, st_exc, st_excA, x_gc, st_new, st_int, st_bl, st_str, x_att, x_met, metR_some, x_new, x_iso, x_calls, starR_tup, ok_only, s_fld, xi_enum, enumR_tup, xi_zip, zipR_tup, q_ret, q_next, q_brk, q_cnt, List.isEmpty_cons, List.isEmpty_nil, x_isi, x_mth, xs_nil, xs_cons, xo_none, intR_int, xo_some, xi_val, xi_rng, walkR_tup, walkR_str, x_lc, ts_nil, tsR_bl, ts_cons, pick_bl, s_nil, s_cons, rest_eq, s_expr, s_ret, s_retN, s_pass, s_brk, s_cnt, s_set, s_par, s_par3, s_sub, s_cond, s_whil, s_for, s_raise, s_try, cat_next, cat_ret, cat_brk, cat_cnt, s_aug, augR_some, aug_add, aug_sub, set_nm, ofO_some, set_tp, t_nil, t_nm, sT_nm, sT_tp, b_add, b_sub, n_int, c_lt, c_le, c_gt, c_ge, c_eq, c_ne, c_eqs, c_nes, c_eqb, i_tup, l_tup, f_abs, f_max, f_min, at0, at1, at2, settle_self, List.map_cons, List.map_nil, List.length_cons, List.length_nil, List.cons_append, List.nil_append, List.append_nil, List.getElem?_cons_zero, List.getElem?_cons_succ, List.set_cons_zero, List.set_cons_succ, List.replicate, Nat.sub_self, Nat.zero_add, Nat.reduceAdd, Nat.reduceSub, l_frz hS, List.length_map, q, decide_false, Bool.false_eq_true, if_false, e]
/-- the supply of draws at n, of at most t draws made -/
def Sup (n t : Nat) (S : Sto) : Prop := ∃ a b c : Int, S[n]? = some (.lst [.int a, .int b, .int c]) ∧ 0 ≤ b ∧ b < 2147483648 ∧ 0 ≤ c ∧ c ≤ t
/-- all but the supply is kept, new cells may come -/
structure Ext (n : Nat) (S S' : Sto) : Prop where
  len : S.length ≤ S'.length
  old : ∀ i, i < S.length → i ≠ n → S'[i]? = S[i]?
theorem Ext.rfl' {n : Nat} {S : Sto} : Ext n S S := ⟨Nat.le_refl _, fun _ _ _ => rfl⟩
theorem Ext.trans {n : Nat} {S S' S'' : Sto} (h : Ext n S S') (h' : Ext n S' S'') : Ext n S S'' := ⟨Nat.le_trans h.len h'.len, fun i hi hn => (h'.old i (Nat.lt_of_lt_of_le hi h.len) hn).trans (h.old i hi hn)⟩
theorem Ext.set {n : Nat} {S : Sto} {c : Cell} : Ext n S (S.set n c) := ⟨by simp, fun i hi hn => by rw [List.getElem?_set_ne (fun e => hn e.symm)]⟩
theorem get_lt {S : Sto} {n : Nat} {c : Cell} (h : S[n]? = some c) : n < S.length := by
  rcases Nat.lt_or_ge n S.length with q | q
  · exact q
  · rw [List.getElem?_eq_none q] at h; cases h
theorem Ext.get {n m : Nat} {S S' : Sto} {c : Cell} (h : Ext n S S') (e : S[m]? = some c) (hn : m ≠ n) : S'[m]? = some c := (h.old m (get_lt e) hn).trans e
theorem Sup.mono {n t u : Nat} {S : Sto} (h : Sup n t S) (hu : t ≤ u) : Sup n u S := by
  obtain ⟨a, b, c, h1, h2, h3, h4, h5⟩ := h
  exact ⟨a, b, c, h1, h2, h3, h4, by omega⟩
theorem l_source_run (h : Has pr f d_l_source) (z : Int) : ∃ c, run pr (k + 1) f [.int z] S = .ok (.ref S.length) (S ++ [c]) ∧ Sup S.length 0 (S ++ [c]) ∧ plainC c = true := by
  rw [run_eq h rfl]
  have h1 : powOk 10 18 = true := by decide
  have h2 : (2147483629 : Int) ≠ 0 := by decide
  have h3 := Int.fmod_nonneg_of_pos z (show (0:Int) < 2147483629 by decide)
  have h4 := Int.fmod_lt_of_pos z (show (0:Int) < 2147483629 by decide)
  refine ⟨.lst [.int (max 0 (z - 10 ^ (18 : Int).toNat)), .int (z.fmod 2147483629 + 1), .int 0], ?_, ⟨_, _, _, List.getElem?_concat_length, by omega, by omega, by omega, by omega⟩, rfl⟩
  simp only [d_l_source, bind_ok, bind_exc, thn_ok, thn_exc, seq_next, seq_ret, seq_brk, seq_cnt, seq_exc, done_ret, done_next, done_exc, tr_ok, tr_exc, getI_some, getO_some, x_k, x_loc, x_glb, x_bin, x_neg, x_cmp, x_chain, x_and, x_or, x_not, x_ite, mkTu_0, mkTu_1, mkTu_2, mkTu_3, mkTu_4, mkLi_0, mkLi_1, mkLi_2, mkLi_3, mkLi_4, x_tup, x_lst, x_dct0, x_dct1, x_ix, x_sl, x_rev, r_tup, x_rgs, x_call, x_blt, st_self, st_exc, st_excA, x_gc, st_new, st_int, st_bl, st_str, x_att, x_met, metR_some, x_new, x_iso, x_calls, starR_tup, ok_only, s_fld, xi_enum, enumR_tup, xi_zip, zipR_tup, q_ret, q_next, q_brk, q_cnt, List.isEmpty_cons, List.isEmpty_nil, x_isi, x_mth, xs_nil, xs_cons, xo_none, intR_int, xo_some, xi_val, xi_rng, walkR_tup, walkR_str, x_lc, ts_nil, tsR_bl, ts_cons, pick_bl, s_nil, s_cons, rest_eq, s_expr, s_ret, s_retN, s_pass, s_brk, s_cnt, s_set, s_par, s_par3, s_sub, s_cond, s_whil, s_for, s_raise, s_try, cat_next, cat_ret, cat_brk, cat_cnt, s_aug, augR_some, aug_add, aug_sub, set_nm, ofO_some, set_tp, t_nil, t_nm, sT_nm, sT_tp, b_add, b_sub, n_int, c_lt, c_le, c_gt, c_ge, c_eq, c_ne, c_eqs, c_nes, c_eqb, i_tup, l_tup, f_abs, f_max, f_min, at0, at1, at2, settle_self, List.map_cons, List.map_nil, List.length_cons, List.length_nil, List.cons_append, List.nil_append, List.append_nil, List.getElem?_cons_zero, List.getElem?_cons_succ, List.set_cons_zero, List.set_cons_succ, List.replicate, Nat.sub_self, Nat.zero_add, Nat.reduceAdd, Nat.reduceSub, b_pow h1, b_mod h2]
  have e : ∀ c, settle S (.ref S.length) (S ++ [c]) = S ++ [c] := fun c => by
    unfold settle
    simp [IV.lt]
  rw [e]
end
end Wg
/-! WgY: the odd values that many laws draw. -/
namespace Wg
open PySem L2
/-- the odd values that are no list or dict -/
def oddFlat : List IV := [.non, .bl true, .bl false, .int (-1), .int 0, .int 1, .int 2, .int 7, .int (10 ^ (12 : Int).toNat), .str "", .str "0", .str "1/2", .tup [], .tup [.int 0], .tup [.int 0, .int 1],
  .tup [.int 1, .int 2], .tup [.int 2, .int 4], .tup [.int 1, .int 0], .tup [.int 0, .int 2], .tup [.int (-1), .int 2], .tup [.int 1, .int (-2)], .tup [.bl true, .int 2], .tup [.int 1, .bl true], .tup [.int 0, .non],
  .tup [.tup [.int 1, .int 2], .tup [.int 1, .int 2]], .tup [.int 0, .int 0], .tup [.int 0, .int 1, .int 1], .tup [.bl false, .int 1], .tup [.int 0, .bl true], .tup [.int 1, .int 1],
  .tup [.tup [.int 0, .int 0, .int 1]], .tup [.str "walk", .tup []], .tup [.str "source", .tup []], .tup [.int 0, .int 1, .int 0], .tup [.int 1], .tup [.int 13, .int 1], .str "walk"]
/-- the odd lists and dicts -/
def oddCell : List Cell := [.lst [], .dct [], .lst [.int 0], .lst [.int 0, .int 1], .lst [.int 1, .int 2], .lst [.tup [.int 1, .int 2], .tup [.int 1, .int 2]], .dct [(.inl 0, .int 1)]]
def OddV (S : Sto) (v : IV) : Prop := v ∈ oddFlat ∨ ∃ m c, v = .ref m ∧ S[m]? = some c ∧ c ∈ oddCell
section
variable {pr : Prg} {k : Nat} {S : Sto} {f : Str}
/-! the frame of many laws: three supplies, and each is walked -/
theorem forGo_items {body : Sl → Sto → Rz} (tgi : Nat) (I : Nat → Sl → Sto → Prop) : ∀ (xs : List IV) (i : Nat) (τ : Sl) (S : Sto), I i τ S → (∀ j x τ S, xs[j]? = some x → I (i + j) τ S → ∃ τ2 S2, body (τ.set tgi (some x)) S = .next τ2 S2 ∧ I (i + j + 1) τ2 S2) → ∃ τ' S', forGo body (.nm tgi) none xs τ S = .next τ' S' ∧ I (i + xs.length) τ' S'
  | [], i, τ, S, h, _ => ⟨τ, S, by simp [forGo, holds], by simpa using h⟩
  | x :: xs, i, τ, S, h, hs => by
    obtain ⟨τ2, S2, h3, h4⟩ := hs 0 x τ S rfl h
    obtain ⟨τ', S', e, q⟩ := forGo_items tgi I xs (i + 1) τ2 S2 h4 (fun j y τ S hj hI => by
      have := hs (j + 1) y τ S (by simpa using hj) ((show i + (j + 1) = i + 1 + j by omega) ▸ hI)
      have e : i + (j + 1) + 1 = i + 1 + j + 1 := by omega
      rw [e] at this
      exact this)
    refine ⟨τ', S', ?_, by have : i + (x :: xs).length = i + 1 + xs.length := by simp; omega
                           rw [this]; exact q⟩
    simp only [forGo, holds, if_true, sT_nm, h3, e]
theorem get_set_ne {τ : Sl} {i j : Nat} {o : Option IV} (h : i ≠ j) : (τ.set i o)[j]? = τ[j]? := List.getElem?_set_ne h
theorem get_set_eq {τ : Sl} {i : Nat} {o : Option IV} (h : i < τ.length) : (τ.set i o)[i]? = some o := List.getElem?_set_self h
def lawHead (N : Nat) (it : PIt) (inner : List Sm) : PD := ⟨1, N, [.for (.nm 1) (.rng [.blt .max [.k (.int 1), .blt .min [.blt .len [.loc 0], .k (.int 3)]]]) [.set (.nm 2) (.call "_law_source" [.call "_law_cell" [.loc 0, .loc 1]]), .for (.nm 3) it inner], .ret (.k (.bl true))]⟩
theorem frame (hc : Has pr "_law_cell" d_l_cell) (hs : Has pr "_law_source" d_l_source) {N : Nat} {it : PIt} {inner : List Sm} {xs : List IV} (K : Nat) (hl : Has pr f (lawHead N it inner)) (hN : 4 ≤ N)
    (hit : ∀ (τ : Sl) (S : Sto), evI (gam pr (k + 1)) it τ S = .ok ⟨xs, none⟩ S) {ns : List Int}
    (step : ∀ (n t j : Nat) (x : IV) (τ : Sl) (S : Sto), xs[j]? = some x → τ.length = N → τ[0]? = some (some (.ref 0)) → τ[2]? = some (some (.ref n)) → n ≠ 0 → Sup n t S → t ≤ j * K → S[0]? = some (.frz (ns.map .int)) →
      ∃ τ' S', evSs (gam pr (k + 1)) pr.sub inner (τ.set 3 (some x)) S = .next τ' S' ∧ τ'.length = N ∧ τ'[0]? = some (some (.ref 0)) ∧ τ'[2]? = some (some (.ref n)) ∧ Sup n (t + K) S' ∧ Ext n S S') :
    ∃ S', run pr (k + 2) f [.ref 0] [.frz (ns.map .int)] = .ok (.bl true) S' := by
  rw [run_eq hl rfl (show 1 < 1000 by decide)]
  have hS : ([Cell.frz (ns.map .int)] : Sto)[0]? = some (.frz (ns.map .int)) := rfl
  obtain ⟨M, hM, hM2⟩ : ∃ M : Nat, max (1 : Int) (min (ns.length : Int) 3) = (M : Int) ∧ M ≤ 3 := ⟨(max (1 : Int) (min (ns.length : Int) 3)).toNat, by omega, by omega⟩
  have hM3 : M < 4000000000000000000 := Nat.lt_of_le_of_lt hM2 (by decide)
  simp only [lawHead, bind_ok, bind_exc, thn_ok, thn_exc, seq_next, seq_ret, seq_brk, seq_cnt, seq_exc, done_ret, done_next, done_exc, tr_ok, tr_exc, getI_some, getO_some, x_k, x_loc, x_glb, x_bin, x_neg, x_cmp, x_chain, x_and, x_or, x_not, x_ite, mkTu_0, mkTu_1, mkTu_2, mkTu_3, mkTu_4, mkLi_0, mkLi_1, mkLi_2, mkLi_3, mkLi_4, x_tup, x_lst, x_dct0, x_dct1, x_ix, x_sl, x_rev, r_tup, x_rgs, x_call, x_blt, st_self, st_exc, st_excA, x_gc, st_new, st_int, st_bl, st_str, x_att, x_met, metR_some, x_new, x_iso, x_calls, starR_tup, ok_only, s_fld, xi_enum, enumR_tup, xi_zip, zipR_tup, q_ret, q_next, q_brk, q_cnt, List.isEmpty_cons, List.isEmpty_nil, x_isi, x_mth, xs_nil, xs_cons, xo_none, intR_int, xo_some, xi_val, xi_rng, walkR_tup, walkR_str, x_lc, ts_nil, tsR_bl, ts_cons, pick_bl, s_nil, s_cons, rest_eq, s_expr, s_ret, s_retN, s_pass, s_brk, s_cnt, s_set, s_par, s_par3, s_sub, s_cond, s_whil, s_for, s_raise, s_try, cat_next, cat_ret, cat_brk, cat_cnt, s_aug, augR_some, aug_add, aug_sub, set_nm, ofO_some, set_tp, t_nil, t_nm, sT_nm, sT_tp, b_add, b_sub, n_int, c_lt, c_le, c_gt, c_ge, c_eq, c_ne, c_eqs, c_nes, c_eqb, i_tup, l_tup, f_abs, f_max, f_min, at0, at1, at2, settle_self, List.map_cons, List.map_nil, List.length_cons, List.length_nil, List.cons_append, List.nil_append, List.append_nil, List.getElem?_cons_zero, List.getElem?_cons_succ, List.set_cons_zero, List.set_cons_succ, List.replicate, Nat.sub_self, Nat.zero_add, Nat.reduceAdd, Nat.reduceSub, l_frz hS, List.length_map]
  have hR : ∀ S : Sto, rngR [.int (max (1 : Int) (min (ns.length : Int) 3))] S = .ok ⟨rngI M, none⟩ S := fun S => by rw [hM]; exact rngR_nat hM3
  rw [hR]
  simp only [thn_ok]
  have outer := forGo_items (body := evSs (gam pr (k + 1)) pr.sub [.set (.nm 2) (.call "_law_source" [.call "_law_cell" [.loc 0, .loc 1]]), .for (.nm 3) it inner]) 1
    (fun _ τ S => τ.length = N ∧ τ[0]? = some (some (.ref 0)) ∧ S[0]? = some (.frz (ns.map .int))) (rngI M) 0 (some (.ref 0) :: List.replicate (N - 1) none) [.frz (ns.map .int)]
    ⟨by simp; omega, rfl, hS⟩ ?_
  · obtain ⟨τ', S', e, _⟩ := outer
    rw [e]
    simp only [bind_ok, bind_exc, thn_ok, thn_exc, seq_next, seq_ret, seq_brk, seq_cnt, seq_exc, done_ret, done_next, done_exc, tr_ok, tr_exc, getI_some, getO_some, x_k, x_loc, x_glb, x_bin, x_neg, x_cmp, x_chain, x_and, x_or, x_not, x_ite, mkTu_0, mkTu_1, mkTu_2, mkTu_3, mkTu_4, mkLi_0, mkLi_1, mkLi_2, mkLi_3, mkLi_4, x_tup, x_lst, x_dct0, x_dct1, x_ix, x_sl, x_rev, r_tup, x_rgs, x_call, x_blt, st_self, st_exc, st_excA, x_gc, st_new, st_int, st_bl, st_str, x_att, x_met, metR_some, x_new, x_iso, x_calls, starR_tup, ok_only, s_fld, xi_enum, enumR_tup, xi_zip, zipR_tup, q_ret, q_next, q_brk, q_cnt, List.isEmpty_cons, List.isEmpty_nil, x_isi, x_mth, xs_nil, xs_cons, xo_none, intR_int, xo_some, xi_val, xi_rng, walkR_tup, walkR_str, x_lc, ts_nil, tsR_bl, ts_cons, pick_bl, s_nil, s_cons, rest_eq, s_expr, s_ret, s_retN, s_pass, s_brk, s_cnt, s_set, s_par, s_par3, s_sub, s_cond, s_whil, s_for, s_raise, s_try, cat_next, cat_ret, cat_brk, cat_cnt, s_aug, augR_some, aug_add, aug_sub, set_nm, ofO_some, set_tp, t_nil, t_nm, sT_nm, sT_tp, b_add, b_sub, n_int, c_lt, c_le, c_gt, c_ge, c_eq, c_ne, c_eqs, c_nes, c_eqb, i_tup, l_tup, f_abs, f_max, f_min, at0, at1, at2, settle_self, List.map_cons, List.map_nil, List.length_cons, List.length_nil, List.cons_append, List.nil_append, List.append_nil, List.getElem?_cons_zero, List.getElem?_cons_succ, List.set_cons_zero, List.set_cons_succ, List.replicate, Nat.sub_self, Nat.zero_add, Nat.reduceAdd, Nat.reduceSub]
    exact ⟨_, rfl⟩
  · rintro j x τ S hj ⟨h1, h2, h3⟩
    obtain ⟨i, rfl⟩ : ∃ i : Nat, x = .int (i : Nat) := by
      simp only [rngI, List.getElem?_map, Option.map_eq_some_iff] at hj
      obtain ⟨a, _, e⟩ := hj
      exact ⟨a, e.symm⟩
    obtain ⟨c, e1, su, _⟩ := l_source_run (k := k) (S := S) hs (cellAt ns i)
    have g0 : (τ.set 1 (some (.int (i : Nat))))[0]? = some (some (.ref 0)) := by rw [get_set_ne (by decide)]; exact h2
    have g1 : (τ.set 1 (some (.int (i : Nat))))[1]? = some (some (.int (i : Nat))) := get_set_eq (by omega)
    simp only [bind_ok, bind_exc, thn_ok, thn_exc, seq_next, seq_ret, seq_brk, seq_cnt, seq_exc, done_ret, done_next, done_exc, tr_ok, tr_exc, getI_some, getO_some, x_k, x_loc, x_glb, x_bin, x_neg, x_cmp, x_chain, x_and, x_or, x_not, x_ite, mkTu_0, mkTu_1, mkTu_2, mkTu_3, mkTu_4, mkLi_0, mkLi_1, mkLi_2, mkLi_3, mkLi_4, x_tup, x_lst, x_dct0, x_dct1, x_ix, x_sl, x_rev, r_tup, x_rgs, x_call, x_blt, st_self, st_exc, st_excA, x_gc, st_new, st_int, st_bl, st_str, x_att, x_met, metR_some, x_new, x_iso, x_calls, starR_tup, ok_only, s_fld, xi_enum, enumR_tup, xi_zip, zipR_tup, q_ret, q_next, q_brk, q_cnt, List.isEmpty_cons, List.isEmpty_nil, x_isi, x_mth, xs_nil, xs_cons, xo_none, intR_int, xo_some, xi_val, xi_rng, walkR_tup, walkR_str, x_lc, ts_nil, tsR_bl, ts_cons, pick_bl, s_nil, s_cons, rest_eq, s_expr, s_ret, s_retN, s_pass, s_brk, s_cnt, s_set, s_par, s_par3, s_sub, s_cond, s_whil, s_for, s_raise, s_try, cat_next, cat_ret, cat_brk, cat_cnt, s_aug, augR_some, aug_add, aug_sub, set_nm, ofO_some, set_tp, t_nil, t_nm, sT_nm, sT_tp, b_add, b_sub, n_int, c_lt, c_le, c_gt, c_ge, c_eq, c_ne, c_eqs, c_nes, c_eqb, i_tup, l_tup, f_abs, f_max, f_min, at0, at1, at2, settle_self, List.map_cons, List.map_nil, List.length_cons, List.length_nil, List.cons_append, List.nil_append, List.append_nil, List.getElem?_cons_zero, List.getElem?_cons_succ, List.set_cons_zero, List.set_cons_succ, List.replicate, Nat.sub_self, Nat.zero_add, Nat.reduceAdd, Nat.reduceSub, g0, g1, l_cell_run hc h3, e1, hit]
    have h0 : 0 < S.length := get_lt h3
    obtain ⟨τ', S', e, q1, q2, q3, q4⟩ := forGo_items (body := evSs (gam pr (k + 1)) pr.sub inner) 3
      (fun j τ S' => τ.length = N ∧ τ[0]? = some (some (.ref 0)) ∧ τ[2]? = some (some (.ref S.length)) ∧ Sup S.length (j * K) S' ∧ S'[0]? = some (.frz (ns.map .int))) xs 0 ((τ.set 1 (some (.int (i : Nat)))).set 2 (some (.ref S.length))) (S ++ [c])
      ⟨by simpa using h1, by rw [get_set_ne (by decide)]; exact g0, get_set_eq (by simp; omega), by simpa using su, by rw [List.getElem?_append_left h0]; exact h3⟩ (by
        rintro j x τ S' hj ⟨p1, p2, p3, p4, p5⟩
        rw [Nat.zero_add] at p4 ⊢
        obtain ⟨τ', S'', e, r1, r2, r3, r4, r5⟩ := step S.length (j * K) j x τ S' hj p1 p2 p3 (by omega) p4 (Nat.le_refl _) p5
        exact ⟨τ', S'', e, r1, r2, r3, by rw [Nat.add_mul, Nat.one_mul]; exact r4, r5.get p5 (by omega)⟩)
    exact ⟨τ', S', by rw [e]; rfl, q1, q2, q4.2⟩
theorem OddV.plain {v : IV} (h : OddV S v) : plainV S v := by
  rcases h with h | ⟨m, c, rfl, e, o⟩
  · cases v <;> first | trivial | (simp [oddFlat] at h)
  · refine ⟨c, e, ?_⟩
    simp only [oddCell, List.mem_cons, List.not_mem_nil, or_false] at o
    rcases o with rfl | rfl | rfl | rfl | rfl | rfl | rfl <;> rfl
theorem OddV.int {i : Int} (h : OddV S (.int i)) : i.natAbs ≤ 1000000000000 := by
  rcases h with h | ⟨m, c, q, _⟩
  · simp [oddFlat] at h
    omega
  · cases q
end
end Wg
/-! WgZ: more plain tools. -/
namespace Wg
open PySem L2
/-! comprehensions that change nothing -/
theorem lcGo_map {one : IV → Sto → Rs (Option IV)} {S : Sto} (g : IV → IV) : ∀ (xs acc : List IV), (∀ x ∈ xs, one x S = .ok (some (g x)) S) → acc.length + xs.length ≤ 1000000 → lcGo one none xs acc S = .ok (acc ++ xs.map g) S
  | [], acc, _, _ => by simp [lcGo, holds]
  | x :: xs, acc, h, hl => by
    have hz : szOk (acc.length + 1) = true := by simp at hl; simp [szOk]; omega
    simp only [lcGo, holds, if_true, h x (by simp), hz]
    rw [lcGo_map g xs (acc ++ [g x]) (fun y hy => h y (by simp [hy])) (by simp at hl ⊢; omega)]
    simp
/-! data -/
theorem goDs_cons {r : Nat → Option PyData} {x : IV} {xs : List IV} {d : PyData} {ds : List PyData} (h1 : goD r x = some d) (h2 : goDs r xs = some ds) : goDs r (x :: xs) = some (d :: ds) := by simp only [goDs, h1, h2]
theorem goDs_nil {r : Nat → Option PyData} : goDs r [] = some [] := by simp only [goDs]
theorem goD_tup {r : Nat → Option PyData} {xs : List IV} {ds : List PyData} (h : goDs r xs = some ds) : goD r (.tup xs) = some (.tuple ds) := by simp only [goD, h]
theorem goD_int {r : Nat → Option PyData} {i : Int} : goD r (.int i) = some (.int i) := by simp only [goD]
/-! values without references: their data -/
mutual
def flatD : IV → Option PyData
  | .non => some .none
  | .bl b => some (.bool b)
  | .int i => some (.int i)
  | .str x => some (.str x)
  | .tup xs => match flatDs xs with | some ds => some (.tuple ds) | none => none
  | .ref _ => none
  | .cls _ => none
def flatDs : List IV → Option (List PyData)
  | [] => some []
  | x :: xs => match flatD x with
    | some d => match flatDs xs with | some ds => some (d :: ds) | none => none
    | none => none
end
mutual
theorem goD_flat (r : Nat → Option PyData) : ∀ (v : IV) {d : PyData}, flatD v = some d → goD r v = some d
  | .non, d, h => by simpa [flatD, goD] using h
  | .bl _, d, h => by simpa [flatD, goD] using h
  | .int _, d, h => by simpa [flatD, goD] using h
  | .str _, d, h => by simpa [flatD, goD] using h
  | .ref _, d, h => by simp [flatD] at h
  | .cls _, d, h => by simp [flatD] at h
  | .tup xs, d, h => by
    simp only [flatD] at h
    cases e : flatDs xs with
    | none => rw [e] at h; simp at h
    | some ds => rw [e] at h; simp only [goD, goDs_flat r xs e]; exact h
theorem goDs_flat (r : Nat → Option PyData) : ∀ (xs : List IV) {ds : List PyData}, flatDs xs = some ds → goDs r xs = some ds
  | [], ds, h => by simpa [flatDs, goDs] using h
  | x :: xs, ds, h => by
    simp only [flatDs] at h
    cases e : flatD x with
    | none => rw [e] at h; simp at h
    | some d =>
      rw [e] at h
      cases e2 : flatDs xs with
      | none => rw [e2] at h; simp at h
      | some ds2 => rw [e2] at h; simp only [goDs, goD_flat r x e, goDs_flat r xs e2]; exact h
end
theorem OddV.ne {S : Sto} {v : IV} {n t : Nat} (h : OddV S v) (hs : Sup n t S) : v ≠ .ref n := by
  rintro rfl
  obtain ⟨a, b, d, e, _⟩ := hs
  rcases h with h | ⟨m, c, q, e', o⟩
  · simp [oddFlat] at h
  · cases q
    rw [e] at e'
    cases e'
    simp [oddCell] at o
end Wg
/-! WhA: values without references; a value that is bent. -/
namespace Wg
open PySem L2
/-! ### values without references -/
/-- the store with its first cells hidden -/
def msk : Nat → Sto → Sto
  | 0, S => S
  | _ + 1, [] => []
  | N + 1, _ :: S => .ins "" [] :: msk N S
theorem msk_get : ∀ {N : Nat} {S : Sto} {i : Nat}, N ≤ i → (msk N S)[i]? = S[i]?
  | 0, S, i, _ => by simp only [msk]
  | N + 1, [], i, _ => by simp only [msk]
  | N + 1, c :: S, 0, h => by omega
  | N + 1, c :: S, i + 1, h => by simp only [msk, List.getElem?_cons_succ]; exact msk_get (by omega)
theorem msk_low : ∀ {N : Nat} {S : Sto} {i : Nat} {c : Cell}, i < N → (∀ n fs, c ≠ .ins n fs) → (msk N S)[i]? ≠ some c
  | 0, S, i, c, h, _ => by omega
  | N + 1, [], i, c, h, _ => by simp [msk]
  | N + 1, c' :: S, 0, c, h, hi => by simp only [msk, List.getElem?_cons_zero]; intro z; cases z; exact hi _ _ rfl
  | N + 1, c' :: S, i + 1, c, h, hi => by simp only [msk, List.getElem?_cons_succ]; exact msk_low (by omega) hi
mutual
theorem goD_mono {r r' : Nat → Option PyData} (h : ∀ n d, r n = some d → r' n = some d) : ∀ (v : IV) (d : PyData), goD r v = some d → goD r' v = some d
  | .non, d, e | .bl _, d, e | .int _, d, e | .str _, d, e => by simpa only [goD] using e
  | .cls _, d, e => by simp [goD] at e
  | .ref n, d, e => by simp only [goD] at e ⊢; exact h n d e
  | .tup xs, d, e => by
    simp only [goD] at e ⊢
    cases q : goDs r xs with
    | none => rw [q] at e; simp at e
    | some ds => rw [q] at e; rw [goDs_mono h xs ds q]; exact e
theorem goDs_mono {r r' : Nat → Option PyData} (h : ∀ n d, r n = some d → r' n = some d) : ∀ (xs : List IV) (ds : List PyData), goDs r xs = some ds → goDs r' xs = some ds
  | [], ds, e => by simpa only [goDs] using e
  | x :: xs, ds, e => by
    simp only [goDs] at e ⊢
    cases q : goD r x with
    | none => rw [q] at e; simp at e
    | some d =>
      rw [q] at e
      rw [goD_mono h x d q]
      cases q2 : goDs r xs with
      | none => rw [q2] at e; simp at e
      | some ds' => rw [q2] at e; rw [goDs_mono h xs ds' q2]; exact e
end
theorem refs_mono {A B : Sto} (h : ∀ (i : Nat) (c : Cell), A[i]? = some c → (∀ n fs, c ≠ .ins n fs) → B[i]? = some c) : ∀ (k n : Nat) (d : PyData), refs k A n = some d → refs k B n = some d
  | 0, n, d, e => by simp [refs] at e
  | k + 1, n, d, e => by
    have ih := refs_mono h k
    have g := goDs_mono ih
    simp only [refs] at e ⊢
    generalize goD (refs k A) = ga at *
    generalize goD (refs k B) = gb at *
    generalize goDs (refs k A) = gA at *
    generalize goDs (refs k B) = gB at *
    unfold refD at e ⊢
    cases q : A[n]? with
    | none => rw [q] at e; simp at e
    | some c =>
      cases c with
      | ins _ _ => rw [q] at e; simp at e
      | dtt _ => rw [q] at e; simp at e
      | lst xs =>
        rw [h n _ q (fun _ _ z => by cases z)]
        rw [q] at e
        cases q2 : gA xs with
        | none => simp only [q2] at e; cases e
        | some ds => simp only [q2] at e; simp only [g xs ds q2]; exact e
      | frz xs =>
        rw [h n _ q (fun _ _ z => by cases z)]
        rw [q] at e
        cases q2 : gA xs with
        | none => simp only [q2] at e; cases e
        | some ds => simp only [q2] at e; simp only [g xs ds q2]; exact e
      | dct kvs =>
        rw [h n _ q (fun _ _ z => by cases z)]
        rw [q] at e
        cases q2 : gA (kvs.map (·.2)) with
        | none => simp only [q2] at e; cases e
        | some ds => simp only [q2] at e; simp only [g _ ds q2]; exact e
theorem toD_mono {A B : Sto} (h : ∀ (i : Nat) (c : Cell), A[i]? = some c → (∀ n fs, c ≠ .ins n fs) → B[i]? = some c) {v : IV} {d : PyData} (e : toD A v = some d) : toD B v = some d := goD_mono (refs_mono h 6) v d e
theorem msk_sees {N : Nat} {S : Sto} : ∀ (i : Nat) (c : Cell), (msk N S)[i]? = some c → (∀ n fs, c ≠ .ins n fs) → S[i]? = some c := fun i c hc hi => by
  by_cases hl : N ≤ i
  · rw [msk_get hl] at hc; exact hc
  · exact absurd hc (msk_low (by omega) hi)
/-- the data of v stands in S'; what it refers to is new since S -/
structure Gv (S S' : Sto) (v : IV) (d : PyData) : Prop where
  hid : toD (msk S.length S') v = some d
  new : flatD v = some d ∨ v.lt S.length = false
theorem Gv.data {S S' : Sto} {v : IV} {d : PyData} (h : Gv S S' v d) : toD S' v = some d := toD_mono msk_sees h.hid
/-- a data that can be shown -/
structure Gd (W D : Nat) (d : PyData) : Prop where
  show_ : d.showable = true
  kind : (!d.hasDict || !hasL d) = true
  wt : wtD d ≤ W
  deep : d.depth ≤ D
theorem Gd.ok {W D : Nat} {d : PyData} (h : Gd W D d) (hW : W ≤ 16777216) (hD : D ≤ 60) : shownOk d = true := shownOk_of h.show_ h.kind (Nat.le_trans h.wt hW) (Nat.le_trans h.deep hD)
theorem Gd.mono {W D W' D' : Nat} {d : PyData} (h : Gd W D d) (hW : W ≤ W') (hD : D ≤ D') : Gd W' D' d := ⟨h.show_, h.kind, Nat.le_trans h.wt hW, Nat.le_trans h.deep hD⟩
/-- a call's end keeps the data -/
theorem Gv.settle {S S1 : Sto} {v : IV} {d : PyData} (h : Gv S S1 v d) : Gv S (settle S v S1) v d := by
  rcases h.new with o | o
  · exact ⟨goD_flat _ _ o, .inl o⟩
  · have e : Wg.settle S v S1 = S1 := by unfold Wg.settle; rw [o]; rfl
    rw [e]; exact h
theorem settle_cases {S S1 : Sto} (v : IV) (hl : S.length ≤ S1.length) : Wg.settle S v S1 = S1 ∨ Wg.settle S v S1 = S1.take S.length := by
  unfold Wg.settle
  split
  · exact .inr rfl
  · exact .inl rfl
theorem Ext.settle {n : Nat} {S S1 : Sto} (v : IV) (h : Ext n S S1) : Ext n S (Wg.settle S v S1) := by
  rcases settle_cases v h.len with e | e <;> rw [e]
  · exact h
  · exact ⟨by rw [List.length_take]; have := h.len; omega, fun i hi hn => by rw [List.getElem?_take, if_pos hi]; exact h.old i hi hn⟩
theorem Sup.settle {n t : Nat} {S S1 : Sto} (v : IV) (h : Sup n t S1) (hl : S.length ≤ S1.length) (hn : n < S.length) : Sup n t (Wg.settle S v S1) := by
  rcases settle_cases v hl with e | e <;> rw [e]
  · exact h
  · obtain ⟨a, b, c, q, r⟩ := h
    exact ⟨a, b, c, by rw [List.getElem?_take, if_pos hn]; exact q, r⟩
theorem Sup.lt {n t : Nat} {S : Sto} (h : Sup n t S) : n < S.length := by obtain ⟨_, _, _, e, _⟩ := h; exact get_lt e
end Wg
/-! WhB: a value that is bent. -/
namespace Wg
open PySem L2
section
variable {S : Sto}
def isTupI : IV → Bool
  | .tup _ => true
  | _ => false
theorem isi_tup {v : IV} (h : plainV S v) : isiI v .tuple S = .ok (.bl (isTupI v)) S := by
  cases v with
  | ref n =>
    obtain ⟨c, h1, h2⟩ := h
    cases c <;> simp [isiI, h1, isTupI, plainC] at h2 ⊢
  | cls n => exact h.elim
  | _ => simp [isiI, isTupI]
theorem sl_to {xs : List IV} {j : Nat} (h : j ≤ xs.length) : slI (.tup xs) none (some (j : Int)) S = .ok (.tup (xs.take j)) S := by
  have : cutI xs none (some (j : Int)) = xs.take j := by
    unfold cutI
    have e1 : HT.sIx xs.length 0 none = 0 := rfl
    have e2 : HT.sIx xs.length xs.length (some (j : Int)) = j := by
      show (if (j : Int) < 0 then ((j : Int) + (xs.length : Int)).toNat else min (j : Int).toNat xs.length) = j
      rw [if_neg (by omega)]; omega
    rw [e1, e2, List.drop_zero, Nat.sub_zero]
  simp only [slI, this]
/-! ### bent -/
variable {pr : Prg} {n : Nat}
end
end Wg
/-! WhC: fractions. -/
namespace Wg
open PySem L2
def d_is_valid_fraction : PD := ⟨1, 1, [
    .cond (.or (.not (.isi (.loc 0) .tuple)) (.cmp .ne (.blt .len [(.loc 0)]) (.k (.int 2)))) [
      .ret (.k (.bl false))] [],
    .cond (.or (.not (.call "is_integer" [(.ix (.loc 0) (.k (.int 0)))])) (.or (.not (.call "is_integer" [(.ix (.loc 0) (.k (.int 1)))])) (.cmp .lt (.ix (.loc 0) (.k (.int 1))) (.k (.int 1))))) [
      .ret (.k (.bl false))] [],
    .ret (.cmp .eq (.call "greatest_divisor" [(.ix (.loc 0) (.k (.int 0))), (.ix (.loc 0) (.k (.int 1)))]) (.k (.int 1)))]⟩
def validF : IV → Bool
  | .tup [.int a, .int b] => decide (1 ≤ b) && decide (Int.gcd a b = 1)
  | _ => false
section
variable {pr : Prg} {k : Nat} {S : Sto} {f : Str}
theorem plain_ref {n : Nat} {d : PyData} (h : goD (refs 6 S) (.ref n) = some d) : plainV S (.ref n) := by
  have e : goD (refs 6 S) (.ref n) = refD (goD (refs 5 S)) (goDs (refs 5 S)) S n := rfl
  rw [e] at h
  generalize goD (refs 5 S) = g at *
  generalize goDs (refs 5 S) = gs at *
  unfold refD at h
  cases q : S[n]? with
  | none => rw [q] at h; simp at h
  | some c =>
    cases c with
    | ins _ _ => rw [q] at h; simp at h
    | dtt _ => rw [q] at h; simp at h
    | lst _ => exact ⟨_, q, rfl⟩
    | frz _ => exact ⟨_, q, rfl⟩
    | dct _ => exact ⟨_, q, rfl⟩
theorem plain_goD {x : IV} {d : PyData} (h : goD (refs 6 S) x = some d) : plainV S x := by
  cases x with
  | ref n => exact plain_ref h
  | cls c => simp [goD] at h
  | _ => trivial
theorem plain_tup {xs : List IV} {d : PyData} (h : toD S (.tup xs) = some d) : ∀ x ∈ xs, plainV S x := by
  have key : ∀ (xs : List IV) (ds : List PyData), goDs (refs 6 S) xs = some ds → ∀ x ∈ xs, plainV S x := by
    intro xs
    induction xs with
    | nil => intro ds _ x hx; cases hx
    | cons y ys ih =>
      intro ds h x hx
      simp only [goDs] at h
      cases e1 : goD (refs 6 S) y with
      | none => rw [e1] at h; simp at h
      | some dy =>
        rw [e1] at h
        cases e2 : goDs (refs 6 S) ys with
        | none => rw [e2] at h; simp at h
        | some dys =>
          rcases List.mem_cons.mp hx with rfl | hx
          · exact plain_goD e1
          · exact ih dys e2 x hx
  simp only [toD, goD] at h
  cases e : goDs (refs 6 S) xs with
  | none => rw [e] at h; simp at h
  | some ds => exact key xs ds e
theorem ne2 {n : Nat} (h : n ≠ 2) : ¬ (n : Int) = 2 := by omega
theorem valid_run (h : Has pr f d_is_valid_fraction) (hi : Has pr "is_integer" d_is_integer) (hg : Has pr "greatest_divisor" d_greatest_divisor) {v : IV} {d : PyData} (hv : toD S v = some d) : run pr (k + 2) f [v] S = .ok (.bl (validF v)) S := by
  rw [run_eq h rfl]
  have it := isi_tup (S := S) (plain_goD hv)
  cases hT : isTupI v with
  | false =>
    have e : validF v = false := by cases v <;> simp [isTupI] at hT <;> rfl
    simp only [d_is_valid_fraction, bind_ok, bind_exc, thn_ok, thn_exc, seq_next, seq_ret, seq_brk, seq_cnt, seq_exc, done_ret, done_next, done_exc, tr_ok, tr_exc, getI_some, getO_some, x_k, x_loc, x_glb, x_bin, x_neg, x_cmp, x_chain, x_and, x_or, x_not, x_ite, mkTu_0, mkTu_1, mkTu_2, mkTu_3, mkTu_4, mkLi_0, mkLi_1, mkLi_2, mkLi_3, mkLi_4, x_tup, x_lst, x_dct0, x_dct1, x_ix, x_sl, x_rev, r_tup, x_rgs, x_call, x_blt, st_self, st_exc, st_excA, x_gc, st_new, st_int, st_bl, st_str, x_att, x_met, metR_some, x_new, x_iso, x_calls, starR_tup, ok_only, s_fld, xi_enum, enumR_tup, xi_zip, zipR_tup, q_ret, q_next, q_brk, q_cnt, List.isEmpty_cons, List.isEmpty_nil, x_isi, x_mth, xs_nil, xs_cons, xo_none, intR_int, xo_some, xi_val, xi_rng, walkR_tup, walkR_str, x_lc, ts_nil, tsR_bl, ts_cons, pick_bl, s_nil, s_cons, rest_eq, s_expr, s_ret, s_retN, s_pass, s_brk, s_cnt, s_set, s_par, s_par3, s_sub, s_cond, s_whil, s_for, s_raise, s_try, cat_next, cat_ret, cat_brk, cat_cnt, s_aug, augR_some, aug_add, aug_sub, set_nm, ofO_some, set_tp, t_nil, t_nm, sT_nm, sT_tp, b_add, b_sub, n_int, c_lt, c_le, c_gt, c_ge, c_eq, c_ne, c_eqs, c_nes, c_eqb, i_tup, l_tup, f_abs, f_max, f_min, at0, at1, at2, settle_self, List.map_cons, List.map_nil, List.length_cons, List.length_nil, List.cons_append, List.nil_append, List.append_nil, List.getElem?_cons_zero, List.getElem?_cons_succ, List.set_cons_zero, List.set_cons_succ, List.replicate, Nat.sub_self, Nat.zero_add, Nat.reduceAdd, Nat.reduceSub, it, hT, Bool.not_false, if_true, e]
  | true =>
    obtain ⟨xs, rfl⟩ : ∃ xs, v = .tup xs := by cases v <;> simp [isTupI] at hT; exact ⟨_, rfl⟩
    have pl := plain_tup hv
    by_cases h2 : xs.length = 2
    · obtain ⟨x, y, rfl⟩ : ∃ x y, xs = [x, y] := by
        match xs, h2 with
        | [x, y], _ => exact ⟨x, y, rfl⟩
      have ix := is_integer_run (k := k) (S := S) hi x (pl x (by simp))
      have iy := is_integer_run (k := k) (S := S) hi y (pl y (by simp))
      have l3 : ((2 : Nat) : Int) = 2 := rfl
      cases hx : isInt x with
      | false =>
        have e : validF (.tup [x, y]) = false := by cases x <;> simp [isInt] at hx <;> rfl
        simp only [d_is_valid_fraction, l_tup, l3, bind_ok, bind_exc, thn_ok, thn_exc, seq_next, seq_ret, seq_brk, seq_cnt, seq_exc, done_ret, done_next, done_exc, tr_ok, tr_exc, getI_some, getO_some, x_k, x_loc, x_glb, x_bin, x_neg, x_cmp, x_chain, x_and, x_or, x_not, x_ite, mkTu_0, mkTu_1, mkTu_2, mkTu_3, mkTu_4, mkLi_0, mkLi_1, mkLi_2, mkLi_3, mkLi_4, x_tup, x_lst, x_dct0, x_dct1, x_ix, x_sl, x_rev, r_tup, x_rgs, x_call, x_blt, st_self, st_exc, st_excA, x_gc, st_new, st_int, st_bl, st_str, x_att, x_met, metR_some, x_new, x_iso, x_calls, starR_tup, ok_only, s_fld, xi_enum, enumR_tup, xi_zip, zipR_tup, q_ret, q_next, q_brk, q_cnt, List.isEmpty_cons, List.isEmpty_nil, x_isi, x_mth, xs_nil, xs_cons, xo_none, intR_int, xo_some, xi_val, xi_rng, walkR_tup, walkR_str, x_lc, ts_nil, tsR_bl, ts_cons, pick_bl, s_nil, s_cons, rest_eq, s_expr, s_ret, s_retN, s_pass, s_brk, s_cnt, s_set, s_par, s_par3, s_sub, s_cond, s_whil, s_for, s_raise, s_try, cat_next, cat_ret, cat_brk, cat_cnt, s_aug, augR_some, aug_add, aug_sub, set_nm, ofO_some, set_tp, t_nil, t_nm, sT_nm, sT_tp, b_add, b_sub, n_int, c_lt, c_le, c_gt, c_ge, c_eq, c_ne, c_eqs, c_nes, c_eqb, i_tup, l_tup, f_abs, f_max, f_min, at0, at1, at2, settle_self, List.map_cons, List.map_nil, List.length_cons, List.length_nil, List.cons_append, List.nil_append, List.append_nil, List.getElem?_cons_zero, List.getElem?_cons_succ, List.set_cons_zero, List.set_cons_succ, List.replicate, Nat.sub_self, Nat.zero_add, Nat.reduceAdd, Nat.reduceSub, it, hT, Bool.not_true, Bool.false_eq_true, if_false, decide_true, ix, hx, Bool.not_false, if_true, e]
      | true =>
        obtain ⟨a, rfl⟩ : ∃ i, x = .int i := by cases x <;> simp [isInt] at hx; exact ⟨_, rfl⟩
        cases hy : isInt y with
        | false =>
          have e : validF (.tup [.int a, y]) = false := by cases y <;> simp [isInt] at hy <;> rfl
          simp only [d_is_valid_fraction, l_tup, l3, bind_ok, bind_exc, thn_ok, thn_exc, seq_next, seq_ret, seq_brk, seq_cnt, seq_exc, done_ret, done_next, done_exc, tr_ok, tr_exc, getI_some, getO_some, x_k, x_loc, x_glb, x_bin, x_neg, x_cmp, x_chain, x_and, x_or, x_not, x_ite, mkTu_0, mkTu_1, mkTu_2, mkTu_3, mkTu_4, mkLi_0, mkLi_1, mkLi_2, mkLi_3, mkLi_4, x_tup, x_lst, x_dct0, x_dct1, x_ix, x_sl, x_rev, r_tup, x_rgs, x_call, x_blt, st_self, st_exc, st_excA, x_gc, st_new, st_int, st_bl, st_str, x_att, x_met, metR_some, x_new, x_iso, x_calls, starR_tup, ok_only, s_fld, xi_enum, enumR_tup, xi_zip, zipR_tup, q_ret, q_next, q_brk, q_cnt, List.isEmpty_cons, List.isEmpty_nil, x_isi, x_mth, xs_nil, xs_cons, xo_none, intR_int, xo_some, xi_val, xi_rng, walkR_tup, walkR_str, x_lc, ts_nil, tsR_bl, ts_cons, pick_bl, s_nil, s_cons, rest_eq, s_expr, s_ret, s_retN, s_pass, s_brk, s_cnt, s_set, s_par, s_par3, s_sub, s_cond, s_whil, s_for, s_raise, s_try, cat_next, cat_ret, cat_brk, cat_cnt, s_aug, augR_some, aug_add, aug_sub, set_nm, ofO_some, set_tp, t_nil, t_nm, sT_nm, sT_tp, b_add, b_sub, n_int, c_lt, c_le, c_gt, c_ge, c_eq, c_ne, c_eqs, c_nes, c_eqb, i_tup, l_tup, f_abs, f_max, f_min, at0, at1, at2, settle_self, List.map_cons, List.map_nil, List.length_cons, List.length_nil, List.cons_append, List.nil_append, List.append_nil, List.getElem?_cons_zero, List.getElem?_cons_succ, List.set_cons_zero, List.set_cons_succ, List.replicate, Nat.sub_self, Nat.zero_add, Nat.reduceAdd, Nat.reduceSub, it, hT, Bool.not_true, Bool.false_eq_true, if_false, decide_true, ix, hx, iy, hy, Bool.not_false, if_true, e]
        | true =>
          obtain ⟨b, rfl⟩ : ∃ i, y = .int i := by cases y <;> simp [isInt] at hy; exact ⟨_, rfl⟩
          by_cases hb : b < 1
          · have e : validF (.tup [.int a, .int b]) = false := by
              have : ¬ 1 ≤ b := by omega
              simp [validF, this]
            simp only [d_is_valid_fraction, l_tup, l3, bind_ok, bind_exc, thn_ok, thn_exc, seq_next, seq_ret, seq_brk, seq_cnt, seq_exc, done_ret, done_next, done_exc, tr_ok, tr_exc, getI_some, getO_some, x_k, x_loc, x_glb, x_bin, x_neg, x_cmp, x_chain, x_and, x_or, x_not, x_ite, mkTu_0, mkTu_1, mkTu_2, mkTu_3, mkTu_4, mkLi_0, mkLi_1, mkLi_2, mkLi_3, mkLi_4, x_tup, x_lst, x_dct0, x_dct1, x_ix, x_sl, x_rev, r_tup, x_rgs, x_call, x_blt, st_self, st_exc, st_excA, x_gc, st_new, st_int, st_bl, st_str, x_att, x_met, metR_some, x_new, x_iso, x_calls, starR_tup, ok_only, s_fld, xi_enum, enumR_tup, xi_zip, zipR_tup, q_ret, q_next, q_brk, q_cnt, List.isEmpty_cons, List.isEmpty_nil, x_isi, x_mth, xs_nil, xs_cons, xo_none, intR_int, xo_some, xi_val, xi_rng, walkR_tup, walkR_str, x_lc, ts_nil, tsR_bl, ts_cons, pick_bl, s_nil, s_cons, rest_eq, s_expr, s_ret, s_retN, s_pass, s_brk, s_cnt, s_set, s_par, s_par3, s_sub, s_cond, s_whil, s_for, s_raise, s_try, cat_next, cat_ret, cat_brk, cat_cnt, s_aug, augR_some, aug_add, aug_sub, set_nm, ofO_some, set_tp, t_nil, t_nm, sT_nm, sT_tp, b_add, b_sub, n_int, c_lt, c_le, c_gt, c_ge, c_eq, c_ne, c_eqs, c_nes, c_eqb, i_tup, l_tup, f_abs, f_max, f_min, at0, at1, at2, settle_self, List.map_cons, List.map_nil, List.length_cons, List.length_nil, List.cons_append, List.nil_append, List.append_nil, List.getElem?_cons_zero, List.getElem?_cons_succ, List.set_cons_zero, List.set_cons_succ, List.replicate, Nat.sub_self, Nat.zero_add, Nat.reduceAdd, Nat.reduceSub, it, hT, Bool.not_true, Bool.false_eq_true, if_false, decide_true, ix, hx, iy, hy, hb, if_true, e]
          · have e : validF (.tup [.int a, .int b]) = decide (((Int.gcd a b : Nat) : Int) = 1) := by
              have : 1 ≤ b := by omega
              have q : (((Int.gcd a b : Nat) : Int) = 1) = (Int.gcd a b = 1) := by apply propext; omega
              simp only [validF, this, decide_true, Bool.true_and, q]
            simp only [d_is_valid_fraction, l_tup, l3, bind_ok, bind_exc, thn_ok, thn_exc, seq_next, seq_ret, seq_brk, seq_cnt, seq_exc, done_ret, done_next, done_exc, tr_ok, tr_exc, getI_some, getO_some, x_k, x_loc, x_glb, x_bin, x_neg, x_cmp, x_chain, x_and, x_or, x_not, x_ite, mkTu_0, mkTu_1, mkTu_2, mkTu_3, mkTu_4, mkLi_0, mkLi_1, mkLi_2, mkLi_3, mkLi_4, x_tup, x_lst, x_dct0, x_dct1, x_ix, x_sl, x_rev, r_tup, x_rgs, x_call, x_blt, st_self, st_exc, st_excA, x_gc, st_new, st_int, st_bl, st_str, x_att, x_met, metR_some, x_new, x_iso, x_calls, starR_tup, ok_only, s_fld, xi_enum, enumR_tup, xi_zip, zipR_tup, q_ret, q_next, q_brk, q_cnt, List.isEmpty_cons, List.isEmpty_nil, x_isi, x_mth, xs_nil, xs_cons, xo_none, intR_int, xo_some, xi_val, xi_rng, walkR_tup, walkR_str, x_lc, ts_nil, tsR_bl, ts_cons, pick_bl, s_nil, s_cons, rest_eq, s_expr, s_ret, s_retN, s_pass, s_brk, s_cnt, s_set, s_par, s_par3, s_sub, s_cond, s_whil, s_for, s_raise, s_try, cat_next, cat_ret, cat_brk, cat_cnt, s_aug, augR_some, aug_add, aug_sub, set_nm, ofO_some, set_tp, t_nil, t_nm, sT_nm, sT_tp, b_add, b_sub, n_int, c_lt, c_le, c_gt, c_ge, c_eq, c_ne, c_eqs, c_nes, c_eqb, i_tup, l_tup, f_abs, f_max, f_min, at0, at1, at2, settle_self, List.map_cons, List.map_nil, List.length_cons, List.length_nil, List.cons_append, List.nil_append, List.append_nil, List.getElem?_cons_zero, List.getElem?_cons_succ, List.set_cons_zero, List.set_cons_succ, List.replicate, Nat.sub_self, Nat.zero_add, Nat.reduceAdd, Nat.reduceSub, it, hT, Bool.not_true, Bool.false_eq_true, if_false, decide_true, ix, hx, iy, hy, hb, decide_false, gd_run hg, e]
    · have e : validF (.tup xs) = false := by
        match xs, h2 with
        | [], _ => rfl
        | [x], _ => cases x <;> rfl
        | [x, y], h => exact absurd rfl h
        | x :: y :: z :: r, _ => cases x <;> cases y <;> rfl
      have q := ne2 h2
      simp only [d_is_valid_fraction, bind_ok, bind_exc, thn_ok, thn_exc, seq_next, seq_ret, seq_brk, seq_cnt, seq_exc, done_ret, done_next, done_exc, tr_ok, tr_exc, getI_some, getO_some, x_k, x_loc, x_glb, x_bin, x_neg, x_cmp, x_chain, x_and, x_or, x_not, x_ite, mkTu_0, mkTu_1, mkTu_2, mkTu_3, mkTu_4, mkLi_0, mkLi_1, mkLi_2, mkLi_3, mkLi_4, x_tup, x_lst, x_dct0, x_dct1, x_ix, x_sl, x_rev, r_tup, x_rgs, x_call, x_blt, st_self, st_exc, st_excA, x_gc, st_new, st_int, st_bl, st_str, x_att, x_met, metR_some, x_new, x_iso, x_calls, starR_tup, ok_only, s_fld, xi_enum, enumR_tup, xi_zip, zipR_tup, q_ret, q_next, q_brk, q_cnt, List.isEmpty_cons, List.isEmpty_nil, x_isi, x_mth, xs_nil, xs_cons, xo_none, intR_int, xo_some, xi_val, xi_rng, walkR_tup, walkR_str, x_lc, ts_nil, tsR_bl, ts_cons, pick_bl, s_nil, s_cons, rest_eq, s_expr, s_ret, s_retN, s_pass, s_brk, s_cnt, s_set, s_par, s_par3, s_sub, s_cond, s_whil, s_for, s_raise, s_try, cat_next, cat_ret, cat_brk, cat_cnt, s_aug, augR_some, aug_add, aug_sub, set_nm, ofO_some, set_tp, t_nil, t_nm, sT_nm, sT_tp, b_add, b_sub, n_int, c_lt, c_le, c_gt, c_ge, c_eq, c_ne, c_eqs, c_nes, c_eqb, i_tup, l_tup, f_abs, f_max, f_min, at0, at1, at2, settle_self, List.map_cons, List.map_nil, List.length_cons, List.length_nil, List.cons_append, List.nil_append, List.append_nil, List.getElem?_cons_zero, List.getElem?_cons_succ, List.set_cons_zero, List.set_cons_succ, List.replicate, Nat.sub_self, Nat.zero_add, Nat.reduceAdd, Nat.reduceSub, it, hT, Bool.not_true, Bool.false_eq_true, if_false, q, decide_false, Bool.not_false, if_true, e]
end
end Wg
/-! WhD: labels. -/
namespace Wg
open PySem L2
def lb_is_valid_labels_1 : List Sm := [
      .cond (.or (.not (.call "is_integer" [(.loc 2)])) (.not (.chain .le .le (.k (.int 0)) (.loc 2) (.loc 1)))) [
        .ret (.k (.bl false))] [],
      .cond (.cmp .eq (.loc 2) (.loc 1)) [
        .aug 1 .add (.k (.int 1))] []]
def d_is_valid_labels : PD := ⟨1, 3, [
    .cond (.or (.not (.isi (.loc 0) .tuple)) (.not (.chain .le .le (.k (.int 1)) (.blt .len [(.loc 0)]) (.glb "MOST_CASES")))) [
      .ret (.k (.bl false))] [],
    .set (.nm 1) (.k (.int 0)),
    .for (.nm 2) (.val (.loc 0)) lb_is_valid_labels_1,
    .ret (.k (.bl true))]⟩
/-- each label is at most the least that is unused -/
def goodL : List Int → Int → Bool
  | [], _ => true
  | x :: xs, u => decide (0 ≤ x) && decide (x ≤ u) && goodL xs (if x = u then u + 1 else u)
/-! ### canonical -/
def idxI (x : Int) (l : List Int) : Nat := l.findIdx (fun z => decide (z = x))
def seenF (seen : List Int) (x : Int) : List Int := if x ∈ seen then seen else seen ++ [x]
def canF : List Int → List Int → List Int → List Int × List Int
  | [], seen, found => (seen, found)
  | x :: xs, seen, found => canF xs (seenF seen x) (found ++ [((idxI x (seenF seen x) : Nat) : Int)])
def upto (u : Nat) : List Int := (List.range u).map fun i : Nat => ((i : Nat) : Int)
section
variable {pr : Prg} {k : Nat} {S : Sto} {f : Str}
theorem seen_mem (seen : List Int) (x : Int) : x ∈ seenF seen x := by
  unfold seenF
  split
  · assumption
  · simp
/-! ### valid labels -/
def goodV : List IV → Int → Bool
  | [], _ => true
  | .int x :: xs, u => decide (0 ≤ x) && decide (x ≤ u) && goodV xs (if x = u then u + 1 else u)
  | _ :: _, _ => false
def validLab : IV → Bool
  | .tup xs => decide (1 ≤ xs.length) && decide (xs.length ≤ 12) && goodV xs 0
  | _ => false
theorem goodV_ints : ∀ (l : List Int) (u : Int), goodV (l.map .int) u = goodL l u
  | [], _ => rfl
  | x :: l, u => by simp only [List.map_cons, goodV, goodL, goodV_ints l]
end
end Wg
/-! WhE: valid labels. -/
namespace Wg
open PySem L2
section
variable {pr : Prg} {k : Nat} {S : Sto} {f : Str}
theorem dat_ints (l : List Int) : toD S (.tup (l.map .int)) = some (.tuple (l.map .int)) := by
  refine goD_tup ?_
  induction l with
  | nil => exact goDs_nil
  | cons x l ih => exact goDs_cons goD_int ih
theorem lay_ints (l : List Int) : PyData.canLayAll0 (l.map PyData.int) = true := by
  induction l with
  | nil => rfl
  | cons x l ih => simp [PyData.canLayAll0, PyData.canLay0, ih]
theorem dep_ints (l : List Int) : PyData.depthAll (l.map PyData.int) ≤ 1 := by
  induction l with
  | nil => simp [PyData.depthAll]
  | cons x l ih => simp only [List.map_cons, PyData.depthAll, PyData.depth]; omega
theorem shaped_ints (l : List Int) : SeqAt.shaped (.tuple (l.map .int)) = true := by
  have q : (PyData.tuple (l.map .int)).depth ≤ 64 := by
    have := dep_ints l
    simp only [PyData.depth]; omega
  simp only [SeqAt.shaped, PyData.canLay0, lay_ints, Bool.true_and, decide_eq_true_eq]
  exact q
theorem eqv_ints : ∀ a b : List Int, PyData.eqvAll (a.map .int) (b.map .int) = decide (a = b)
  | [], [] => by simp [PyData.eqvAll]
  | [], _ :: _ => by simp [PyData.eqvAll]
  | _ :: _, [] => by simp [PyData.eqvAll]
  | x :: a, y :: b => by
    simp only [List.map_cons, PyData.eqvAll, eqv_ints a b, PyData.eqv]
    by_cases h : x = y <;> by_cases h2 : a = b <;> simp [h, h2]
theorem validLab_tup {xs : List IV} : validLab (.tup xs) = (decide (1 ≤ xs.length) && decide (xs.length ≤ 12) && goodV xs 0) := rfl
/-! ### labels drawn -/
end
end Wg
/-! WhF: comprehensions that draw; tuples of whole numbers. -/
namespace Wg
open PySem L2
end Wg
/-! WjA: loops and comprehensions without a trace; fractions as rational numbers. -/
namespace Wg
open PySem L2
section
variable {Γ : Gam} {sub : Str → Str → Bool} {τ : Sl} {S : Sto}
/-! ### comprehensions -/
theorem lcGo_fm {one : IV → Sto → Rs (Option IV)} {held : Option (Nat × Cell)} (hh : holds held S = true) (g : IV → Option IV) : ∀ (xs acc : List IV), (∀ x ∈ xs, one x S = .ok (g x) S) → acc.length + xs.length ≤ 1000000 → lcGo one held xs acc S = .ok (acc ++ xs.filterMap g) S
  | [], acc, _, _ => by simp [lcGo, hh]
  | x :: xs, acc, h, hl => by
    have hz : szOk (acc.length + 1) = true := by simp at hl; simp [szOk]; omega
    have ih := fun acc' (hl' : acc'.length + xs.length ≤ 1000000) => lcGo_fm hh g xs acc' (fun y hy => h y (by simp [hy])) hl'
    simp only [lcGo, hh, if_true, h x (by simp), hz]
    cases e : g x with
    | none => simp only [List.filterMap_cons, e]; exact ih acc (by simp at hl; omega)
    | some y => simp only [List.filterMap_cons, e]; rw [ih (acc ++ [y]) (by simp at hl ⊢; omega)]; simp
/-- a comprehension whose turns leave no trace -/
theorem lc_pure {own : List Nat} {tg : Tg} {it : PIt} {ifs : List PX} {elt : PX} {items : List IV} {held : Option (Nat × Cell)} (g : IV → Option IV) (hit : evI Γ it τ S = .ok ⟨items, held⟩ S) (hh : holds held S = true) (hl : items.length ≤ 1000000)
    (hg : ∀ x ∈ items, lcOne Γ own tg ifs elt τ x S = .ok (g x) S) : evE Γ (.lc own tg it ifs elt) τ S = .ok (.ref S.length) (S ++ [.lst (items.filterMap g)]) := by
  rw [x_lc, hit, bind_ok, lcGo_fm hh g items [] hg (by simpa using hl), bind_ok]
  rfl
theorem fm_filter {α β : Type} {p : α → Bool} {f : α → β} : ∀ xs : List α, xs.filterMap (fun x => if p x then some (f x) else none) = (xs.filter p).map f
  | [] => rfl
  | x :: xs => by
    rw [List.filterMap_cons, List.filter_cons]
    cases p x <;> simp [fm_filter xs]
theorem blt_lc {f : Bf} {own : List Nat} {tg : Tg} {it : PIt} {ifs : List PX} {elt : PX} {ys : List IV} {v : IV} (h : evE Γ (.lc own tg it ifs elt) τ S = .ok (.ref S.length) (S ++ [.lst ys])) (hb : bltI f [.ref S.length] (S ++ [.lst ys]) = .ok v (S ++ [.lst ys])) (hv : v.lt S.length = true) :
    evE Γ (.blt f [.lc own tg it ifs elt]) τ S = .ok v S := by
  rw [x_blt, xs_cons, h, bind_ok, xs_nil, bind_ok, bind_ok, hb]
  simp only [Rs.settle]
  rw [settle_append hv]
theorem app_at {G : Sto} {c : Cell} : (S ++ c :: G)[S.length]? = some c := by simp
theorem bls_all : ∀ l : List Bool, optAll blOf (l.map IV.bl) = some l
  | [] => rfl
  | x :: l => by simp only [List.map_cons, optAll, blOf, bls_all l]
theorem all_b {l : List Bool} : bltI .all [.ref S.length] (S ++ [.lst (l.map .bl)]) = .ok (.bl (l.all id)) (S ++ [.lst (l.map .bl)]) := by
  simp only [bltI, app_at, bls_all]
theorem ltAll_iff {n : Nat} : ∀ {xs : List IV}, ltAll n xs = true ↔ ∀ x ∈ xs, x.lt n = true
  | [] => by simp [ltAll]
  | x :: xs => by simp [ltAll, ltAll_iff (xs := xs)]
/-! ### loops -/
end
/-! ### fractions -/
def fr (q : Rat) : IV := .tup [.int q.num, .int q.den]
theorem fr_lt {q : Rat} {n : Nat} : (fr q).lt n = true := rfl
theorem red_rat {a b : Int} (hb : b ≠ 0) : (redI a b) = ((Rat.divInt a b).num, ((Rat.divInt a b).den : Int)) := by
  have hg : (0 : Int) < (Int.gcd a b : Int) := by
    have := Int.gcd_pos_of_ne_zero_right a hb
    omega
  have d1 : ((Int.gcd a b : Nat) : Int) ∣ a := Int.gcd_dvd_left a b
  have d2 : ((Int.gcd a b : Nat) : Int) ∣ b := Int.gcd_dvd_right a b
  have gc : Int.gcd b a = Int.gcd a b := Int.gcd_comm b a
  rw [Rat.num_divInt, Rat.den_divInt, if_neg hb, gc]
  unfold redI
  by_cases hn : b < 0
  · have hs : b.sign = -1 := Int.sign_eq_neg_one_of_neg hn
    simp only [hn, if_true, hs]
    refine Prod.ext ?_ ?_
    · show a.fdiv (-(Int.gcd a b : Int)) = -1 * a / (Int.gcd a b : Int)
      obtain ⟨c, hc⟩ := d1
      generalize (Int.gcd a b : Int) = g at *
      subst hc
      rw [Int.fdiv_eq_ediv_of_dvd ⟨-c, by grind⟩, Int.neg_one_mul, show -(g * c) = g * (-c) by grind, Int.mul_ediv_cancel_left _ (by omega), Int.ediv_neg, Int.mul_ediv_cancel_left _ (by omega)]
    · show b.fdiv (-(Int.gcd a b : Int)) = ((b.natAbs / Int.gcd a b : Nat) : Int)
      obtain ⟨c, hc⟩ := d2
      have : (b.natAbs : Int) = -b := by omega
      rw [Int.natCast_ediv, this]
      generalize (Int.gcd a b : Int) = g at *
      subst hc
      rw [Int.fdiv_eq_ediv_of_dvd ⟨-c, by grind⟩, show -(g * c) = g * (-c) by grind, Int.mul_ediv_cancel_left _ (by omega), Int.ediv_neg, Int.mul_ediv_cancel_left _ (by omega)]
  · have hs : b.sign = 1 := Int.sign_eq_one_of_pos (by omega)
    simp only [hn, if_false, hs, Int.one_mul]
    refine Prod.ext ?_ ?_
    · exact Int.fdiv_eq_ediv_of_dvd d1
    · show b.fdiv (Int.gcd a b : Int) = ((b.natAbs / Int.gcd a b : Nat) : Int)
      have : (b.natAbs : Int) = b := by omega
      rw [Int.natCast_ediv, this]
      exact Int.fdiv_eq_ediv_of_dvd d2
theorem divOk_big {j : Int} (h0 : j ≠ 0) (h : j.natAbs < 2 ^ 8000) : divOk j = true := by
  have := log_of h (by decide)
  simp only [divOk, Bool.and_eq_true, decide_eq_true_eq]
  exact ⟨h0, by omega⟩
theorem gcd_big {a b : Int} (hb : b ≠ 0) (hs : b.natAbs < 2 ^ 8000) : divOk (Int.gcd a b) = true ∧ divOk (-(Int.gcd a b : Int)) = true := by
  have h1 : 0 < Int.gcd a b := Int.gcd_pos_of_ne_zero_right _ hb
  have h2 : Int.gcd a b ≤ b.natAbs := Nat.le_of_dvd (by omega) (Int.gcd_dvd_natAbs_right _ _)
  have h3 : Int.gcd a b < 2 ^ 8000 := Nat.lt_of_le_of_lt h2 hs
  have e1 : ((Int.gcd a b : Nat) : Int).natAbs = Int.gcd a b := Int.natAbs_natCast _
  have e2 : (-((Int.gcd a b : Nat) : Int)).natAbs = Int.gcd a b := by rw [Int.natAbs_neg, Int.natAbs_natCast]
  exact ⟨divOk_big (by omega) (by rw [e1]; exact h3), divOk_big (by omega) (by rw [e2]; exact h3)⟩
/-- a fraction of numbers of fewer than n bits -/
def Bd (n : Nat) (q : Rat) : Prop := q.num.natAbs < 2 ^ n ∧ q.den < 2 ^ n
theorem Bd.mono {n m : Nat} {q : Rat} (h : Bd n q) (hm : n ≤ m) : Bd m q := ⟨Nat.lt_of_lt_of_le h.1 (Nat.pow_le_pow_right (by decide) hm), Nat.lt_of_lt_of_le h.2 (Nat.pow_le_pow_right (by decide) hm)⟩
theorem bd_div {n : Nat} {a b : Int} (hb : b ≠ 0) (h1 : a.natAbs < 2 ^ n) (h2 : b.natAbs < 2 ^ n) : Bd n (Rat.divInt a b) := by
  constructor
  · rw [Rat.num_divInt]
    refine Nat.lt_of_le_of_lt ?_ h1
    have h3 : (b.sign * a).natAbs = a.natAbs := by
      rw [Int.natAbs_mul, Int.natAbs_sign_of_ne_zero hb, Nat.one_mul]
    have : (b.sign * a / (Int.gcd b a : Int)).natAbs ≤ (b.sign * a).natAbs := Int.natAbs_ediv_le_natAbs _ _
    omega
  · rw [Rat.den_divInt, if_neg hb]
    exact Nat.lt_of_le_of_lt (Nat.div_le_self _ _) h2
theorem den_pos (q : Rat) : (0 : Int) < (q.den : Int) := by have := q.den_pos; omega
theorem natAbs_den (q : Rat) : ((q.den : Int)).natAbs = q.den := Int.natAbs_natCast _
theorem pow_mul_lt {a b n m : Nat} (h1 : a < 2 ^ n) (h2 : b < 2 ^ m) : a * b < 2 ^ (n + m) := by
  rw [Nat.pow_add]
  exact Nat.mul_lt_mul_of_lt_of_lt h1 h2
theorem den_ne (p : Rat) : ((p.den : Int) : Rat) ≠ 0 := by
  have := p.den_pos
  intro h
  have : (p.den : Int) = 0 := Rat.intCast_eq_zero_iff.mp h
  omega
theorem rat_eq (p : Rat) : p = (p.num : Rat) / ((p.den : Int) : Rat) := by
  have h1 := Rat.num_divInt_den p
  rw [Rat.divInt_eq_div] at h1
  exact h1.symm
end Wg
/-! WjB: the parts of labels. -/
namespace Wg
open PySem L2
def d_check_labels : PD := ⟨1, 1, [
    .cond (.not (.call "is_valid_labels" [(.loc 0)])) [
      .raise "InvalidLabelsError"] []]⟩
def lb_grouped_1 : List Sm := [
      .expr (.mth "append" (.loc 1) [(.blt .tuple [(.lc [3, 4] (.tp [(.nm 3), (.nm 4)]) (.enum (.loc 0)) [(.cmp .eq (.loc 4) (.loc 2))] (.loc 3))])])]
def d_grouped : PD := ⟨1, 5, [
    .set (.nm 1) (.lst []),
    .for (.nm 2) (.rng [(.bin .add (.blt .max [(.loc 0)]) (.k (.int 1)))]) lb_grouped_1,
    .ret (.blt .tuple [(.loc 1)])]⟩
/-- the largest -/
def mx : List Int → Int
  | [] => 0
  | m :: l => l.foldl max m
/-- the cases of a label -/
def pt (l : List Int) (c : Int) : List Int := ((List.range l.length).filter fun i => decide (l[i]? = some c)).map fun i : Nat => (i : Int)
def ptV (l : List Int) (c : Int) : IV := .tup ((pt l c).map .int)
def partsV (l : List Int) : IV := .tup ((upto (mx l + 1).toNat).map fun c => ptV l c)
section
variable {pr : Prg} {k : Nat} {S : Sto} {f : Str}
theorem big1 : 1001 < 4000000000000000000 := by decide
theorem rng_small {K : Nat} (h : K ≤ 1001) : rngR [.int (K : Nat)] S = .ok ⟨rngI K, none⟩ S := rngR_nat (Nat.lt_of_le_of_lt h big1)
theorem it_rng {Γ : Gam} {τ : Sl} {S' : Sto} {es : List PX} {K : Nat} (h : evEs Γ es τ S = .ok [.int K] S') (hK : K ≤ 1001) : evI Γ (.rng es) τ S = .ok ⟨rngI K, none⟩ S' := by
  rw [xi_rng, h, bind_ok]
  exact rng_small hK
theorem goodL_bd : ∀ (l : List Int) (u : Nat), goodL l u = true → ∀ x ∈ l, 0 ≤ x ∧ x < u + l.length
  | [], u, h => by simp
  | x :: l, u, h => by
    simp only [goodL, Bool.and_eq_true, decide_eq_true_eq] at h
    obtain ⟨⟨h1, h2⟩, h3⟩ := h
    intro y hy
    have h4 : ∃ u' : Nat, (if x = (u : Int) then (u : Int) + 1 else (u : Int)) = (u' : Int) ∧ u' ≤ u + 1 := by
      split
      · exact ⟨u + 1, by omega, by omega⟩
      · exact ⟨u, rfl, by omega⟩
    obtain ⟨u', e, hu⟩ := h4
    rw [e] at h3
    have ih := goodL_bd l u' h3
    rcases List.mem_cons.mp hy with rfl | hy
    · simp; omega
    · have := ih y hy
      simp; omega
/-- valid labels -/
structure Lab (l : List Int) : Prop where
  ne : l ≠ []
  len : l.length ≤ 12
  good : goodL l 0 = true
theorem Lab.bd {l : List Int} (h : Lab l) : ∀ x ∈ l, 0 ≤ x ∧ x < l.length := fun x hx => by
  have := goodL_bd l 0 h.good x hx
  simp at this; omega
theorem mx_mem {l : List Int} (h : l ≠ []) : mx l ∈ l := by
  cases l with
  | nil => exact absurd rfl h
  | cons m l =>
    show l.foldl max m ∈ m :: l
    clear h
    induction l generalizing m with
    | nil => simp
    | cons y l ih =>
      simp only [List.foldl_cons]
      have := ih (max m y)
      rcases List.mem_cons.mp this with h | h
      · rw [h]
        rcases (by omega : max m y = m ∨ max m y = y) with e | e <;> rw [e] <;> simp
      · simp [h]
theorem Lab.mx0 {l : List Int} (h : Lab l) : 0 ≤ mx l ∧ mx l < 12 := by
  have := h.bd _ (mx_mem h.ne)
  have := h.len
  omega
theorem Lab.valid {l : List Int} (h : Lab l) : validLab (.tup (l.map .int)) = true := by
  have h1 := h.len
  have h2 : 1 ≤ l.length := by have := h.ne; cases l with | nil => exact absurd rfl this | cons _ _ => simp
  rw [validLab_tup, goodV_ints, h.good, List.length_map]
  simp [h1, h2]
end
end Wg
/-! WjC: the arithmetic of fractions. -/
namespace Wg
open PySem L2
def d_is_positive : PD := ⟨1, 1, [
    .ret (.and (.call "is_valid_fraction" [(.loc 0)]) (.cmp .gt (.ix (.loc 0) (.k (.int 0))) (.k (.int 0))))]⟩
/-- the sum by a def -/
def d_plusBy (f : Str) : PD := ⟨2, 2, [
    .ret (.call f [(.bin .add (.bin .mul (.ix (.loc 0) (.k (.int 0))) (.ix (.loc 1) (.k (.int 1)))) (.bin .mul (.ix (.loc 1) (.k (.int 0))) (.ix (.loc 0) (.k (.int 1))))), (.bin .mul (.ix (.loc 0) (.k (.int 1))) (.ix (.loc 1) (.k (.int 1))))])]⟩
def lb_addedBy (g : Str) : List Sm := [
      .set (.nm 1) (.call g [(.loc 1), (.loc 2)])]
def d_addedBy (g : Str) : PD := ⟨1, 3, [
    .set (.nm 1) (.tup [(.k (.int 0)), (.k (.int 1))]),
    .for (.nm 2) (.val (.loc 0)) (lb_addedBy g),
    .ret (.loc 1)]⟩
section
variable {pr : Prg} {k : Nat} {S : Sto} {f g : Str}
theorem dd_ne (p q : Rat) : (p.den : Int) * q.den ≠ 0 := by have := Int.mul_pos (den_pos p) (den_pos q); omega
theorem dd_bd {n m : Nat} {p q : Rat} (h1 : Bd n p) (h2 : Bd m q) : ((p.den : Int) * q.den).natAbs < 2 ^ (n + m) := by
  rw [Int.natAbs_mul, natAbs_den, natAbs_den]
  exact pow_mul_lt h1.2 h2.2
theorem pw_le {x n m : Nat} (h : x < 2 ^ n) (hn : n ≤ m) : x < 2 ^ m := Nat.lt_of_lt_of_le h (Nat.pow_le_pow_right (by decide) hn)
theorem div_times (p q : Rat) : Rat.divInt (p.num * q.num) (p.den * q.den) = p * q := by
  have n1 := den_ne p
  have n2 := den_ne q
  have h1 := rat_eq p
  have h2 := rat_eq q
  rw [Rat.divInt_eq_div, Rat.intCast_mul, Rat.intCast_mul]
  generalize hd : ((p.den : Int) : Rat) = d at *
  generalize he : ((q.den : Int) : Rat) = e at *
  generalize ha : (p.num : Rat) = a at *
  generalize hb : (q.num : Rat) = b at *
  rw [h1, h2]
  grind
theorem bd_times {n m : Nat} {p q : Rat} (h1 : Bd n p) (h2 : Bd m q) : Bd (n + m) (p * q) := by
  rw [← div_times]
  exact bd_div (dd_ne p q) (by rw [Int.natAbs_mul]; exact pow_mul_lt h1.1 h2.1) (dd_bd h1 h2)
theorem bd1 {n : Nat} : Bd (n + 1) 1 := ⟨Nat.one_lt_two_pow (by omega), Nat.one_lt_two_pow (by omega)⟩
/-- a loop that gathers fractions -/
theorem holds_lst {n : Nat} {xs : List IV} (h : S[n]? = some (.lst xs)) : holds (some (n, .lst xs)) S = true := by simp only [holds, h, Cell.eqb_refl]
def sumR (qs : List Rat) : Rat := qs.foldl (· + ·) 0
theorem validF_fr (q : Rat) : validF (fr q) = true := by
  have := den_pos q
  have h := q.reduced
  simp only [fr, validF, Bool.and_eq_true, decide_eq_true_eq]
  exact ⟨by omega, by rw [Int.gcd]; simpa [Nat.Coprime] using h⟩
end
end Wg
/-! WjD: observers. -/
namespace Wo
open PySem L2 Wg
def lb_is_valid_event_1 : List Sm := [
      .cond (.or (.not (.call "is_integer" [(.loc 3)])) (.not (.chain .le .lt (.loc 2) (.loc 3) (.loc 1)))) [
        .ret (.k (.bl false))] [],
      .set (.nm 2) (.bin .add (.loc 3) (.k (.int 1)))]
def d_is_valid_event : PD := ⟨2, 4, [
    .cond (.not (.isi (.loc 0) .tuple)) [
      .ret (.k (.bl false))] [],
    .set (.nm 2) (.k (.int 0)),
    .for (.nm 3) (.val (.loc 0)) lb_is_valid_event_1,
    .ret (.k (.bl true))]⟩
def partsX : PX := .lc [4] (.nm 4) (.val (.call "grouped" [(.loc 0)])) [] (.cmp .eq (.gc (.call "added" [(.lc [3] (.nm 3) (.val (.loc 4)) [] (.ix (.loc 1) (.loc 3)))])) (.tup [(.k (.int 1)), (.k (.int 1))]))
def posX : PX := .blt .all [(.lc [2] (.nm 2) (.val (.loc 1)) [] (.call "is_positive" [(.loc 2)]))]
def partsA : PX := .blt .all [partsX]
def d_are_odds : PD := ⟨2, 5, [
    .cond (.or (.not (.isi (.loc 1) .tuple)) (.or (.cmp .ne (.blt .len [(.loc 1)]) (.blt .len [(.loc 0)])) (.not posX))) [
      .ret (.k (.bl false))] [],
    .ret partsA]⟩
/-! ### events -/
section
variable {pr : Prg} {k : Nat} {S : Sto} {f : Str}
/-! ### odds -/
def posF : IV → Bool
  | .tup [.int a, .int b] => validF (.tup [.int a, .int b]) && decide (0 < a)
  | _ => false
theorem posF_fr {q : Rat} : posF (fr q) = decide (0 < q.num) := by
  have := validF_fr q
  simp only [fr, posF] at this ⊢
  rw [this, Bool.true_and]
/-- the cases of a label -/
def ptN (l : List Int) (c : Int) : List Nat := (List.range l.length).filter fun i => decide (l[i]? = some c)
theorem ptN_len (l : List Int) (c : Int) : (ptN l c).length ≤ l.length := by
  have := List.length_filter_le (fun i => decide (l[i]? = some c)) (List.range l.length)
  rw [List.length_range] at this
  exact this
def oAt (o : List Rat) (i : Nat) : Rat := o.getD i 0
def lV (l : List Int) : IV := .tup (l.map .int)
def oV (o : List Rat) : IV := .tup (o.map fr)
def K (l : List Int) : Nat := (mx l + 1).toNat
/-- the sum of the odds of some cases -/
def osum (o : List Rat) (is : List Nat) : Rat := sumR (is.map (oAt o))
def sums1 (l : List Int) (o : List Rat) : Bool := (List.range (K l)).all fun c => decide (osum o (ptN l c) = 1)
def okO (l : List Int) : IV → Bool
  | .tup xs => decide (xs.length = l.length) && xs.all posF
  | _ => false
structure OLib (pr : Prg) : Prop where
  integer : Has pr "is_integer" d_is_integer
  divisor : Has pr "greatest_divisor" d_greatest_divisor
  validF : Has pr "is_valid_fraction" d_is_valid_fraction
  positive : Has pr "is_positive" d_is_positive
  reduced : Has pr "reduced" d_reduced
  plus : Has pr "plus" (d_plusBy "reduced")
  added : Has pr "added" (d_addedBy "plus")
  labels : Has pr "is_valid_labels" d_is_valid_labels
  check : Has pr "check_labels" d_check_labels
  grouped : Has pr "grouped" d_grouped
  odds : Has pr "are_odds" d_are_odds
  most : pr.glob.lookup (Str.ofString "MOST_CASES") = some (IV.int 12)
theorem K_le {l : List Int} (h : Lab l) : K l ≤ 12 := by have := h.mx0; unfold K; omega
theorem fr_data (q : Rat) : ∃ d, toD S (fr q) = some d := ⟨_, goD_tup (goDs_cons goD_int (goDs_cons goD_int goDs_nil))⟩
/-! ### the object -/
def d_init : PD := ⟨3, 3, [
    .expr (.call "check_labels" [(.loc 1)]),
    .fld (.loc 0) "own_labels" (.loc 1),
    .fld (.loc 0) "own_parts" (.call "grouped" [(.loc 1)]),
    .expr (.met "assign_odds" (.loc 0) [(.loc 2)])]⟩
def d_assign : PD := ⟨2, 2, [
    .cond (.not (.call "are_odds" [(.att "own_labels" (.loc 0)), (.loc 1)])) [
      .raise "InvalidOddsError"] [],
    .fld (.loc 0) "own_odds" (.loc 1)]⟩
/-- an object with labels, parts, odds -/
structure ObsAt (pr : Prg) (S : Sto) (m : Nat) (c : Str) (l : List Int) (o : List Rat) : Prop where
  cell : ∃ fs, S[m]? = some (.ins c fs) ∧ fs.lookup (Str.ofString "own_labels") = some (lV l) ∧ fs.lookup (Str.ofString "own_parts") = some (partsV l) ∧ fs.lookup (Str.ofString "own_odds") = some (oV o)
  a1 : pr.att c "own_labels" = none
  a2 : pr.att c "own_parts" = none
  a3 : pr.att c "own_odds" = none
  lab : Lab l
  len : o.length = l.length
  bd : ∀ q ∈ o, Bd 300 q
variable {m : Nat} {c : Str} {l : List Int} {o : List Rat}
theorem ObsAt.mono {S' : Sto} (h : ObsAt pr S m c l o) (hs : ∀ x, S[m]? = some x → S'[m]? = some x) : ObsAt pr S' m c l o := by
  obtain ⟨fs, h1, h2⟩ := h.cell
  exact ⟨⟨fs, hs _ h1, h2⟩, h.a1, h.a2, h.a3, h.lab, h.len, h.bd⟩
theorem ObsAt.lt (h : ObsAt pr S m c l o) : m < S.length := by obtain ⟨fs, h1, _⟩ := h.cell; exact get_lt h1
end
end Wo
/-! WjE: the helpers of the laws k47 and later. -/
namespace Wo
open PySem L2 Wg
def lb_l_fraction_1 : List Sm := [
      .set (.nm 4) (.bin .mod (.loc 2) (.loc 3)),
      .set (.nm 2) (.loc 3),
      .set (.nm 3) (.loc 4)]
def d_l_fraction : PD := ⟨2, 5, [
    .set (.nm 2) (.blt .abs [(.loc 0)]),
    .set (.nm 3) (.loc 1),
    .whil (.cmp .gt (.loc 3) (.k (.int 0))) lb_l_fraction_1,
    .ret (.tup [(.bin .fdiv (.loc 0) (.loc 2)), (.bin .fdiv (.loc 1) (.loc 2))])]⟩
def sameX : PX := .blt .all [(.lc [2] (.nm 2) (.rng [(.blt .len [(.loc 1)])]) [] (.call "_law_is_same" [(.ix (.loc 0) (.loc 2)), (.ix (.loc 1) (.loc 2))]))]
def d_l_is_same : PD := ⟨2, 3, [
    .cond (.isi (.loc 1) .tuple) [
      .cond (.or (.not (.isi (.loc 0) .tuple)) (.cmp .ne (.blt .len [(.loc 0)]) (.blt .len [(.loc 1)]))) [
        .ret (.k (.bl false))] [],
      .ret sameX] [],
    .cond (.cmp .is (.loc 1) (.k .non)) [
      .ret (.cmp .is (.loc 0) (.k .non))] [],
    .cond (.isi (.loc 1) .str) [
      .ret (.and (.isi (.loc 0) .str) (.cmp .eq (.loc 0) (.loc 1)))] [],
    .cond (.or (.not (.isi (.loc 0) .int)) (.cmp .ne (.isi (.loc 0) .bool) (.isi (.loc 1) .bool))) [
      .ret (.k (.bl false))] [],
    .ret (.cmp .eq (.loc 0) (.loc 1))]⟩
section
variable {pr : Prg} {k : Nat} {S : Sto} {f : Str}
theorem get_appL {n : Nat} {x : Cell} {G : Sto} (h : S[n]? = some x) : (S ++ G)[n]? = some x := by rw [List.getElem?_append_left (get_lt h)]; exact h
/-! ### fractions -/
theorem frac_run (h : Has pr f d_l_fraction) {a b : Int} (hb : 0 < b) (hs : b.natAbs < 2 ^ 8000) : run pr (k + 1) f [.int a, .int b] S = .ok (fr (Rat.divInt a b)) S := by
  have loop : ∀ (n m : Nat) (o4 : Option IV), ∃ o4', whileC (evE (gam pr k) (.cmp .gt (.loc 3) (.k (.int 0)))) (evSs (gam pr k) pr.sub lb_l_fraction_1) [some (.int a), some (.int b), some (.int (m : Nat)), some (.int (n : Nat)), o4] S = .next [some (.int a), some (.int b), some (.int (Nat.gcd m n : Nat)), some (.int 0), o4'] S := by
    intro n
    induction n using Nat.strongRecOn with
    | _ n ih =>
      intro m o4
      by_cases hn : n = 0
      · subst hn
        refine ⟨o4, (whileC_stop (S1 := S) ?_).trans ?_⟩
        · simp [bind_ok, bind_exc, thn_ok, thn_exc, seq_next, seq_ret, seq_brk, seq_cnt, seq_exc, done_ret, done_next, done_exc, tr_ok, tr_exc, getI_some, getO_some, x_k, x_loc, x_glb, x_bin, x_neg, x_cmp, x_chain, x_and, x_or, x_not, x_ite, mkTu_0, mkTu_1, mkTu_2, mkTu_3, mkTu_4, mkLi_0, mkLi_1, mkLi_2, mkLi_3, mkLi_4, x_tup, x_lst, x_dct0, x_dct1, x_ix, x_sl, x_rev, r_tup, x_rgs, x_call, x_blt, st_self, st_exc, st_excA, x_gc, st_new, st_int, st_bl, st_str, x_att, x_met, metR_some, x_new, x_iso, x_calls, starR_tup, ok_only, s_fld, xi_enum, enumR_tup, xi_zip, zipR_tup, q_ret, q_next, q_brk, q_cnt, List.isEmpty_cons, List.isEmpty_nil, x_isi, x_mth, xs_nil, xs_cons, xo_none, intR_int, xo_some, xi_val, xi_rng, walkR_tup, walkR_str, x_lc, ts_nil, tsR_bl, ts_cons, pick_bl, s_nil, s_cons, rest_eq, s_expr, s_ret, s_retN, s_pass, s_brk, s_cnt, s_set, s_par, s_par3, s_sub, s_cond, s_whil, s_for, s_raise, s_try, cat_next, cat_ret, cat_brk, cat_cnt, s_aug, augR_some, aug_add, aug_sub, set_nm, ofO_some, set_tp, t_nil, t_nm, sT_nm, sT_tp, b_add, b_sub, n_int, c_lt, c_le, c_gt, c_ge, c_eq, c_ne, c_eqs, c_nes, c_eqb, i_tup, l_tup, f_abs, f_max, f_min, at0, at1, at2, settle_self, List.map_cons, List.map_nil, List.length_cons, List.length_nil, List.cons_append, List.nil_append, List.append_nil, List.getElem?_cons_zero, List.getElem?_cons_succ, List.set_cons_zero, List.set_cons_succ, List.replicate, Nat.sub_self, Nat.zero_add, Nat.reduceAdd, Nat.reduceSub]
        · simp
      · have hp : 0 < n := Nat.pos_of_ne_zero hn
        have hz : (n : Int) ≠ 0 := by omega
        have e : (m : Int).fmod n = ((m % n : Nat) : Int) := by rw [Int.fmod_eq_emod_of_nonneg _ (by omega)]; simp
        obtain ⟨o', e'⟩ := ih _ (Nat.mod_lt m hp) n (some (.int (m % n : Nat)))
        refine ⟨o', (whileC_step (S1 := S) (τ2 := [some (.int a), some (.int b), some (.int n), some (.int (m % n : Nat)), some (.int (m % n : Nat))]) (S2 := S) ?_ ?_).trans ?_⟩
        · simp only [bind_ok, bind_exc, thn_ok, thn_exc, seq_next, seq_ret, seq_brk, seq_cnt, seq_exc, done_ret, done_next, done_exc, tr_ok, tr_exc, getI_some, getO_some, x_k, x_loc, x_glb, x_bin, x_neg, x_cmp, x_chain, x_and, x_or, x_not, x_ite, mkTu_0, mkTu_1, mkTu_2, mkTu_3, mkTu_4, mkLi_0, mkLi_1, mkLi_2, mkLi_3, mkLi_4, x_tup, x_lst, x_dct0, x_dct1, x_ix, x_sl, x_rev, r_tup, x_rgs, x_call, x_blt, st_self, st_exc, st_excA, x_gc, st_new, st_int, st_bl, st_str, x_att, x_met, metR_some, x_new, x_iso, x_calls, starR_tup, ok_only, s_fld, xi_enum, enumR_tup, xi_zip, zipR_tup, q_ret, q_next, q_brk, q_cnt, List.isEmpty_cons, List.isEmpty_nil, x_isi, x_mth, xs_nil, xs_cons, xo_none, intR_int, xo_some, xi_val, xi_rng, walkR_tup, walkR_str, x_lc, ts_nil, tsR_bl, ts_cons, pick_bl, s_nil, s_cons, rest_eq, s_expr, s_ret, s_retN, s_pass, s_brk, s_cnt, s_set, s_par, s_par3, s_sub, s_cond, s_whil, s_for, s_raise, s_try, cat_next, cat_ret, cat_brk, cat_cnt, s_aug, augR_some, aug_add, aug_sub, set_nm, ofO_some, set_tp, t_nil, t_nm, sT_nm, sT_tp, b_add, b_sub, n_int, c_lt, c_le, c_gt, c_ge, c_eq, c_ne, c_eqs, c_nes, c_eqb, i_tup, l_tup, f_abs, f_max, f_min, at0, at1, at2, settle_self, List.map_cons, List.map_nil, List.length_cons, List.length_nil, List.cons_append, List.nil_append, List.append_nil, List.getElem?_cons_zero, List.getElem?_cons_succ, List.set_cons_zero, List.set_cons_succ, List.replicate, Nat.sub_self, Nat.zero_add, Nat.reduceAdd, Nat.reduceSub]; rw [decide_eq_true (by omega)]
        · simp only [lb_l_fraction_1, bind_ok, bind_exc, thn_ok, thn_exc, seq_next, seq_ret, seq_brk, seq_cnt, seq_exc, done_ret, done_next, done_exc, tr_ok, tr_exc, getI_some, getO_some, x_k, x_loc, x_glb, x_bin, x_neg, x_cmp, x_chain, x_and, x_or, x_not, x_ite, mkTu_0, mkTu_1, mkTu_2, mkTu_3, mkTu_4, mkLi_0, mkLi_1, mkLi_2, mkLi_3, mkLi_4, x_tup, x_lst, x_dct0, x_dct1, x_ix, x_sl, x_rev, r_tup, x_rgs, x_call, x_blt, st_self, st_exc, st_excA, x_gc, st_new, st_int, st_bl, st_str, x_att, x_met, metR_some, x_new, x_iso, x_calls, starR_tup, ok_only, s_fld, xi_enum, enumR_tup, xi_zip, zipR_tup, q_ret, q_next, q_brk, q_cnt, List.isEmpty_cons, List.isEmpty_nil, x_isi, x_mth, xs_nil, xs_cons, xo_none, intR_int, xo_some, xi_val, xi_rng, walkR_tup, walkR_str, x_lc, ts_nil, tsR_bl, ts_cons, pick_bl, s_nil, s_cons, rest_eq, s_expr, s_ret, s_retN, s_pass, s_brk, s_cnt, s_set, s_par, s_par3, s_sub, s_cond, s_whil, s_for, s_raise, s_try, cat_next, cat_ret, cat_brk, cat_cnt, s_aug, augR_some, aug_add, aug_sub, set_nm, ofO_some, set_tp, t_nil, t_nm, sT_nm, sT_tp, b_add, b_sub, n_int, c_lt, c_le, c_gt, c_ge, c_eq, c_ne, c_eqs, c_nes, c_eqb, i_tup, l_tup, f_abs, f_max, f_min, at0, at1, at2, settle_self, List.map_cons, List.map_nil, List.length_cons, List.length_nil, List.cons_append, List.nil_append, List.append_nil, List.getElem?_cons_zero, List.getElem?_cons_succ, List.set_cons_zero, List.set_cons_succ, List.replicate, Nat.sub_self, Nat.zero_add, Nat.reduceAdd, Nat.reduceSub, b_mod hz, e]
        · rw [e', Nat.gcd_comm m n, Nat.gcd_comm n (m % n), ← Nat.gcd_rec]
  rw [run_eq h rfl]
  obtain ⟨B, rfl⟩ : ∃ B : Nat, b = B := ⟨b.toNat, by omega⟩
  obtain ⟨o4', e⟩ := loop B a.natAbs none
  have eg : Nat.gcd a.natAbs B = Int.gcd a B := by simp [Int.gcd]
  rw [eg] at e
  obtain ⟨q1, _⟩ := gcd_big (a := a) (b := (B : Int)) (by omega) hs
  have r := red_rat (a := a) (b := (B : Int)) (by omega)
  have hn : ¬ ((B : Int) < 0) := by omega
  have r1 : a.fdiv (Int.gcd a B) = (Rat.divInt a B).num := by rw [show a.fdiv (Int.gcd a B) = (redI a B).1 by simp only [redI, hn, if_false], r]
  have r2 : (B : Int).fdiv (Int.gcd a B) = ((Rat.divInt a B).den : Int) := by rw [show (B : Int).fdiv (Int.gcd a B) = (redI a B).2 by simp only [redI, hn, if_false], r]
  unfold fr
  rw [← r1, ← r2]
  simp only [d_l_fraction, bind_ok, bind_exc, thn_ok, thn_exc, seq_next, seq_ret, seq_brk, seq_cnt, seq_exc, done_ret, done_next, done_exc, tr_ok, tr_exc, getI_some, getO_some, x_k, x_loc, x_glb, x_bin, x_neg, x_cmp, x_chain, x_and, x_or, x_not, x_ite, mkTu_0, mkTu_1, mkTu_2, mkTu_3, mkTu_4, mkLi_0, mkLi_1, mkLi_2, mkLi_3, mkLi_4, x_tup, x_lst, x_dct0, x_dct1, x_ix, x_sl, x_rev, r_tup, x_rgs, x_call, x_blt, st_self, st_exc, st_excA, x_gc, st_new, st_int, st_bl, st_str, x_att, x_met, metR_some, x_new, x_iso, x_calls, starR_tup, ok_only, s_fld, xi_enum, enumR_tup, xi_zip, zipR_tup, q_ret, q_next, q_brk, q_cnt, List.isEmpty_cons, List.isEmpty_nil, x_isi, x_mth, xs_nil, xs_cons, xo_none, intR_int, xo_some, xi_val, xi_rng, walkR_tup, walkR_str, x_lc, ts_nil, tsR_bl, ts_cons, pick_bl, s_nil, s_cons, rest_eq, s_expr, s_ret, s_retN, s_pass, s_brk, s_cnt, s_set, s_par, s_par3, s_sub, s_cond, s_whil, s_for, s_raise, s_try, cat_next, cat_ret, cat_brk, cat_cnt, s_aug, augR_some, aug_add, aug_sub, set_nm, ofO_some, set_tp, t_nil, t_nm, sT_nm, sT_tp, b_add, b_sub, n_int, c_lt, c_le, c_gt, c_ge, c_eq, c_ne, c_eqs, c_nes, c_eqb, i_tup, l_tup, f_abs, f_max, f_min, at0, at1, at2, settle_self, List.map_cons, List.map_nil, List.length_cons, List.length_nil, List.cons_append, List.nil_append, List.append_nil, List.getElem?_cons_zero, List.getElem?_cons_succ, List.set_cons_zero, List.set_cons_succ, List.replicate, Nat.sub_self, Nat.zero_add, Nat.reduceAdd, Nat.reduceSub, e, b_fdiv q1]
/-! ### the same -/
inductive Fl : Nat → IV → Prop
  | int (e : Nat) (i : Int) : Fl e (.int i)
  | tup (e : Nat) (xs : List IV) : (∀ x ∈ xs, Fl e x) → xs.length ≤ 1000 → Fl (e + 1) (.tup xs)
theorem Fl.fr (e : Nat) (q : Rat) : Fl (e + 1) (Wg.fr q) := .tup _ _ (fun x hx => by
  simp only [List.mem_cons, List.not_mem_nil, or_false] at hx
  rcases hx with rfl | rfl <;> exact .int _ _) (by simp)
theorem Fl.ints (e : Nat) (l : List Int) (h : l.length ≤ 1000) : Fl (e + 1) (lV l) := .tup _ _ (fun x hx => by
  obtain ⟨i, _, rfl⟩ := List.mem_map.mp hx
  exact .int _ _) (by simpa using h)
theorem isi_it {i : Int} : isiI (.int i) .tuple S = .ok (.bl false) S := rfl
theorem isi_is {i : Int} : isiI (.int i) .str S = .ok (.bl false) S := rfl
theorem isi_ii {i : Int} : isiI (.int i) .int S = .ok (.bl true) S := rfl
theorem isi_ib {i : Int} : isiI (.int i) .bool S = .ok (.bl false) S := rfl
theorem c_neb {a b : Bool} : cmpI .ne (.bl a) (.bl b) S = .ok (.bl (!decide (a = b))) S := rfl
theorem is_i {i : Int} : cmpI .is (.int i) .non S = .ok (.bl false) S := rfl
theorem is_list {Γ : Gam} {τ : Sl} {is : List Nat} {own : List Nat} {j : Nat} {it : PIt} {e : PX} {ifs : List PX} {held : Option (Nat × Cell)} (p : Nat → Bool) (w : Nat → IV) (hl : is.length ≤ 1000) (hit : evI Γ it τ S = .ok ⟨is.map fun i : Nat => IV.int (i : Int), held⟩ S) (hh : holds held S = true)
    (h1 : ∀ i ∈ is, evTs Γ ifs ((wipeI τ own).set j (some (.int (i : Nat)))) S = .ok (p i) S) (h2 : ∀ i ∈ is, p i = true → evE Γ e ((wipeI τ own).set j (some (.int (i : Nat)))) S = .ok (w i) S) :
    evE Γ (.lc own (.nm j) it ifs e) τ S = .ok (.ref S.length) (S ++ [.lst ((is.filter p).map w)]) := by
  have key : (is.map fun i : Nat => IV.int (i : Int)).filterMap (fun x : IV => match x with | .int i => if p i.toNat then some (w i.toNat) else none | _ => none) = (is.filter p).map w := by
    rw [List.filterMap_map]
    have : ((fun x : IV => match x with | .int i => if p i.toNat then some (w i.toNat) else none | _ => none) ∘ fun i : Nat => IV.int (i : Int)) = fun i : Nat => if p i = true then some (w i) else none := by
      funext i; simp
    rw [this, fm_filter]
  rw [← key]
  refine lc_pure (held := held) _ hit hh (by simp; omega) ?_
  intro x hx
  obtain ⟨i, hi', rfl⟩ := List.mem_map.mp hx
  simp only [lcOne, sT_nm, h1 i hi', bind_ok, Int.toNat_natCast]
  cases e : p i with
  | true => simp only [if_true, h2 i hi' e, bind_ok]
  | false => simp only [Bool.false_eq_true, if_false]
theorem all_range (N : Nat) : (List.range N).filter (fun _ => true) = List.range N := by simp
/-- .. over a range, without a condition -/
theorem rng_list {Γ : Gam} {τ : Sl} {N : Nat} {own : List Nat} {j : Nat} {it : PIt} {e : PX} (w : Nat → IV) (hl : N ≤ 1000) (hit : evI Γ it τ S = .ok ⟨rngI N, none⟩ S) (h2 : ∀ i, i < N → evE Γ e ((wipeI τ own).set j (some (.int (i : Nat)))) S = .ok (w i) S) :
    evE Γ (.lc own (.nm j) it [] e) τ S = .ok (.ref S.length) (S ++ [.lst ((List.range N).map w)]) := by
  have := is_list (Γ := Γ) (S := S) (τ := τ) (is := List.range N) (own := own) (j := j) (it := it) (e := e) (ifs := []) (held := none) (fun _ => true) w (by simpa using hl) hit rfl (fun _ _ => rfl) (fun i hi _ => h2 i (by simpa using hi))
  rw [all_range] at this
  exact this
theorem same_int (h : Has pr "_law_is_same" d_l_is_same) (i : Int) : run pr (k + 1) "_law_is_same" [.int i, .int i] S = .ok (.bl true) S := by
  rw [run_eq h rfl]
  simp only [d_l_is_same, bind_ok, bind_exc, thn_ok, thn_exc, seq_next, seq_ret, seq_brk, seq_cnt, seq_exc, done_ret, done_next, done_exc, tr_ok, tr_exc, getI_some, getO_some, x_k, x_loc, x_glb, x_bin, x_neg, x_cmp, x_chain, x_and, x_or, x_not, x_ite, mkTu_0, mkTu_1, mkTu_2, mkTu_3, mkTu_4, mkLi_0, mkLi_1, mkLi_2, mkLi_3, mkLi_4, x_tup, x_lst, x_dct0, x_dct1, x_ix, x_sl, x_rev, r_tup, x_rgs, x_call, x_blt, st_self, st_exc, st_excA, x_gc, st_new, st_int, st_bl, st_str, x_att, x_met, metR_some, x_new, x_iso, x_calls, starR_tup, ok_only, s_fld, xi_enum, enumR_tup, xi_zip, zipR_tup, q_ret, q_next, q_brk, q_cnt, List.isEmpty_cons, List.isEmpty_nil, x_isi, x_mth, xs_nil, xs_cons, xo_none, intR_int, xo_some, xi_val, xi_rng, walkR_tup, walkR_str, x_lc, ts_nil, tsR_bl, ts_cons, pick_bl, s_nil, s_cons, rest_eq, s_expr, s_ret, s_retN, s_pass, s_brk, s_cnt, s_set, s_par, s_par3, s_sub, s_cond, s_whil, s_for, s_raise, s_try, cat_next, cat_ret, cat_brk, cat_cnt, s_aug, augR_some, aug_add, aug_sub, set_nm, ofO_some, set_tp, t_nil, t_nm, sT_nm, sT_tp, b_add, b_sub, n_int, c_lt, c_le, c_gt, c_ge, c_eq, c_ne, c_eqs, c_nes, c_eqb, i_tup, l_tup, f_abs, f_max, f_min, at0, at1, at2, settle_self, List.map_cons, List.map_nil, List.length_cons, List.length_nil, List.cons_append, List.nil_append, List.append_nil, List.getElem?_cons_zero, List.getElem?_cons_succ, List.set_cons_zero, List.set_cons_succ, List.replicate, Nat.sub_self, Nat.zero_add, Nat.reduceAdd, Nat.reduceSub, isi_it, isi_is, isi_ii, isi_ib, is_i, c_neb, Bool.false_eq_true, if_false, Bool.not_true, decide_true]
theorem same_el {xs : List IV} {a2 : Option IV} {i : Nat} (hi : i < xs.length) (hx : ∀ x ∈ xs, run pr k "_law_is_same" [x, x] S = .ok (.bl true) S) : evE (gam pr k) (.call "_law_is_same" [(.ix (.loc 0) (.loc 2)), (.ix (.loc 1) (.loc 2))]) [some (.tup xs), some (.tup xs), some (.int (i : Nat))] S = .ok (.bl true) S := by
  have ga : atI xs (i : Int) = some xs[i] := atI_nat (by simp [hi])
  simp only [bind_ok, bind_exc, thn_ok, thn_exc, seq_next, seq_ret, seq_brk, seq_cnt, seq_exc, done_ret, done_next, done_exc, tr_ok, tr_exc, getI_some, getO_some, x_k, x_loc, x_glb, x_bin, x_neg, x_cmp, x_chain, x_and, x_or, x_not, x_ite, mkTu_0, mkTu_1, mkTu_2, mkTu_3, mkTu_4, mkLi_0, mkLi_1, mkLi_2, mkLi_3, mkLi_4, x_tup, x_lst, x_dct0, x_dct1, x_ix, x_sl, x_rev, r_tup, x_rgs, x_call, x_blt, st_self, st_exc, st_excA, x_gc, st_new, st_int, st_bl, st_str, x_att, x_met, metR_some, x_new, x_iso, x_calls, starR_tup, ok_only, s_fld, xi_enum, enumR_tup, xi_zip, zipR_tup, q_ret, q_next, q_brk, q_cnt, List.isEmpty_cons, List.isEmpty_nil, x_isi, x_mth, xs_nil, xs_cons, xo_none, intR_int, xo_some, xi_val, xi_rng, walkR_tup, walkR_str, x_lc, ts_nil, tsR_bl, ts_cons, pick_bl, s_nil, s_cons, rest_eq, s_expr, s_ret, s_retN, s_pass, s_brk, s_cnt, s_set, s_par, s_par3, s_sub, s_cond, s_whil, s_for, s_raise, s_try, cat_next, cat_ret, cat_brk, cat_cnt, s_aug, augR_some, aug_add, aug_sub, set_nm, ofO_some, set_tp, t_nil, t_nm, sT_nm, sT_tp, b_add, b_sub, n_int, c_lt, c_le, c_gt, c_ge, c_eq, c_ne, c_eqs, c_nes, c_eqb, i_tup, l_tup, f_abs, f_max, f_min, at0, at1, at2, settle_self, List.map_cons, List.map_nil, List.length_cons, List.length_nil, List.cons_append, List.nil_append, List.append_nil, List.getElem?_cons_zero, List.getElem?_cons_succ, List.set_cons_zero, List.set_cons_succ, List.replicate, Nat.sub_self, Nat.zero_add, Nat.reduceAdd, Nat.reduceSub, ga, hx _ (List.getElem_mem hi)]
theorem same_it {Γ : Gam} {xs : List IV} (hl : xs.length ≤ 1000) : evI Γ (.rng [(.blt .len [(.loc 1)])]) [some (.tup xs), some (.tup xs), none] S = .ok ⟨rngI xs.length, none⟩ S := it_rng (by simp only [bind_ok, bind_exc, thn_ok, thn_exc, seq_next, seq_ret, seq_brk, seq_cnt, seq_exc, done_ret, done_next, done_exc, tr_ok, tr_exc, getI_some, getO_some, x_k, x_loc, x_glb, x_bin, x_neg, x_cmp, x_chain, x_and, x_or, x_not, x_ite, mkTu_0, mkTu_1, mkTu_2, mkTu_3, mkTu_4, mkLi_0, mkLi_1, mkLi_2, mkLi_3, mkLi_4, x_tup, x_lst, x_dct0, x_dct1, x_ix, x_sl, x_rev, r_tup, x_rgs, x_call, x_blt, st_self, st_exc, st_excA, x_gc, st_new, st_int, st_bl, st_str, x_att, x_met, metR_some, x_new, x_iso, x_calls, starR_tup, ok_only, s_fld, xi_enum, enumR_tup, xi_zip, zipR_tup, q_ret, q_next, q_brk, q_cnt, List.isEmpty_cons, List.isEmpty_nil, x_isi, x_mth, xs_nil, xs_cons, xo_none, intR_int, xo_some, xi_val, xi_rng, walkR_tup, walkR_str, x_lc, ts_nil, tsR_bl, ts_cons, pick_bl, s_nil, s_cons, rest_eq, s_expr, s_ret, s_retN, s_pass, s_brk, s_cnt, s_set, s_par, s_par3, s_sub, s_cond, s_whil, s_for, s_raise, s_try, cat_next, cat_ret, cat_brk, cat_cnt, s_aug, augR_some, aug_add, aug_sub, set_nm, ofO_some, set_tp, t_nil, t_nm, sT_nm, sT_tp, b_add, b_sub, n_int, c_lt, c_le, c_gt, c_ge, c_eq, c_ne, c_eqs, c_nes, c_eqb, i_tup, l_tup, f_abs, f_max, f_min, at0, at1, at2, settle_self, List.map_cons, List.map_nil, List.length_cons, List.length_nil, List.cons_append, List.nil_append, List.append_nil, List.getElem?_cons_zero, List.getElem?_cons_succ, List.set_cons_zero, List.set_cons_succ, List.replicate, Nat.sub_self, Nat.zero_add, Nat.reduceAdd, Nat.reduceSub]) (by omega)
theorem same_all {xs : List IV} (hl : xs.length ≤ 1000) (hx : ∀ x ∈ xs, run pr k "_law_is_same" [x, x] S = .ok (.bl true) S) : evE (gam pr k) sameX [some (.tup xs), some (.tup xs), none] S = .ok (.bl (((List.range xs.length).map fun _ => true).all id)) S := by
  refine blt_lc (ys := ((List.range xs.length).map fun _ => true).map .bl) ?_ all_b rfl
  rw [List.map_map]
  exact rng_list (fun _ => .bl true) hl (same_it hl) (fun i hi => same_el (a2 := none) hi hx)
theorem same_shape {Γ : Gam} {sub : Str → Str → Bool} {X : PX} {R : List Sm} {xs : List IV} (sx : evE Γ X [some (.tup xs), some (.tup xs), none] S = .ok (.bl true) S) : (evSs Γ sub (.cond (.isi (.loc 1) .tuple) [
      .cond (.or (.not (.isi (.loc 0) .tuple)) (.cmp .ne (.blt .len [(.loc 0)]) (.blt .len [(.loc 1)]))) [
        .ret (.k (.bl false))] [],
      .ret X] [] :: R) [some (.tup xs), some (.tup xs), none] S).done S = .ok (.bl true) S := by
  have it : isiI (.tup xs) .tuple S = .ok (.bl true) S := isi_tup (v := .tup xs) trivial
  simp only [bind_ok, bind_exc, thn_ok, thn_exc, seq_next, seq_ret, seq_brk, seq_cnt, seq_exc, done_ret, done_next, done_exc, tr_ok, tr_exc, getI_some, getO_some, x_k, x_loc, x_glb, x_bin, x_neg, x_cmp, x_chain, x_and, x_or, x_not, x_ite, mkTu_0, mkTu_1, mkTu_2, mkTu_3, mkTu_4, mkLi_0, mkLi_1, mkLi_2, mkLi_3, mkLi_4, x_tup, x_lst, x_dct0, x_dct1, x_ix, x_sl, x_rev, r_tup, x_rgs, x_call, x_blt, st_self, st_exc, st_excA, x_gc, st_new, st_int, st_bl, st_str, x_att, x_met, metR_some, x_new, x_iso, x_calls, starR_tup, ok_only, s_fld, xi_enum, enumR_tup, xi_zip, zipR_tup, q_ret, q_next, q_brk, q_cnt, List.isEmpty_cons, List.isEmpty_nil, x_isi, x_mth, xs_nil, xs_cons, xo_none, intR_int, xo_some, xi_val, xi_rng, walkR_tup, walkR_str, x_lc, ts_nil, tsR_bl, ts_cons, pick_bl, s_nil, s_cons, rest_eq, s_expr, s_ret, s_retN, s_pass, s_brk, s_cnt, s_set, s_par, s_par3, s_sub, s_cond, s_whil, s_for, s_raise, s_try, cat_next, cat_ret, cat_brk, cat_cnt, s_aug, augR_some, aug_add, aug_sub, set_nm, ofO_some, set_tp, t_nil, t_nm, sT_nm, sT_tp, b_add, b_sub, n_int, c_lt, c_le, c_gt, c_ge, c_eq, c_ne, c_eqs, c_nes, c_eqb, i_tup, l_tup, f_abs, f_max, f_min, at0, at1, at2, settle_self, List.map_cons, List.map_nil, List.length_cons, List.length_nil, List.cons_append, List.nil_append, List.append_nil, List.getElem?_cons_zero, List.getElem?_cons_succ, List.set_cons_zero, List.set_cons_succ, List.replicate, Nat.sub_self, Nat.zero_add, Nat.reduceAdd, Nat.reduceSub, it, Bool.not_true, Bool.false_eq_true, if_false, if_true, decide_true, sx]
theorem same_tup (h : Has pr "_law_is_same" d_l_is_same) {xs : List IV} (hl : xs.length ≤ 1000) (hx : ∀ x ∈ xs, run pr k "_law_is_same" [x, x] S = .ok (.bl true) S) : run pr (k + 1) "_law_is_same" [.tup xs, .tup xs] S = .ok (.bl true) S := by
  rw [run_eq h rfl]
  have sx := same_all hl hx
  have z : (((List.range xs.length).map fun _ => true).all id) = true := by simp
  rw [z] at sx
  exact same_shape sx
theorem same_run (h : Has pr "_law_is_same" d_l_is_same) : ∀ (e k : Nat) (v : IV), Fl e v → run pr (k + e + 1) "_law_is_same" [v, v] S = .ok (.bl true) S := by
  intro e
  induction e with
  | zero =>
    intro k v hv
    cases hv with
    | int _ i => exact same_int (k := k) h i
  | succ e ih =>
    intro k v hv
    cases hv with
    | int _ i => exact same_int (k := k + (e + 1)) h i
    | tup _ xs hx hl => exact same_tup (k := k + e + 1) h hl fun x hm => ih k x (hx x hm)
/-! ### labels -/
theorem idx_lt {x : Int} {seen : List Int} (h : x ∈ seen) : idxI x seen < seen.length := by
  unfold idxI
  exact List.findIdx_lt_length_of_exists ⟨x, h, by simp⟩
end
end Wo
/-! WjF: rows and events of the later laws. -/
namespace Wo
open PySem L2 Wg
section
variable {pr : Prg} {k : Nat} {S : Sto} {f : Str}
/-! ### lists made -/
def Mk (Γ : Gam) (e : PX) (τ : Sl) (xs : List IV) : Prop := ∀ S : Sto, ∃ (G : Sto) (m : Nat), evE Γ e τ S = .ok (.ref m) (S ++ G) ∧ (S ++ G)[m]? = some (.lst xs)
variable {Γ : Gam} {τ : Sl}
/-! ### a row -/
def dg (ds : List Int) (i : Nat) : Int := ds.getD i 0
/-! ### events -/
def evV (is : List Nat) : List Int := is.map fun i : Nat => (i : Int)
theorem evV_mem {is : List Nat} {i : Nat} : (i : Int) ∈ evV is ↔ i ∈ is := by
  simp only [evV, List.mem_map]
  constructor
  · rintro ⟨j, hj, e⟩; have : j = i := by omega
    subst this; exact hj
  · intro h; exact ⟨i, h, rfl⟩
/-! ### odds from weights -/
def wsum (ws : List Int) (is : List Nat) : Int := (is.map (dg ws)).sum
def oddsF (l ws : List Int) : List Rat := (List.range l.length).map fun i => Rat.divInt (dg ws i) (wsum ws (ptN l (dg l i)))
end
end Wo
/-! WjG: odds from weights. -/
namespace Wo
open PySem L2 Wg
section
variable {pr : Prg} {k : Nat} {S : Sto} {f : Str} {Γ : Gam} {τ : Sl}
theorem lt8000 {i : Int} (h : i.natAbs ≤ 20000) : i.natAbs < 2 ^ 8000 := pw_le (n := 15) (Nat.lt_of_le_of_lt h (by decide)) (by decide)
/-! ### what they are -/
end
end Wo
/-! WjH: wrong events; refusals. -/
namespace Wo
open PySem L2 Wg
end Wo
/-! WjI: loops with garbage; a start of the observers' laws. -/
namespace Wo
open PySem L2 Wg
section
variable {pr : Prg} {k : Nat} {S : Sto} {f : Str} {Γ : Gam} {τ : Sl}
/-- the amount of the event's weight -/
def evIn (ev : List Int) (is : List Nat) : List Nat := is.filter fun i : Nat => decide ((i : Int) ∈ ev)
def fields (a b c : IV) : List (Str × IV) := [("own_labels", a), ("own_parts", b), ("own_odds", c)]
end
end Wo
/-! WjJ: parts, reports; shapes. -/
namespace Wo
open PySem L2 Wg
section
variable {pr : Prg} {k : Nat} {S : Sto} {f : Str} {Γ : Gam} {τ : Sl}
theorem ix0 {i : Nat} {x : IV} {xs : List IV} (h : τ[i]? = some (some (.tup (x :: xs)))) : evE Γ (.ix (.loc i) (.k (.int 0))) τ S = .ok x S := by
  simp only [x_ix, x_loc, h, getI_some, bind_ok, x_k, i_tup, Wg.at0, getO_some]
theorem ix1 {i : Nat} {x y : IV} {xs : List IV} (h : τ[i]? = some (some (.tup (x :: y :: xs)))) : evE Γ (.ix (.loc i) (.k (.int 1))) τ S = .ok y S := by
  simp only [x_ix, x_loc, h, getI_some, bind_ok, x_k, i_tup, Wg.at1, getO_some]
theorem call_two {A B : PX} {x y v : IV} {g : Str} {S1 : Sto} (e1 : evE (gam pr k) A τ S = .ok x S) (e2 : evE (gam pr k) B τ S = .ok y S) (h : run pr k g [x, y] S = .ok v S1) : evE (gam pr k) (.call g [A, B]) τ S = .ok v S1 := by
  simp only [x_call, xs_cons, xs_nil, e1, e2, bind_ok, h]
theorem call_one {A : PX} {x v : IV} {g : Str} {S1 : Sto} (e1 : evE (gam pr k) A τ S = .ok x S) (h : run pr k g [x] S = .ok v S1) : evE (gam pr k) (.call g [A]) τ S = .ok v S1 := by
  simp only [x_call, xs_cons, xs_nil, e1, bind_ok, h]
/-! ### the report -/
def repV (l : List Int) (o : List Rat) (ev : List Int) : IV := .tup ((List.range (K l)).map fun c : Nat => .tup [ptV l c, fr (osum o (evIn ev (ptN l c)))])
theorem loc_ok {i : Nat} {v : IV} (h : τ[i]? = some (some v)) : evE Γ (.loc i) τ S = .ok v S := by simp only [x_loc, h, getI_some]
variable {m : Nat} {c : Str} {l : List Int} {o : List Rat}
theorem Fl.rep {ev : List Int} (h : Lab l) : Fl 3 (repV l o ev) := .tup _ _ (fun x hx => by
  obtain ⟨c, _, rfl⟩ := List.mem_map.mp hx
  refine .tup _ _ (fun y hy => ?_) (by simp)
  simp only [List.mem_cons, List.not_mem_nil, or_false] at hy
  rcases hy with rfl | rfl
  · exact Fl.ints 0 _ (by have := ptN_len l c; have := h.len; simp [pt]; have := List.length_filter_le (fun i => decide (l[i]? = some (c : Int))) (List.range l.length); rw [List.length_range] at this; omega)
  · exact Fl.fr 0 _) (by simp; have := K_le h; omega)
end
end Wo
/-! WjK: expected amounts. -/
namespace Wo
open PySem L2 Wg
section
variable {pr : Prg} {k : Nat} {S : Sto} {f : Str} {Γ : Gam} {τ : Sl}
/-! ### expects -/
variable {m : Nat} {c : Str} {l : List Int} {o am : List Rat}
def exR (o am : List Rat) (is : List Nat) : Rat := sumR (is.map fun i => oAt o i * oAt am i)
def exV (l : List Int) (o am : List Rat) : IV := .tup ((List.range (K l)).map fun c : Nat => fr (exR o am (ptN l c)))
theorem goDs_frs {r : Nat → Option PyData} : ∀ am : List Rat, ∃ ds, goDs r (am.map fr) = some ds
  | [] => ⟨_, goDs_nil⟩
  | q :: am => by
    obtain ⟨ds, h⟩ := goDs_frs (r := r) am
    exact ⟨_, goDs_cons (goD_tup (goDs_cons goD_int (goDs_cons goD_int goDs_nil))) h⟩
theorem oV_data : ∃ d, toD S (oV am) = some d := by
  obtain ⟨ds, h⟩ := goDs_frs (r := refs 6 S) am
  exact ⟨_, goD_tup h⟩
theorem Fl.ex (h : Lab l) : Fl 2 (exV l o am) := .tup _ _ (fun x hx => by
  obtain ⟨c, _, rfl⟩ := List.mem_map.mp hx
  exact Fl.fr 0 _) (by simp; have := K_le h; omega)
end
end Wo
/-! WjL: expected amounts by weights. -/
namespace Wo
open PySem L2 Wg
end Wo
/-! WjM: suites step by step; values with an entry changed. -/
namespace Wo
open PySem L2 Wg
section
variable {pr : Prg} {k : Nat} {S : Sto} {f : Str} {Γ : Gam} {τ : Sl} {sub : Str → Str → Bool} {ss : List Sm} {r : Rz} {v : IV} {S1 : Sto}
theorem st_set {i : Nat} {e : PX} (h : evE Γ e τ S = .ok v S1) (c : evSs Γ sub ss (τ.set i (some v)) S1 = r) : evSs Γ sub (.set (.nm i) e :: ss) τ S = r := by
  simp only [s_cons, s_set, h, thn_ok, set_nm, seq_next, rest_eq, c]
theorem st_no {c : PX} {a : List Sm} (h : evE Γ c τ S = .ok (.bl false) S1) (z : evSs Γ sub ss τ S1 = r) : evSs Γ sub (.cond c a [] :: ss) τ S = r := by
  simp only [s_cons, s_cond, h, thn_ok, pick_bl, Bool.false_eq_true, if_false, s_nil, seq_next, rest_eq, z]
theorem st_not {c : PX} {a : List Sm} (h : evE Γ c τ S = .ok (.bl true) S1) (z : evSs Γ sub ss τ S1 = r) : evSs Γ sub (.cond (.not c) a [] :: ss) τ S = r :=
  st_no (by simp only [x_not, h, tr_ok, Bool.not_true]) z
theorem st_yes {c : PX} {a b : List Sm} (h : evE Γ c τ S = .ok (.bl true) S1) (z : (evSs Γ sub a τ S1).seq (evSs Γ sub ss) = r) : evSs Γ sub (.cond c a b :: ss) τ S = r := by
  simp only [s_cons, s_cond, h, thn_ok, pick_bl, if_true]
  exact z
theorem st_yesN {c : PX} {a b : List Sm} {τ2 : Sl} {S2 : Sto} (h : evE Γ c τ S = .ok (.bl true) S1) (hin : evSs Γ sub a τ S1 = .next τ2 S2) (z : evSs Γ sub ss τ2 S2 = r) : evSs Γ sub (.cond c a b :: ss) τ S = r :=
  st_yes h (by rw [hin, seq_next, z])
theorem done_of {z : Rz} (h : z = .ret v S1) : z.done S = .ok v (Wg.settle S v S1) := by rw [h, done_ret]
theorem st_ret {e : PX} (h : evE Γ e τ S = .ok v S1) : evSs Γ sub (.ret e :: ss) τ S = .ret v S1 := by
  simp only [s_cons, s_ret, h, thn_ok, seq_ret]
theorem bin_ok {o : Bop} {A B : PX} {x y : IV} (h1 : evE Γ A τ S = .ok x S) (h2 : evE Γ B τ S = .ok y S) (h : binI o x y S = .ok v S1) : evE Γ (.bin o A B) τ S = .ok v S1 := by
  simp only [x_bin, h1, h2, bind_ok, h]
theorem blt1 {b : Bf} {A : PX} {x : IV} (h1 : evE Γ A τ S = .ok x S) (h : bltI b [x] S = .ok v S) : evE Γ (.blt b [A]) τ S = .ok v S := by
  simp only [x_blt, xs_cons, xs_nil, h1, bind_ok, h, st_self]
theorem cmp_ok {o : Cop} {A B : PX} {x y : IV} {S2 : Sto} (h1 : evE Γ A τ S = .ok x S1) (h2 : evE Γ B τ S1 = .ok y S2) (h : cmpI o x y S2 = .ok v S2) : evE Γ (.cmp o A B) τ S = .ok v S2 := by
  simp only [x_cmp, h1, h2, bind_ok, h]
theorem not_ok {A : PX} {b : Bool} (h1 : evE Γ A τ S = .ok (.bl b) S1) : evE Γ (.not A) τ S = .ok (.bl (!b)) S1 := by
  simp only [x_not, h1, tr_ok]
theorem or_no {A B : PX} (h1 : evE Γ A τ S = .ok (.bl false) S1) : evE Γ (.or A B) τ S = evE Γ B τ S1 := by
  simp only [x_or, h1, tr_ok, Bool.false_eq_true, if_false]
theorem or_yes {A B : PX} (h1 : evE Γ A τ S = .ok (.bl true) S1) : evE Γ (.or A B) τ S = .ok (.bl true) S1 := by
  simp only [x_or, h1, tr_ok, if_true]
theorem and_no {A B : PX} (h1 : evE Γ A τ S = .ok (.bl false) S1) : evE Γ (.and A B) τ S = .ok (.bl false) S1 := by
  simp only [x_and, h1, tr_ok, Bool.false_eq_true, if_false]
theorem and_yes {A B : PX} (h1 : evE Γ A τ S = .ok (.bl true) S1) : evE Γ (.and A B) τ S = evE Γ B τ S1 := by
  simp only [x_and, h1, tr_ok, if_true]
theorem b_modE {i j z : Int} (hj : j ≠ 0) (h : i.fmod j = z) : binI .mod (.int i) (.int j) S = .ok (.int z) S := by rw [b_mod hj, h]
theorem it_lst {e : PX} {m : Nat} {xs : List IV} (h : evE Γ e τ S = .ok (.ref m) S1) (g : S1[m]? = some (.lst xs)) : evI Γ (.val e) τ S = .ok ⟨xs, some (m, .lst xs)⟩ S1 := by
  rw [xi_val, h, bind_ok, walkR_lst g]
/-- .. -/
def spl (xs : List IV) (n : Nat) (v : IV) : IV := .tup (xs.take n ++ [v] ++ xs.drop (n + 1))
theorem mod_lt {c : Int} {n : Nat} (h : 1 ≤ n) : ∃ m : Nat, c.fmod n = m ∧ m < n := by
  have f0 := Int.fmod_nonneg_of_pos c (show (0:Int) < n by omega)
  have f1 := Int.fmod_lt_of_pos c (show (0:Int) < n by omega)
  exact ⟨(c.fmod n).toNat, by omega, by omega⟩
end
end Wo
/-! WjN: properties; odds assigned and refused; lines of parts. -/
namespace Wo
open PySem L2 Wg
def d_get (f : Str) : PD := ⟨1, 1, [
    .ret (.att f (.loc 0))]⟩
section
variable {pr : Prg} {k : Nat} {S : Sto} {f : Str} {Γ : Gam} {τ : Sl} {v : IV} {S1 : Sto}
variable {m : Nat} {c : Str} {l : List Int} {o : List Rat}
/-! ### values that are no odds -/
inductive BadO (S : Sto) (l : List Int) : IV → Prop
  | form {v : IV} {d : PyData} : toD S v = some d → okO l v = false → (∀ xs, v = .tup xs → xs.length ≤ 1000) → BadO S l v
  | sums {o : List Rat} : o.length = l.length → (∀ q ∈ o, 0 < q.num) → (∀ q ∈ o, Bd 300 q) → sums1 l o = false → BadO S l (oV o)
theorem BadO.mono {S' : Sto} (h : BadO S l v) (hs : ∀ (i : Nat) (c : Cell), S[i]? = some c → (∀ n fs, c ≠ .ins n fs) → S'[i]? = some c) : BadO S' l v := by
  cases h with
  | form hd h1 h2 => exact .form (toD_mono hs hd) h1 h2
  | sums h1 h2 h3 h4 => exact .sums h1 h2 h3 h4
theorem lk_put {g : Str} {v : IV} : ∀ fs : List (Str × IV), (putI g v fs).lookup g = some v
  | [] => by simp [putI, List.lookup]
  | (a, w) :: r => by
    simp only [putI]
    split
    · simp [List.lookup]
    · rename_i h
      have : (g == a) = false := by simpa using fun z => h z.symm
      simp only [List.lookup, this, lk_put r]
theorem lk_put_ne {g g' : Str} {v : IV} (hg : g' ≠ g) : ∀ fs : List (Str × IV), (putI g v fs).lookup g' = fs.lookup g'
  | [] => by
    have : (g' == g) = false := by simpa using hg
    simp only [putI, List.lookup, this]
  | (a, w) :: r => by
    simp only [putI]
    split
    · rename_i h
      subst h
      have : (g' == a) = false := by simpa using hg
      simp only [List.lookup, this]
    · simp only [List.lookup]
      split
      · rfl
      · exact lk_put_ne hg r
theorem ObsAt.put {o' : List Rat} (h : ObsAt pr S m c l o) {fs : List (Str × IV)} (hc : S[m]? = some (.ins c fs)) (hl : o'.length = l.length) (hB : ∀ q ∈ o', Bd 300 q) : ObsAt pr (S.set m (.ins c (putI "own_odds" (oV o') fs))) m c l o' := by
  obtain ⟨fs', h1, h2, h3, h4⟩ := h.cell
  rw [hc] at h1
  cases h1
  refine ⟨⟨_, List.getElem?_set_self (get_lt hc), ?_, ?_, ?_⟩, h.a1, h.a2, h.a3, h.lab, hl, hB⟩
  · rw [lk_put_ne (by decide)]; exact h2
  · rw [lk_put_ne (by decide)]; exact h3
  · exact lk_put fs
/-! ### sums with an entry changed -/
/-! ### lines of parts -/
end
end Wo
/-! WjO: balanced rows. -/
namespace Wo
open PySem L2 Wg
section
variable {pr : Prg} {k : Nat} {S : Sto} {f : Str} {Γ : Gam} {τ : Sl} {v : IV} {S1 : Sto}
variable {l : List Int} {o : List Rat}
/-- rows with an entry that is not positive -/
def Bal (o : List Rat) (v : IV) : Prop := ∃ (a i : Nat) (x y : Rat), a < o.length ∧ i ≠ a ∧ ¬ 0 < x.num ∧ v = oV ((o.set a x).set i y)
theorem Bal.all {o : List Rat} {v : IV} (h : Bal o v) : ∃ ys : List Rat, v = oV ys ∧ ys.length = o.length ∧ (ys.map fr).all posF = false := by
  obtain ⟨a, i, x, y, ha, hi, hx, rfl⟩ := h
  refine ⟨_, rfl, by simp, ?_⟩
  rw [List.all_eq_false]
  refine ⟨fr x, List.mem_map.mpr ⟨x, ?_, rfl⟩, ?_⟩
  · rw [List.mem_iff_getElem?]
    refine ⟨a, ?_⟩
    rw [List.getElem?_set_ne hi, List.getElem?_set_self ha]
  · rw [posF_fr]; simp [hx]
theorem Bal.bad (hl : o.length = l.length) (h1 : o.length ≤ 1000) (h : Bal o v) : BadO S l v := by
  obtain ⟨ys, rfl, e1, e2⟩ := h.all
  obtain ⟨d, hd⟩ := oV_data (S := S) (am := ys)
  refine .form hd ?_ fun xs hx => ?_
  · simp only [okO, oV, List.length_map, e2, Bool.and_false]
  · unfold oV at hx
    cases hx
    simp; omega
end
end Wo
/-! WjP: odds by weights, even odds, the same observers. -/
namespace Wo
open PySem L2 Wg
section
variable {pr : Prg} {k : Nat} {S : Sto} {f : Str} {Γ : Gam} {τ : Sl} {v : IV} {S1 : Sto}
variable {l ws : List Int} {o : List Rat}
/-- a row of numbers that can be asked by place -/
def Row (S : Sto) (v : IV) (ws : List Int) : Prop := ∀ (G : Sto) (i : Nat), i < ws.length → ixI v (.int (i : Nat)) (S ++ G) = .ok (.int (dg ws i)) (S ++ G)
theorem Row.at (h : Row S v ws) {i : Nat} (hi : i < ws.length) : ixI v (.int (i : Nat)) S = .ok (.int (dg ws i)) S := by
  have := h [] i hi
  rw [List.append_nil] at this
  exact this
/-! ### equal odds -/
variable {m m' : Nat} {c c' : Str} {l' : List Int} {o' : List Rat}
end
end Wo
/-! WjQ: rows, events of the laws about rooms. -/
namespace Wo
open PySem L2 Wg
/-- what is left by a call that draws -/
structure Lft (n t : Nat) (S S' : Sto) : Prop where
  ext : Ext n S S'
  sup : Sup n t S'
section
variable {pr : Prg} {k : Nat} {S S1 S2 : Sto} {f : Str} {Γ : Gam} {τ : Sl} {v : IV} {n t t' : Nat}
theorem Lft.rfl' (h : Sup n t S) : Lft n t S S := ⟨Ext.rfl', h⟩
theorem Lft.trans (h : Lft n t S S1) (h' : Lft n t' S1 S2) : Lft n t' S S2 := ⟨h.ext.trans h'.ext, h'.sup⟩
theorem Lft.mono (h : Lft n t S S1) (ht : t ≤ t') : Lft n t' S S1 := ⟨h.ext, h.sup.mono ht⟩
theorem Lft.get (h : Lft n t S S1) {m : Nat} {c : Cell} (e : S[m]? = some c) (hm : m ≠ n) : S1[m]? = some c := h.ext.get e hm
theorem Lft.len (h : Lft n t S S1) : S.length ≤ S1.length := h.ext.len
theorem Lft.settle (v : IV) (h : Lft n t S S1) (hn : n < S.length) : Lft n t S (Wg.settle S v S1) := ⟨h.ext.settle v, h.sup.settle v h.ext.len hn⟩
/-! ### labels by a list -/
end
end Wo
/-! WjR: rows of observers. -/
namespace Wo
open PySem L2 Wg
section
variable {pr : Prg} {k : Nat} {S S0 S1 S2 : Sto} {f : Str} {Γ : Gam} {τ : Sl} {v : IV} {n t t' : Nat}
/-! ### odds from weights, any maker of fractions -/
theorem Lft.put (h : Lft n t S0 S) {m : Nat} {c : Cell} (hm : S0.length ≤ m) (hn : n < S0.length) : Lft n t S0 (S.set m c) := by
  refine ⟨⟨by simpa using h.ext.len, fun i hi hne => ?_⟩, ?_⟩
  · rw [List.getElem?_set_ne (by omega)]; exact h.ext.old i hi hne
  · obtain ⟨a, b, d, q, r⟩ := h.sup
    exact ⟨a, b, d, by rw [List.getElem?_set_ne (by omega)]; exact q, r⟩
end
end Wo
/-! WjS: rooms. -/
namespace Wo
open PySem L2 Wg
def obsC (l : List Int) (o : List Rat) : Cell := .ins "Observer" [("own_labels", lV l), ("own_parts", partsV l), ("own_odds", oV o)]
def prsC (a b : IV) : Cell := .ins "Presence" [("kept", a), ("before", b)]
def roomC (ws : List IV) (z p : Nat) : Cell := .ins "Room" [("watchers", .tup ws), ("size", .int z), ("presence", .ref p)]
def d_pinit : PD := ⟨2, 2, [
    .fld (.loc 0) "kept" (.loc 1),
    .fld (.loc 0) "before" (.loc 1)]⟩
def lb_rinit_2 : List Sm := [
      .cond (.cmp .ne (.blt .len [(.att "labels" (.loc 2))]) (.loc 3)) [
        .raise "InvalidRoomError"] []]
def lb_rinit_1 : List Sm := [
      .cond (.not (.iso (.loc 2) "Observer")) [
        .raise "InvalidRoomError"] []]
def d_rinit : PD := ⟨1001, 4, [
    .cond (.not (.chain .le .le (.k (.int 1)) (.blt .len [(.loc 1)]) (.att "MOST_OBSERVERS" (.loc 0)))) [
      .raise "InvalidRoomError"] [],
    .for (.nm 2) (.val (.loc 1)) lb_rinit_1,
    .set (.nm 3) (.blt .len [(.att "labels" (.ix (.loc 1) (.k (.int 0))))]),
    .for (.nm 2) (.val (.loc 1)) lb_rinit_2,
    .fld (.loc 0) "watchers" (.loc 1),
    .fld (.loc 0) "size" (.loc 3),
    .fld (.loc 0) "presence" (.new (.k (.cls "Presence")) [(.rgs true (.loc 3))])]⟩
structure RmLib (pr : Prg) : Prop where
  lib : OLib pr
  oinit : pr.att "Observer" "__init__" = some (.meth "Observer.__init__")
  oinitD : Has pr "Observer.__init__" d_init
  oasg : pr.att "Observer" "assign_odds" = some (.meth "Observer.assign_odds")
  oasgD : Has pr "Observer.assign_odds" d_assign
  o1 : pr.att "Observer" "own_labels" = none
  o2 : pr.att "Observer" "own_parts" = none
  o3 : pr.att "Observer" "own_odds" = none
  olab : ∃ s, pr.att "Observer" "labels" = some (.prop "Observer.labels" s)
  olabD : Has pr "Observer.labels" (d_get "own_labels")
  oodd : ∃ s, pr.att "Observer" "odds" = some (.prop "Observer.odds" s)
  ooddD : Has pr "Observer.odds" (d_get "own_odds")
  oiso : pr.isub "Observer" "Observer" = true
  pinit : pr.att "Presence" "__init__" = some (.meth "Presence.__init__")
  pinitD : Has pr "Presence.__init__" d_pinit
  p1 : pr.att "Presence" "kept" = none
  p2 : pr.att "Presence" "before" = none
  rinit : pr.att "Room" "__init__" = some (.meth "Room.__init__")
  rinitD : Has pr "Room.__init__" d_rinit
  rmost : pr.att "Room" "MOST_OBSERVERS" = some (.con (.int 6))
  r1 : pr.att "Room" "watchers" = none
  r2 : pr.att "Room" "size" = none
  r3 : pr.att "Room" "presence" = none
end Wo
/-! WjT: rooms of rows; present cases; events drawn. -/
namespace Wo
open PySem L2 Wg
section
variable {pr : Prg} {k : Nat} {S S0 S1 S2 : Sto} {f : Str} {Γ : Gam} {τ : Sl} {v : IV} {n t t' : Nat}
def refsFrom (B c : Nat) : List IV := (List.range c).map fun i => IV.ref (B + i)
/-! ### the present cases -/
def d_rset : PD := ⟨2, 3, [
    .cond (.or (.not (.call "is_valid_event" [(.loc 1), (.att "size" (.loc 0))])) (.cmp .eq (.blt .len [(.loc 1)]) (.k (.int 0)))) [
      .raise "InvalidEventError"] [],
    .set (.nm 2) (.att "presence" (.loc 0)),
    .fld (.loc 2) "kept" (.loc 1)]⟩
def d_rassign : PD := ⟨2, 2, [
    .fld (.loc 0) "cases" (.loc 1)]⟩
structure RoomAt (S : Sto) (m p z : Nat) (ws : List IV) (a b : IV) : Prop where
  room : S[m]? = some (roomC ws z p)
  prs : S[p]? = some (prsC a b)
variable {m p z : Nat} {ws : List IV} {a b : IV}
theorem RoomAt.size (M : RmLib pr) (h : RoomAt S m p z ws a b) : attI (gam pr k) "size" (.ref m) S = .ok (.int z) S := att_fld h.room M.r2 (by kernel_rfl)
theorem RoomAt.kept (M : RmLib pr) (h : RoomAt S m p z ws a b) : attI (gam pr k) "kept" (.ref p) S = .ok a S := att_fld h.prs M.p1 (by kernel_rfl)
end
end Wo
/-! WjU: events drawn and asked about; equal values. -/
namespace Wo
open PySem L2 Wg
end Wo
/-! WjV: present odds. -/
namespace Wo
open PySem L2 Wg
section
variable {pr : Prg} {k : Nat} {S S0 S1 S2 : Sto} {f g : Str} {Γ : Gam} {τ : Sl} {v : IV} {n t t' : Nat}
/-! ### present odds by weights -/
def mts (l : List Int) (is : List Nat) (i : Nat) : List Nat := is.filter fun y => decide (dg l y = dg l i)
variable {l ws : List Int} {is : List Nat}
variable {m p z : Nat} {wr : List IV} {a b : IV}
end
end Wo
/-! WjW: present odds, both sides. -/
namespace Wo
open PySem L2 Wg
end Wo
/-! WjX: partitions joined. -/
namespace Wo
open PySem L2 Wg
/-! ### canonical labels see the pattern alone -/
/-! ### links -/
/-- cases linked by partitions -/
inductive Lk (z : Nat) (ps : List (List Int)) (i : Nat) : Nat → Prop
  | rfl' : Lk z ps i i
  | step {j k : Nat} {p : List Int} : Lk z ps i j → p ∈ ps → dg p j = dg p k → k < z → Lk z ps i k
section
variable {z : Nat} {ps : List (List Int)} {i j k : Nat}
theorem Lk.lt (h : Lk z ps i j) (hi : i < z) : j < z := by
  cases h with
  | rfl' => exact hi
  | step _ _ _ h => exact h
theorem Lk.trans (h : Lk z ps i j) (h' : Lk z ps j k) : Lk z ps i k := by
  induction h' with
  | rfl' => exact h
  | step _ h1 h2 h3 ih => exact .step ih h1 h2 h3
theorem Lk.symm (h : Lk z ps i j) (hi : i < z) : Lk z ps j i := by
  induction h with
  | rfl' => exact .rfl'
  | @step a b p h h1 h2 h3 ih => exact Lk.trans (.step .rfl' h1 h2.symm (h.lt hi)) ih
theorem Lk.mono {qs : List (List Int)} (h : Lk z ps i j) (hs : ∀ p ∈ ps, p ∈ qs) : Lk z qs i j := by
  induction h with
  | rfl' => exact .rfl'
  | step _ h1 h2 h3 ih => exact .step ih (hs _ h1) h2 h3
end
/-! ### merging -/
/-- equal labels stay equal -/
def Kp (z : Nat) (c c' : List Int) : Prop := ∀ i j, i < z → j < z → dg c i = dg c j → dg c' i = dg c' j
theorem Kp.rfl' {z : Nat} {c : List Int} : Kp z c c := fun _ _ _ _ h => h
theorem Kp.trans {z : Nat} {c d e : List Int} (h : Kp z c d) (h' : Kp z d e) : Kp z c e := fun i j hi hj q => h' i j hi hj (h i j hi hj q)
/-! ### the program -/
end Wo
/-! WjY: regions. -/
namespace Wo
open PySem L2 Wg
/-! ### canonical labels keep the pattern -/
theorem idx_ltW {x : Int} {l : List Int} (h : x ∈ l) : idxI x l < l.length := List.findIdx_lt_length_of_exists ⟨x, h, by simp⟩
theorem idx_at {x : Int} {l : List Int} (h : x ∈ l) : l[idxI x l]'(idx_ltW h) = x := by
  have := List.findIdx_getElem (xs := l) (p := fun z => decide (z = x)) (w := idx_lt h)
  exact of_decide_eq_true this
theorem idx_app {x : Int} {l m : List Int} (h : x ∈ l) : idxI x (l ++ m) = idxI x l := by
  have := idx_ltW h
  unfold idxI at *
  rw [List.findIdx_append, if_pos this]
theorem canF_fin : ∀ (xs seen found : List Int), ∃ ext, (canF xs seen found).1 = seen ++ ext ∧ (∀ x ∈ xs, x ∈ (canF xs seen found).1) ∧ (canF xs seen found).2 = found ++ xs.map (fun x => ((idxI x (canF xs seen found).1 : Nat) : Int))
  | [], seen, found => ⟨[], by simp [canF], by simp, by simp [canF]⟩
  | x :: xs, seen, found => by
    obtain ⟨ext, e1, e2, e3⟩ := canF_fin xs (seenF seen x) (found ++ [((idxI x (seenF seen x) : Nat) : Int)])
    have hx : x ∈ seenF seen x := seen_mem seen x
    obtain ⟨e0, h0⟩ : ∃ e0, seenF seen x = seen ++ e0 := by
      unfold seenF
      split
      · exact ⟨[], by simp⟩
      · exact ⟨[x], rfl⟩
    refine ⟨e0 ++ ext, ?_, ?_, ?_⟩
    · show (canF xs (seenF seen x) _).1 = _
      rw [e1, h0]; simp
    · intro y hy
      show y ∈ (canF xs (seenF seen x) _).1
      rcases List.mem_cons.mp hy with q | q
      · rw [e1, q]; exact List.mem_append_left _ hx
      · exact e2 y q
    · show (canF xs (seenF seen x) _).2 = found ++ ((idxI x (canF xs (seenF seen x) _).1 : Nat) : Int) :: xs.map (fun y => ((idxI y (canF xs (seenF seen x) _).1 : Nat) : Int))
      rw [e3, show idxI x (canF xs (seenF seen x) (found ++ [((idxI x (seenF seen x) : Nat) : Int)])).1 = idxI x (seenF seen x) by rw [e1]; exact idx_app hx]
      simp
theorem can_keep {xs : List Int} {i j : Nat} (hi : i < xs.length) (hj : j < xs.length) : dg (canF xs [] []).2 i = dg (canF xs [] []).2 j ↔ dg xs i = dg xs j := by
  obtain ⟨ext, e1, e2, e3⟩ := canF_fin xs [] []
  rw [List.nil_append] at e3
  generalize (canF xs [] []).1 = fin at *
  have a : ∀ i, i < xs.length → dg (canF xs [] []).2 i = ((idxI (dg xs i) fin : Nat) : Int) ∧ dg xs i ∈ fin := fun i hi => by
    rw [e3]
    have : dg xs i = xs[i] := by simp [dg, hi]
    rw [this]
    exact ⟨by simp [dg, hi], e2 _ (List.getElem_mem hi)⟩
  obtain ⟨a1, a2⟩ := a i hi
  obtain ⟨b1, b2⟩ := a j hj
  rw [a1, b1]
  constructor
  · intro q
    have q : idxI (dg xs i) fin = idxI (dg xs j) fin := by omega
    have h1 := idx_at a2
    have h2 := idx_at b2
    rw [← h1]
    simp only [q]
    exact h2
  · intro q; rw [q]
theorem nodup_len : ∀ {xs ys : List Nat}, xs.Nodup → (∀ x ∈ xs, x ∈ ys) → xs.length ≤ ys.length
  | [], ys, _, _ => by simp
  | x :: xs, ys, h, hs => by
    have hx := hs x (by simp)
    rw [List.nodup_cons] at h
    have := nodup_len (xs := xs) (ys := ys.erase x) h.2 fun y hy => (List.mem_erase_of_ne (fun e : y = x => h.1 (e ▸ hy))).mpr (hs y (by simp [hy]))
    rw [List.length_erase_of_mem hx] at this
    have : 0 < ys.length := List.length_pos_of_mem hx
    simp only [List.length_cons]
    omega
/-! ### the labels of the present cases -/
def nAt (is : List Nat) (i : Nat) : Nat := is.getD i 0
def subL (is : List Nat) (l : List Int) : List Int := is.map fun y => dg l y
def qsOf (is : List Nat) (ls : List (List Int)) : List (List Int) := ls.map fun l => (canF (subL is l) [] []).2
theorem dg_sub {is : List Nat} {l : List Int} {i : Nat} (h : i < is.length) : dg (subL is l) i = dg l (nAt is i) := by simp [dg, subL, nAt, h]
theorem qs_link {is : List Nat} {l : List Int} {i j : Nat} (hi : i < is.length) (hj : j < is.length) : dg (canF (subL is l) [] []).2 i = dg (canF (subL is l) [] []).2 j ↔ dg l (nAt is i) = dg l (nAt is j) := by
  rw [can_keep (by simpa [subL] using hi) (by simpa [subL] using hj), dg_sub hi, dg_sub hj]
/-- what is found from a case -/
structure FS (is : List Nat) (ls : List (List Int)) (i0 : Nat) (fnd : List Nat) : Prop where
  nodup : fnd.Nodup
  snd : ∀ y ∈ fnd, ∃ j, j < is.length ∧ nAt is j = y ∧ Lk is.length (qsOf is ls) i0 j
def Cl (is : List Nat) (fnd : List Nat) (x : Nat) (l : List Int) : Prop := ∀ y ∈ is, dg l y = dg l x → y ∈ fnd
section
variable {is : List Nat} {ls : List (List Int)} {g : List Int} {i0 : Nat} {fnd : List Nat}
theorem nAt_mem {j : Nat} (h : j < is.length) : nAt is j ∈ is := by rw [show nAt is j = is[j] by simp [nAt, h]]; exact List.getElem_mem h
theorem mem_nAt {y : Nat} (h : y ∈ is) : ∃ j, j < is.length ∧ nAt is j = y := by
  obtain ⟨j, hj, e⟩ := List.getElem_of_mem h
  exact ⟨j, hj, by simp [nAt, hj, e]⟩
theorem FS.sub (h : FS is ls i0 fnd) : ∀ y ∈ fnd, y ∈ is := fun y hy => by
  obtain ⟨j, hj, rfl, _⟩ := h.snd y hy
  exact nAt_mem hj
theorem FS.len (h : FS is ls i0 fnd) : fnd.length ≤ is.length := nodup_len h.nodup h.sub
/-- new cases -/
def newF (is : List Nat) (fnd : List Nat) (l : List Int) (x : Nat) : List Nat := (mts l is x).filter fun y => !decide (y ∈ fnd)
theorem FS.ext (h : FS is ls i0 fnd) (hn : is.Nodup) {l : List Int} (hl : l ∈ ls) {x : Nat} (hx : x ∈ fnd) : FS is ls i0 (fnd ++ newF is fnd l x) := by
  refine ⟨?_, fun y hy => ?_⟩
  · refine List.nodup_append.mpr ⟨h.nodup, (hn.filter _).filter _, fun a ha b hb e => ?_⟩
    subst e
    have := (List.mem_filter.mp hb).2
    simp [ha] at this
  · rcases List.mem_append.mp hy with q | q
    · exact h.snd y q
    · have hy2 := List.mem_filter.mp (List.mem_filter.mp q).1
      obtain ⟨j, hj, rfl⟩ := mem_nAt hy2.1
      obtain ⟨jx, hjx, ex, lk⟩ := h.snd x hx
      refine ⟨j, hj, rfl, .step lk (List.mem_map.mpr ⟨l, hl, rfl⟩) ?_ hj⟩
      rw [qs_link hjx hj, ex]
      exact (of_decide_eq_true hy2.2).symm
theorem Cl.mono {x : Nat} {l : List Int} {fnd' : List Nat} (h : Cl is fnd x l) (hs : ∀ y ∈ fnd, y ∈ fnd') : Cl is fnd' x l := fun y hy e => hs y (h y hy e)
/-- a closed set holds the whole region -/
theorem FS.all (h : FS is ls i0 fnd) (h0 : nAt is i0 ∈ fnd) (hi : i0 < is.length) (hc : ∀ x ∈ fnd, ∀ l ∈ ls, Cl is fnd x l) {j : Nat} (hj : Lk is.length (qsOf is ls) i0 j) : nAt is j ∈ fnd := by
  induction hj with
  | rfl' => exact h0
  | @step a b p h1 h2 h3 h4 ih =>
    obtain ⟨l, hl, rfl⟩ := List.mem_map.mp h2
    rw [qs_link (h1.lt hi) h4] at h3
    exact hc _ ih l hl _ (nAt_mem h4) h3.symm
/-! ### the cases left -/
end
end Wo
/-! WjZ: regions, both sides. -/
namespace Wo
open PySem L2 Wg
def rowV (p : List Int × List Int) : IV := .tup [lV p.1, oV (oddsF p.1 p.2)]
def RGood (z : Nat) (p : List Int × List Int) : Prop := Lab p.1 ∧ p.1.length = z ∧ p.2.length = z ∧ ∀ w ∈ p.2, 1 ≤ w ∧ w ≤ 1000
end Wo
/-! WkA: steps of walks. -/
namespace Wo
open PySem L2 Wg
/-- a step along a link of an observer, among the present cases -/
def okStep (rs : List (List Int × List Int)) (is : List Nat) : IV → Bool
  | .tup [.int a, .int b, .int c] => decide (0 ≤ a ∧ a < rs.length) && (decide (b ∈ evV is) && decide (c ∈ evV is)) && decide (dg (rs.getD a.toNat ([], [])).1 b.toNat = dg (rs.getD a.toNat ([], [])).1 c.toNat)
  | _ => false
end Wo
/-! WkB: steps of walks, the law's side. -/
namespace Wo
open PySem L2 Wg
end Wo
/-! WkC: walks. -/
namespace Wo
open PySem L2 Wg
def sB : IV → Int
  | .tup [_, .int b, _] => b
  | _ => 0
def sC : IV → Int
  | .tup [_, _, .int c] => c
  | _ => 0
def onF : Option Int → Int → Bool
  | none, _ => true
  | some c, b => decide (b = c)
/-- steps that go on from a case -/
def wkGo (rs : List (List Int × List Int)) (is : List Nat) : Option Int → List IV → Bool
  | _, [] => true
  | o, x :: xs => okStep rs is x && onF o (sB x) && wkGo rs is (some (sC x)) xs
end Wo
/-! WkD: steps by rewriting. -/
namespace Wo
open PySem L2 Wg
theorem ne_intsA {S : Sto} {a b : List Int} : cmpI .ne (lV a) (lV b) S = .ok (.bl (!decide (a = b))) S := by
  have e0 : eqS (.tup (a.map IV.int)) (.tup (b.map IV.int)) = none := rfl
  show boolN (neT (lV a) (lV b) S (eqI (lV a) (lV b) S)) S = _
  simp only [lV, eqI, e0, dat_ints, shaped_ints, Bool.and_self, if_true, PyData.eqv, eqv_ints, neT, boolN]
end Wo
/-! WkE: the product of a walk. -/
namespace Wo
open PySem L2 Wg
/-- the ratio of a step -/
def stR (rs : List (List Int × List Int)) : IV → Rat
  | .tup [.int a, .int b, .int c] => oAt (oddsF (rs.getD a.toNat ([], [])).1 (rs.getD a.toNat ([], [])).2) c.toNat / oAt (oddsF (rs.getD a.toNat ([], [])).1 (rs.getD a.toNat ([], [])).2) b.toNat
  | _ => 1
def WoAt (S : Sto) (B : Nat) (rs : List (List Int × List Int)) : Prop := ∀ (i : Nat) (p : List Int × List Int), rs[i]? = some p → S[B + i]? = some (obsC p.1 (oddsF p.1 p.2))
section
variable {pr : Prg} {k : Nat} {S U : Sto} {f : Str} {Γ : Gam} {z q : Nat} {is : List Nat} {rs : List (List Int × List Int)} {v : IV} {τ : Sl}
/-- what a step is -/
structure StD (rs : List (List Int × List Int)) (is : List Nat) (x : IV) (a b c : Nat) (p : List Int × List Int) : Prop where
  eq : x = .tup [.int (a : Nat), .int (b : Nat), .int (c : Nat)]
  row : rs[a]? = some p
  hb : b ∈ is
  hc : c ∈ is
  lab : dg p.1 b = dg p.1 c
  ratio : stR rs x = oAt (oddsF p.1 p.2) c / oAt (oddsF p.1 p.2) b
theorem rdiv_pos {a b : Rat} (h : 0 < a) (h2 : 0 < b) : 0 < a / b := by rw [Rat.div_def]; exact Rat.mul_pos h (Rat.inv_pos.mpr h2)
theorem StD.ok {x : IV} {a b c : Nat} {p : List Int × List Int} (h : StD rs is x a b c p) : okStep rs is x = true := by
  have h0 : a < rs.length := (List.getElem?_eq_some_iff.mp h.row).1
  have h1 : rs.getD a ([], []) = p := by rw [List.getD_eq_getElem?_getD, h.row]; rfl
  rw [h.eq]
  simp only [okStep, Int.toNat_natCast, h1, h.lab, evV_mem, h.hb, h.hc, decide_true, Bool.and_true, Bool.and_self, decide_eq_true_eq]
  exact ⟨by omega, by omega⟩
/-! ### the program's product -/
/-! ### the law's product -/
end
end Wo
/-! WkF: walks that are wandered. -/
namespace Wo
open PySem L2 Wg
section
variable {pr : Prg} {k : Nat} {S U : Sto} {f : Str} {Γ : Gam} {z q n t : Nat} {is : List Nat} {rs : List (List Int × List Int)} {v : IV} {τ : Sl}
def lastC (o : Option Int) (xs : List IV) : Option Int := match xs.getLast? with
  | some y => some (sC y)
  | none => o
theorem wkGo_snoc {y : IV} : ∀ (xs : List IV) (o : Option Int), wkGo rs is o (xs ++ [y]) = (wkGo rs is o xs && (okStep rs is y && onF (lastC o xs) (sB y)))
  | [], o => by simp [wkGo, lastC]
  | x :: xs, o => by
    have e : lastC o (x :: xs) = lastC (some (sC x)) xs := by
      unfold lastC
      cases xs with
      | nil => rfl
      | cons w ws =>
        rw [List.getLast?_cons_cons]
        cases h : (w :: ws).getLast? with
        | none => simp at h
        | some y => rfl
    simp only [List.cons_append, wkGo, wkGo_snoc xs, e, Bool.and_assoc]
/-- a tuple of so many steps -/
structure WkOf (rs : List (List Int × List Int)) (is : List Nat) (xs : List IV) (x : Nat) : Prop where
  go : wkGo rs is none xs = true
  last : xs ≠ [] → lastC none xs = some (x : Int)
theorem WkOf.snoc {xs : List IV} {x a y : Nat} {p : List Int × List Int} (h : WkOf rs is xs x) (D : StD rs is (.tup [.int (a : Nat), .int (x : Nat), .int (y : Nat)]) a x y p) : WkOf rs is (xs ++ [.tup [.int (a : Nat), .int (x : Nat), .int (y : Nat)]]) y := by
  refine ⟨?_, fun _ => by simp [lastC, sC]⟩
  rw [wkGo_snoc, h.go, D.ok, Bool.true_and, Bool.true_and]
  by_cases hx : xs = []
  · subst hx; rfl
  · rw [h.last hx]; simp [onF, sB]
end
end Wo
/-! WkG: a room with its rows. -/
namespace Wo
open PySem L2 Wg
structure Rm (S0 S : Sto) (n t z q m p B : Nat) (rs : List (List Int × List Int)) (is : List Nat) : Prop where
  lft : Lft n t S0 S
  rows : S[q]? = some (.lst (rs.map rowV))
  room : ∃ b, RoomAt S m p z (refsFrom B rs.length) (lV (evV is)) b
  obs : WoAt S B rs
  good : ∀ p ∈ rs, RGood z p
  len1 : 1 ≤ rs.length
  len6 : rs.length ≤ 6
  z1 : 1 ≤ z
  z12 : z ≤ 12
  sub : is.Sublist (List.range z)
  ne : is ≠ []
  d0 : n < S0.length
  d1 : S0.length ≤ q
  d2 : q < B
  d3 : B + rs.length ≤ m
  d4 : B + rs.length ≤ p
  d5 : m ≠ p
section
variable {pr : Prg} {k : Nat} {S S0 S1 : Sto} {f : Str} {Γ : Gam} {n t t' z q m p B : Nat} {is is' : List Nat} {rs : List (List Int × List Int)} {v : IV} {τ : Sl}
theorem Rm.next (h : Rm S0 S n t z q m p B rs is) (L : Lft n t' S S1) : Rm S0 S1 n t' z q m p B rs is := by
  have hd := h.d0; have h1 := h.d1; have h2 := h.d2; have h3 := h.d3; have h4 := h.d4
  obtain ⟨b, hb⟩ := h.room
  refine ⟨h.lft.trans L, L.get h.rows (by omega), ⟨b, L.get hb.room (by omega), L.get hb.prs (by omega)⟩, fun i x hx => L.get (h.obs i x hx) (by omega), h.good, h.len1, h.len6, h.z1, h.z12, h.sub, h.ne, hd, h1, h2, h3, h4, h.d5⟩
theorem Rm.mono (h : Rm S0 S n t z q m p B rs is) (ht : t ≤ t') : Rm S0 S n t' z q m p B rs is :=
  h.next ⟨Ext.rfl', h.lft.sup.mono ht⟩
theorem Rm.sup (h : Rm S0 S n t z q m p B rs is) : Sup n t S := h.lft.sup
theorem Rm.lt (h : Rm S0 S n t z q m p B rs is) {i : Nat} (hi : i ∈ is) : i < z := by simpa using h.sub.subset hi
structure AsLib (pr : Prg) : Prop where
  asg : Has pr "Room.assign_cases" d_rassign
  cas : pr.att "Room" "cases" = some (.prop "Room.cases" (some "Room.cases="))
  set : Has pr "Room.cases=" d_rset
  ev : Has pr "is_valid_event" d_is_valid_event
  met : pr.att "Room" "assign_cases" = some (.meth "Room.assign_cases")
theorem Rm.met (A : AsLib pr) (h : Rm S0 S n t z q m p B rs is) : metI (gam pr k) "assign_cases" false (.ref m) S = some ("Room.assign_cases" : Str) := by
  obtain ⟨b, hb⟩ := h.room
  exact met_ins hb.room A.met (by kernel_rfl)
end
end Wo
/-! WkH: rows of parts, steps from a case. -/
namespace Wo
open PySem L2 Wg
/-- a part: its observer, its cases, their odds -/
abbrev PR := Nat × List Nat × List Rat
/-- the odds of a case in a part -/
def pAt (r : PR) (x : Nat) : Rat := oAt r.2.2 (r.2.1.idxOf x)
structure PGood (r : PR) : Prop where
  ne : r.2.1 ≠ []
  len : r.2.2.length = r.2.1.length
  nd : r.2.1.Nodup
  lt : ∀ x ∈ r.2.1, x < 12
  pos : ∀ o ∈ r.2.2, 0 < o.num
  bd : ∀ o ∈ r.2.2, Bd 300 o
  rt : ∀ x ∈ r.2.1, ∀ y ∈ r.2.1, Bd 10 (pAt r y / pAt r x)
/-- from a case to a case of one part -/
def Edg (ps : List PR) (a x y : Nat) (ρ : Rat) : Prop := ∃ r ∈ ps, r.1 = a ∧ x ∈ r.2.1 ∧ y ∈ r.2.1 ∧ ρ = pAt r y / pAt r x
section
variable {pr : Prg} {k : Nat} {S U : Sto} {f : Str} {Γ : Gam} {R : Nat} {ps : List PR} {v : IV} {τ : Sl} {r : PR} {x y : Nat}
theorem zip_at (h : PGood r) (hx : x ∈ r.2.1) : (x, pAt r x) ∈ r.2.1.zip r.2.2 := by
  have h1 : r.2.1.idxOf x < r.2.1.length := List.idxOf_lt_length_of_mem hx
  have h2 : r.2.1.idxOf x < r.2.2.length := by rw [h.len]; exact h1
  have e : (r.2.1.zip r.2.2)[r.2.1.idxOf x]? = some (x, pAt r x) := by
    rw [List.getElem?_zip_eq_some]
    refine ⟨by rw [List.getElem?_eq_getElem h1]; simp, ?_⟩
    rw [List.getElem?_eq_getElem h2]
    simp [pAt, oAt, h2]
  exact List.mem_of_getElem? e
theorem pAt_good (h : PGood r) (hx : x ∈ r.2.1) : 0 < (pAt r x).num ∧ Bd 300 (pAt r x) := by
  have := (List.of_mem_zip (zip_at h hx)).2
  exact ⟨h.pos _ this, h.bd _ this⟩
theorem rpos {q : Rat} (h : 0 < q.num) : 0 < q := by
  have h1 : 0 ≤ q := Rat.num_nonneg.mp (by omega)
  exact Rat.lt_of_le_of_ne h1 (fun e => by rw [← e] at h; simp at h)
theorem Edg.bd (hp : ∀ r ∈ ps, PGood r) {a : Nat} {ρ : Rat} (h : Edg ps a x y ρ) : Bd 10 ρ ∧ 0 < ρ := by
  obtain ⟨r, hr, _, h2, h3, rfl⟩ := h
  refine ⟨(hp r hr).rt x h2 y h3, rdiv_pos ?_ ?_⟩
  · have := (pAt_good (hp r hr) h3).1
    exact rpos this
  · have := (pAt_good (hp r hr) h2).1
    exact rpos this
/-! ### steps_from -/
end
end Wo
/-! WkI: what is reached from cases along parts. -/
namespace Wo
open PySem L2 Wg
/-- a walk along parts, with the product of its ratios -/
inductive Pth (ps : List PR) : Nat → Nat → List IV → Rat → Prop
  | nil (s : Nat) : Pth ps s s [] 1
  | snoc {s x y a : Nat} {w : List IV} {q ρ : Rat} : Pth ps s x w q → Edg ps a x y ρ → Pth ps s y (w ++ [.tup [.int (a : Nat), .int (x : Nat), .int (y : Nat)]]) (q * ρ)
/-- an entry: start, weight, walk -/
abbrev RE := Nat × Rat × List IV
def keysD (l : List (Nat × RE)) : List Nat := l.map (·.1)
section
variable {pr : Prg} {k : Nat} {S U : Sto} {f : Str} {Γ : Gam} {R : Nat} {ps : List PR} {v : IV} {τ : Sl} {r : PR} {x y s : Nat} {l : List (Nat × RE)}
theorem Pth.bd (hp : ∀ r ∈ ps, PGood r) {w : List IV} {q : Rat} (h : Pth ps s x w q) : Bd (1 + 10 * w.length) q ∧ 0 < q := by
  induction h with
  | nil => exact ⟨bd1, by decide⟩
  | snoc h e ih =>
    obtain ⟨b, c⟩ := e.bd hp
    exact ⟨(bd_times ih.1 b).mono (by simp; omega), Rat.mul_pos ih.2 c⟩
theorem Pth.one {a : Nat} {ρ : Rat} (e : Edg ps a x y ρ) : Pth ps x y [.tup [.int (a : Nat), .int (x : Nat), .int (y : Nat)]] ρ := by
  have := Pth.snoc (.nil x) e
  simpa using this
theorem Pth.trans {w1 w2 : List IV} {q1 q2 : Rat} {z : Nat} (h1 : Pth ps s x w1 q1) (h2 : Pth ps x z w2 q2) : Pth ps s z (w1 ++ w2) (q1 * q2) := by
  induction h2 with
  | nil => simpa using h1
  | snoc h e ih =>
    rw [← List.append_assoc, show ∀ a b c : Rat, a * (b * c) = a * b * c from fun a b c => by grind]
    exact .snoc ih e
theorem Edg.symm (hp : ∀ r ∈ ps, PGood r) {a : Nat} {ρ : Rat} (e : Edg ps a x y ρ) : Edg ps a y x (1 / ρ) := by
  obtain ⟨r, hr, h1, h2, h3, rfl⟩ := e
  refine ⟨r, hr, h1, h3, h2, ?_⟩
  have a1 := rpos (pAt_good (hp r hr) h2).1
  have a2 := rpos (pAt_good (hp r hr) h3).1
  generalize pAt r x = u at *
  generalize pAt r y = w at *
  have n1 : u ≠ 0 := fun z => by rw [z] at a1; exact absurd a1 (by decide)
  have n2 : w ≠ 0 := fun z => by rw [z] at a2; exact absurd a2 (by decide)
  grind
/-- a step turned round -/
def trnV : IV → IV
  | .tup [a, b, c] => .tup [a, c, b]
  | _ => .non
theorem Pth.symm (hp : ∀ r ∈ ps, PGood r) {w : List IV} {q : Rat} (h : Pth ps s x w q) : Pth ps x s (w.reverse.map trnV) (1 / q) := by
  induction h with
  | nil =>
    have : (1 : Rat) / 1 = 1 := by grind
    rw [this]; exact .nil _
  | @snoc x y a w q ρ h e ih =>
    have b := Pth.one (e.symm hp)
    have := b.trans ih
    rw [List.reverse_append, List.map_append]
    have e0 : 1 / (q * ρ) = 1 / ρ * (1 / q) := by
      have n1 := (e.bd hp).2
      have n2 := (h.bd hp).2
      have m1 : ρ ≠ 0 := fun z => by rw [z] at n1; exact absurd n1 (by decide)
      have m2 : q ≠ 0 := fun z => by rw [z] at n2; exact absurd n2 (by decide)
      grind
    rw [e0]
    exact this
/-! ### the dict -/
theorem mem_keys : x ∈ keysD l ↔ ∃ e, l.lookup x = some e := by
  induction l with
  | nil => simp [keysD]
  | cons p l ih =>
    obtain ⟨y, e⟩ := p
    simp only [keysD, List.map_cons, List.mem_cons, List.lookup_cons] at ih ⊢
    by_cases h : x = y
    · subst h; simp
    · have h2 : (x == y) = false := by simp [h]
      rw [h2]; simp [h, ih]
theorem look_app {e : RE} (h : x ∉ keysD l) : (l ++ [(x, e)]).lookup x = some e := by
  have hn : l.lookup x = none := by
    cases hh : l.lookup x with
    | none => rfl
    | some e' => exact absurd (mem_keys.mpr ⟨e', hh⟩) h
  rw [List.lookup_append, hn]; simp
theorem look_app_ne {e : RE} (h : y ≠ x) : (l ++ [(x, e)]).lookup y = l.lookup y := by
  rw [List.lookup_append]
  have h2 : (y == x) = false := by simp [h]
  simp [List.lookup_cons, h2]
/-! ### what is kept -/
/-- the entries so far -/
structure Ents (ps : List PR) (cs : List Nat) (l : List (Nat × RE)) : Prop where
  nd : (keysD l).Nodup
  lt : ∀ x ∈ keysD l, x < 12
  path : ∀ x e, l.lookup x = some e → Pth ps e.1 x e.2.2 e.2.1
  short : ∀ x e, l.lookup x = some e → e.2.2.length < l.length
  start : ∀ x e, l.lookup x = some e → e.1 ∈ cs ∧ l.lookup e.1 = some (e.1, 1, [])
theorem Ents.len {cs : List Nat} (h : Ents ps cs l) : l.length ≤ 12 := by
  have := nodup_len h.nd (ys := List.range 12) (fun x hx => by simp; exact h.lt x hx)
  simpa [keysD] using this
/-- one case more -/
theorem Ents.add {cs : List Nat} (h : Ents ps cs l) {a : Nat} {e : RE} {ρ : Rat} (hx : l.lookup x = some e) (hy : y ∉ keysD l) (hy2 : y < 12) (hE : Edg ps a x y ρ) : Ents ps cs (l ++ [(y, (e.1, e.2.1 * ρ, e.2.2 ++ [IV.tup [.int (a : Nat), .int (x : Nat), .int (y : Nat)]]))]) := by
  have mem : ∀ z ∈ keysD (l ++ [(y, (e.1, e.2.1 * ρ, e.2.2 ++ [IV.tup [.int (a : Nat), .int (x : Nat), .int (y : Nat)]]))]), z ∈ keysD l ∨ z = y := fun z hz => by simpa [keysD] using hz
  have st := h.start x e hx
  have e1y : e.1 ≠ y := fun z => hy (mem_keys.mpr ⟨_, by rw [← z]; exact st.2⟩)
  have lk : ∀ z e', (l ++ [(y, (e.1, e.2.1 * ρ, e.2.2 ++ [IV.tup [.int (a : Nat), .int (x : Nat), .int (y : Nat)]]))]).lookup z = some e' → (z ≠ y ∧ l.lookup z = some e') ∨ (z = y ∧ e' = (e.1, e.2.1 * ρ, e.2.2 ++ [IV.tup [.int (a : Nat), .int (x : Nat), .int (y : Nat)]])) := fun z e' hz => by
    by_cases hzy : z = y
    · subst hzy; rw [look_app hy] at hz; cases hz; exact .inr ⟨rfl, rfl⟩
    · rw [look_app_ne hzy] at hz; exact .inl ⟨hzy, hz⟩
  refine ⟨?_, fun z hz => ?_, fun z e' hz => ?_, fun z e' hz => ?_, fun z e' hz => ?_⟩
  · have : keysD (l ++ [(y, (e.1, e.2.1 * ρ, e.2.2 ++ [IV.tup [.int (a : Nat), .int (x : Nat), .int (y : Nat)]]))]) = keysD l ++ [y] := by simp [keysD]
    rw [this, List.nodup_append]
    exact ⟨h.nd, by simp, fun a ha b hb => by simp at hb; subst hb; exact fun e => hy (e ▸ ha)⟩
  · rcases mem z hz with h1 | h1
    · exact h.lt z h1
    · rw [h1]; exact hy2
  · rcases lk z e' hz with ⟨_, h1⟩ | ⟨rfl, rfl⟩
    · exact h.path z e' h1
    · exact (h.path x e hx).snoc hE
  · rcases lk z e' hz with ⟨_, h1⟩ | ⟨rfl, rfl⟩
    · have := h.short z e' h1; simp; omega
    · have := h.short x e hx; simp; omega
  · rcases lk z e' hz with ⟨_, h1⟩ | ⟨rfl, rfl⟩
    · have := h.start z e' h1
      refine ⟨this.1, ?_⟩
      rw [look_app_ne (fun z => hy (mem_keys.mpr ⟨_, by rw [← z]; exact this.2⟩))]
      exact this.2
    · refine ⟨st.1, ?_⟩
      rw [look_app_ne e1y]; exact st.2
/-- a new start -/
theorem Ents.new {cs : List Nat} (h : Ents ps cs l) (hs : s ∈ cs) (hy : s ∉ keysD l) (hy2 : s < 12) : Ents ps cs (l ++ [(s, (s, 1, []))]) := by
  have lk : ∀ z e', (l ++ [(s, ((s, 1, []) : RE))]).lookup z = some e' → (z ≠ s ∧ l.lookup z = some e') ∨ (z = s ∧ e' = (s, 1, [])) := fun z e' hz => by
    by_cases hzy : z = s
    · subst hzy; rw [look_app hy] at hz; cases hz; exact .inr ⟨rfl, rfl⟩
    · rw [look_app_ne hzy] at hz; exact .inl ⟨hzy, hz⟩
  refine ⟨?_, fun z hz => ?_, fun z e' hz => ?_, fun z e' hz => ?_, fun z e' hz => ?_⟩
  · have : keysD (l ++ [(s, ((s, 1, []) : RE))]) = keysD l ++ [s] := by simp [keysD]
    rw [this, List.nodup_append]
    exact ⟨h.nd, by simp, fun a ha b hb => by simp at hb; subst hb; exact fun e => hy (e ▸ ha)⟩
  · have : z ∈ keysD l ∨ z = s := by simpa [keysD] using hz
    rcases this with h1 | h1
    · exact h.lt z h1
    · rw [h1]; exact hy2
  · rcases lk z e' hz with ⟨_, h1⟩ | ⟨rfl, rfl⟩
    · exact h.path z e' h1
    · exact .nil _
  · rcases lk z e' hz with ⟨_, h1⟩ | ⟨rfl, rfl⟩
    · have := h.short z e' h1; simp; omega
    · simp
  · rcases lk z e' hz with ⟨_, h1⟩ | ⟨rfl, rfl⟩
    · have := h.start z e' h1
      refine ⟨this.1, ?_⟩
      rw [look_app_ne (fun z => hy (mem_keys.mpr ⟨_, by rw [← z]; exact this.2⟩))]
      exact this.2
    · exact ⟨hs, look_app hy⟩
end
end Wo
/-! WkJ: spread. -/
namespace Wo
open PySem L2 Wg
structure Pre (S U : Sto) : Prop where
  len : S.length ≤ U.length
  old : ∀ i, i < S.length → U[i]? = S[i]?
section
variable {S U V : Sto}
theorem Pre.rfl' : Pre S S := ⟨Nat.le_refl _, fun _ _ => rfl⟩
theorem Pre.set {j : Nat} {c : Cell} (h : Pre S U) (hj : S.length ≤ j) : Pre S (U.set j c) := ⟨by simpa using h.len, fun i hi => by rw [List.getElem?_set_ne (by omega)]; exact h.old i hi⟩
theorem Pre.get {i : Nat} {c : Cell} (h : Pre S U) (g : S[i]? = some c) : U[i]? = some c := by rw [h.old i (get_lt g)]; exact g
theorem Pre.eq (h : Pre S U) : U = S ++ U.drop S.length := by
  refine List.ext_getElem? fun i => ?_
  by_cases hi : i < S.length
  · rw [List.getElem?_append_left hi]; exact h.old i hi
  · rw [List.getElem?_append_right (by omega), List.getElem?_drop]
    congr 1; omega
theorem Pre.trans (h : Pre S U) (h' : Pre U V) : Pre S V := ⟨Nat.le_trans h.len h'.len, fun i hi => (h'.old i (by have := h.len; omega)).trans (h.old i hi)⟩
end
section
variable {pr : Prg} {k : Nat} {S U : Sto} {f : Str} {Γ : Gam} {R D W H : Nat} {ps : List PR} {cs : List Nat} {v : IV} {τ : Sl} {r : PR} {x y s : Nat} {l l0 : List (Nat × RE)} {ws ws0 : List Nat}
/-- the slots of spread -/
def SP (c0 : IV) (R D s W x : Nat) (wt : Rat) (wl : List IV) (o8 o9 o10 : Option IV) : Sl := [some c0, some (.ref R), some (.ref D), some (.int (s : Nat)), some (.ref W), some (.int (x : Nat)), some (fr wt), some (.tup wl), o8, o9, o10]
end
end Wo
/-! WkK: contradictions, shares. -/
namespace Wo
open PySem L2 Wg
/-- steps: triples of numbers -/
def Trip (w : List IV) : Prop := ∀ x ∈ w, ∃ a b c : Nat, x = .tup [.int (a : Nat), .int (b : Nat), .int (c : Nat)]
section
variable {pr : Prg} {k : Nat} {S U : Sto} {f : Str} {Γ : Gam} {R D : Nat} {ps : List PR} {cs : List Nat} {v : IV} {τ : Sl} {r : PR} {x y s : Nat} {l : List (Nat × RE)} {w : List IV} {p q : Rat}
theorem Trip.lt {n : Nat} (h : Trip w) : (IV.tup w).lt n = true := by
  rw [show (IV.tup w).lt n = ltAll n w from rfl, ltAll_iff]
  intro x hx
  obtain ⟨a, b, c, rfl⟩ := h x hx
  rfl
theorem Trip.rev (h : Trip w) : Trip (w.reverse.map trnV) := fun x hx => by
  obtain ⟨y, hy, rfl⟩ := List.mem_map.mp hx
  obtain ⟨a, b, c, rfl⟩ := h y (List.mem_reverse.mp hy)
  exact ⟨a, c, b, rfl⟩
end
end Wo
/-! WkL: the present parts. -/
namespace Wo
open PySem L2 Wg
end Wo
/-! WkP: what the present parts are. -/
namespace Wo
open PySem L2 Wg
end Wo
/-! WkM: groups of observers. -/
namespace Wo
open PySem L2 Wg
end Wo
/-! WkN: rooms made of any values. -/
namespace Wo
open PySem L2 Wg
end Wo
/-! WkO: rows as data; comprehensions over a list's image; observers of rows. -/
namespace Wo
open PySem L2 Wg
section
variable {pr : Prg} {k : Nat} {S S0 S1 : Sto} {f : Str} {Γ : Gam} {n t t' z q m p B : Nat} {is : List Nat} {rs : List (List Int × List Int)} {v : IV} {τ : Sl}
/-! ### rows as data -/
theorem lcGo_map {α : Type} {one : IV → Sto → Rs (Option IV)} {held : Option (Nat × Cell)} {F G : α → IV} (hh : holds held S = true) : ∀ (ys : List α) (acc : List IV), (∀ y ∈ ys, one (F y) S = .ok (some (G y)) S) → acc.length + ys.length ≤ 1000 → lcGo one held (ys.map F) acc S = .ok (acc ++ ys.map G) S
  | [], acc, _, _ => by simp [lcGo, hh]
  | y :: ys, acc, h, hl => by
    have e := lcGo_map hh ys (acc ++ [G y]) (fun x hx => h x (by simp [hx])) (by simp at hl ⊢; omega)
    have hz : szOk (acc.length + 1) = true := by simp [szOk]; simp at hl; omega
    rw [List.map_cons]
    simp only [lcGo, hh, if_true, h y (by simp), hz, e]
    rw [List.append_assoc]; rfl
theorem lc_map {α : Type} {own : List Nat} {tg : Tg} {it : PIt} {elt : PX} {τ : Sl} {Γ : Gam} {held : Option (Nat × Cell)} (F G : α → IV) (ys : List α) (hit : evI Γ it τ S = .ok ⟨ys.map F, held⟩ S) (hh : holds held S = true) (hl : ys.length ≤ 1000)
    (hg : ∀ y ∈ ys, lcOne Γ own tg [] elt τ (F y) S = .ok (some (G y)) S) : evE Γ (.lc own tg it [] elt) τ S = .ok (.ref S.length) (S ++ [.lst (ys.map G)]) := by
  rw [x_lc, hit, bind_ok, lcGo_map hh ys [] hg (by simpa using hl), bind_ok]
  rfl
end
end Wo
/-! WpA: texts of numbers. -/
namespace Wo
open PySem L2 Wg TL
/-! ### decimal texts -/
def numT (n : Nat) : Str := Str.ofString (toString ((n : Nat) : Int))
theorem tl_numT (n : Nat) : tl (numT n) = numL n := tl_num n
theorem tl_rep {c : Nat} : ∀ (k : Nat) (acc : Array Nat), (((List.replicate k #[c]).foldl (· ++ ·) acc).toList) = acc.toList ++ List.replicate k c
  | 0, acc => by simp
  | k + 1, acc => by
    rw [List.replicate_succ, List.foldl_cons, tl_rep k]
    simp [List.replicate_succ]
theorem tl_zeros {k : Nat} (hk : 2 ≤ k) : tl (Txt.mul (Str.ofString "0") (k : Int)) = List.replicate k 48 := by
  unfold Txt.mul
  have h1 : ¬ (k : Int) < 1 := by omega
  have h2 : ((k : Int) == 1 || (Str.ofString "0").length == 0) = false := by
    have : ((k : Int) == 1) = false := by simp; omega
    rw [this]; decide +kernel
  rw [if_neg h1, if_neg (by rw [h2]; exact Bool.false_ne_true)]
  have e : (Str.ofString "0").cps = #[48] := by decide +kernel
  show ((List.replicate (k : Int).toNat (Str.ofString "0").cps).foldl (· ++ ·) #[]).toList = _
  rw [e, Int.toNat_natCast, tl_rep]
  simp
theorem numL_pow : ∀ k : Nat, numL (10 ^ k) = 49 :: List.replicate k 48
  | 0 => by rw [Nat.pow_zero, numL_lt (by decide)]; rfl
  | k + 1 => by
    have hp : 0 < 10 ^ k := Nat.pow_pos (by decide)
    have h : 10 ≤ 10 ^ (k + 1) := by rw [Nat.pow_succ]; omega
    rw [numL_step h, Nat.pow_succ, Nat.mul_div_cancel _ (by decide), Nat.mul_mod_left, numL_pow k]
    rw [List.cons_append, ← List.replicate_succ']
def pieceS : Str := Str.ofString "1" ++ Txt.mul (Str.ofString "0") 1000
theorem big_ex : ∃ m : Nat, numL m = 49 :: List.replicate 1000 48 ∧ 2 ^ 1000 ≤ m := ⟨10 ^ 1000, numL_pow 1000, Nat.pow_le_pow_left (by decide) 1000⟩
/-- 10 ** 1000 -/
noncomputable def bigN : Nat := big_ex.choose
theorem big_num : numL bigN = 49 :: List.replicate 1000 48 := big_ex.choose_spec.1
theorem big_le : 2 ^ 1000 ≤ bigN := big_ex.choose_spec.2
theorem piece_num : pieceS = numT bigN := by
  refine ext_tl ?_
  rw [pieceS, tl_append, tl_numT, big_num]
  have := tl_zeros (k := 1000) (by decide)
  rw [show ((1000 : Nat) : Int) = 1000 from rfl] at this
  rw [this]
  rfl
theorem zero_len : (Txt.mul (Str.ofString "0") 1000).length = 1000 := by
  have := tl_zeros (k := 1000) (by decide)
  rw [show ((1000 : Nat) : Int) = 1000 from rfl] at this
  rw [len_tl, this, List.length_replicate]
theorem piece_len : pieceS.length = 1001 := by
  rw [piece_num, len_tl, tl_numT, big_num, List.length_cons, List.length_replicate]
theorem piece_text : PySem.intText? pieceS = some (bigN : Int) := by
  rw [piece_num]
  exact int_num (n := bigN) (by rw [big_num, List.length_cons, List.length_replicate]; decide)
def pieceX : PX := .blt .int [(.bin .add (.k (.str "1")) (.bin .mul (.k (.str "0")) (.glb "FIGURES")))]
/-- what the texts' functions lean on -/
structure TxG (pr : Prg) : Prop where
  fig : pr.glob.lookup (Str.ofString "FIGURES") = some (IV.int 1000)
  dig : pr.glob.lookup (Str.ofString "DIGITS") = some (IV.str "0123456789")
section
variable {pr : Prg} {k : Nat} {S : Sto} {f : Str} {τ : Sl}
theorem glb_fig (G : TxG pr) : evE (gam pr k) (.glb "FIGURES") τ S = .ok (.int 1000) S := by
  have e : (gam pr k).glob "FIGURES" = some (IV.int 1000) := G.fig
  rw [x_glb, e, getO_some]
theorem glb_dig (G : TxG pr) : evE (gam pr k) (.glb "DIGITS") τ S = .ok (.str "0123456789") S := by
  have e : (gam pr k).glob "DIGITS" = some (IV.str "0123456789") := G.dig
  rw [x_glb, e, getO_some]
theorem b_mulS {x : Str} {j : Int} (h : (decide (0 ≤ j) && decide (j ≤ 100000) && decide (x.length ≤ 100)) = true) : binI .mul (.str x) (.int j) S = .ok (.str (Txt.mul x j)) S := if_pos h
theorem b_addS {x y : Str} (h : szOk (x.length + y.length) = true) : binI .add (.str x) (.str y) S = .ok (.str (x ++ y)) S := if_pos h
theorem i_str {a : Str} {n : Int} (h : PySem.intText? a = some n) (hl : a.length ≤ 1000000) : bltI .int [.str a] S = .ok (.int n) S := by
  simp only [bltI, h, if_pos hl]
theorem piece_run (G : TxG pr) : evE (gam pr k) pieceX τ S = .ok (.int (bigN : Nat)) S := by
  have m : binI .mul (.str "0") (.int 1000) S = .ok (.str (Txt.mul (Str.ofString "0") 1000)) S := b_mulS (by decide +kernel)
  have a : binI .add (.str "1") (.str (Txt.mul (Str.ofString "0") 1000)) S = .ok (.str (Str.ofString "1" ++ Txt.mul (Str.ofString "0") 1000)) S := b_addS (by rw [zero_len]; decide +kernel)
  have b : bltI .int [.str (Str.ofString "1" ++ Txt.mul (Str.ofString "0") 1000)] S = .ok (.int (bigN : Nat)) S := i_str piece_text (by have := piece_len; unfold pieceS at this; omega)
  exact blt1 (bin_ok x_k (bin_ok x_k (glb_fig G) m) a) b
/-! ### figures -/
def lb_figures_1 : List Sm := [
      .set (.nm 3) (.blt .str [(.bin .mod (.loc 0) (.loc 2))]),
      .set (.nm 1) (.bin .add (.bin .add (.bin .mul (.k (.str "0")) (.bin .sub (.glb "FIGURES") (.blt .len [(.loc 3)]))) (.loc 3)) (.loc 1)),
      .set (.nm 0) (.bin .fdiv (.loc 0) (.loc 2))]
def d_figures : PD := ⟨1, 4, [
    .cond (.cmp .lt (.loc 0) (.k (.int 0))) [
      .ret (.bin .add (.k (.str "-")) (.call "figures" [(.neg (.loc 0))]))] [],
    .par 1 2 (.k (.str "")) (.blt .int [(.bin .add (.k (.str "1")) (.bin .mul (.k (.str "0")) (.glb "FIGURES")))]),
    .whil (.cmp .ge (.loc 0) (.loc 2)) lb_figures_1,
    .ret (.bin .add (.blt .str [(.loc 0)]) (.loc 1))]⟩
theorem st_par {sub : Str → Str → Bool} {Γ : Gam} {ss : List Sm} {i j : Nat} {a b : PX} {x y : IV} {r : Rz} {S1 S2 : Sto} (h1 : evE Γ a τ S = .ok x S1) (h2 : evE Γ b τ S1 = .ok y S2) (c : evSs Γ sub ss ((τ.set i (some x)).set j (some y)) S2 = r) : evSs Γ sub (.par i j a b :: ss) τ S = r := by
  rw [s_cons, s_par, h1, thn_ok, h2, thn_ok, seq_next, rest_eq, c]
theorem st_whil0 {sub : Str → Str → Bool} {Γ : Gam} {ss B : List Sm} {c : PX} {r : Rz} {S1 : Sto} (h : evE Γ c τ S = .ok (.bl false) S1) (z : evSs Γ sub ss τ S1 = r) : evSs Γ sub (.whil c B :: ss) τ S = r := by
  rw [s_cons, s_whil, whileC_stop h, seq_next, rest_eq, z]
theorem st_yesR {Γ : Gam} {sub : Str → Str → Bool} {c : PX} {A B ss : List Sm} {v : IV} {S1 S2 : Sto} (h : evE Γ c τ S = .ok (.bl true) S1) (z : evSs Γ sub A τ S1 = .ret v S2) : evSs Γ sub (.cond c A B :: ss) τ S = .ret v S2 := st_yes h (by rw [z, seq_ret])
theorem app_empty (x : Str) : x ++ Str.ofString "" = x := by
  refine ext_tl ?_
  rw [tl_append]
  show tl x ++ [] = tl x
  rw [List.append_nil]
theorem figs_nat (G : TxG pr) (h : Has pr f d_figures) {n : Nat} (hn : n < 2 ^ 1000) : run pr (k + 1) f [.int (n : Nat)] S = .ok (.str (numT n)) S := by
  rw [run_eq h rfl]
  have big : n < bigN := Nat.lt_of_lt_of_le hn big_le
  have lg : ((n : Nat) : Int).natAbs.log2 < 1920 := by
    rw [Int.natAbs_natCast]
    by_cases h0 : n = 0
    · subst h0; decide
    · exact (Nat.log2_lt h0).mpr (Nat.lt_of_lt_of_le hn (Nat.pow_le_pow_right (by decide) (by decide)))
  have sb : bltI .str [.int (n : Nat)] S = .ok (.str (numT n)) S := if_pos lg
  have ln : (numT n).length ≤ 1000 := by
    rw [len_tl, tl_numT]
    exact numL_len (by decide) (Nat.lt_of_lt_of_le hn (Nat.pow_le_pow_left (by decide) 1000))
  have ap : binI .add (.str (numT n)) (.str "") S = .ok (.str (numT n)) S := by
    have : binI .add (.str (numT n)) (.str "") S = .ok (.str (numT n ++ Str.ofString "")) S := b_addS (by have : (Str.ofString "").length = 0 := rfl; simp only [szOk, decide_eq_true_eq]; omega)
    rw [this, app_empty]
  refine (done_of (v := .str (numT n)) (S1 := S) ?_).trans (by rw [settle_self])
  refine st_no (cmp_ok (loc_ok rfl) x_k (by show cmpI .lt (.int (n : Nat)) (.int 0) S = .ok (.bl false) S; rw [c_lt]; congr 2; first | done | exact decide_eq_false (by omega))) ?_
  refine st_par x_k (piece_run G) ?_
  refine st_whil0 (cmp_ok (loc_ok rfl) (loc_ok rfl) (by show cmpI .ge (.int (n : Nat)) (.int (bigN : Nat)) S = .ok (.bl false) S; rw [c_ge]; congr 2; first | done | exact decide_eq_false (by omega))) ?_
  exact st_ret (bin_ok (blt1 (loc_ok rfl) sb) (loc_ok rfl) ap)
/-! ### a minus sign ahead -/
def numS (z : Int) : Str := if z < 0 then Str.ofString "-" ++ numT z.natAbs else numT z.natAbs
theorem tl_dash : tl (Str.ofString "-") = [45] := by decide +kernel
theorem numT_head {n : Nat} : ∃ c r, numL n = c :: r ∧ 48 ≤ c ∧ c ≤ 57 := by
  cases h : numL n with
  | nil => exact absurd h (numL_ne n)
  | cons c r =>
    have := numL_digits n c (by rw [h]; exact List.mem_cons_self)
    exact ⟨c, r, rfl, this.1, this.2⟩
theorem head49 : ∀ {n : Nat}, 0 < n → ∃ c r, numL n = c :: r ∧ 49 ≤ c := by
  intro n
  induction n using Nat.strongRecOn with
  | _ n ih =>
    intro h0
    by_cases h : n < 10
    · exact ⟨48 + n, [], numL_lt h, by omega⟩
    · obtain ⟨c, r, e, hc⟩ := ih (n / 10) (by omega) (by omega)
      exact ⟨c, r ++ [48 + n % 10], by rw [numL_step (by omega), e]; rfl, hc⟩
theorem dash_yes {x : Str} {r : List Nat} (h : tl x = 45 :: r) : Txt.removeprefix x (Str.ofString "-") = ⟨r.toArray⟩ ∧ Txt.startswith x (Str.ofString "-") = true := by
  have hl : x.length = r.length + 1 := by rw [len_tl, h]; rfl
  have h1 : (Str.ofString "-").length = 1 := by decide +kernel
  have sa : Builtin.Str.subAt x (Str.ofString "-") 0 = true := by
    rw [StrLaws.subAt_eq, h1]
    show ((tl x).drop 0).take 1 == tl (Str.ofString "-")
    rw [h, tl_dash]; rfl
  refine ⟨?_, ?_⟩
  · rw [StrLaws.removeprefix_eq, h1, if_pos (by rw [sa, decide_eq_true (by omega)]; rfl)]
    congr 2
    show (((tl x).drop 1).take (x.length - 1)) = r
    rw [h, hl]
    simp
  · unfold Txt.startswith
    rw [sa, h1, decide_eq_true (by omega)]; rfl
theorem dash_no {x : Str} {c : Nat} {r : List Nat} (h : tl x = c :: r) (hc : c ≠ 45) : Txt.removeprefix x (Str.ofString "-") = x ∧ Txt.startswith x (Str.ofString "-") = false := by
  have h1 : (Str.ofString "-").length = 1 := by decide +kernel
  have sa : Builtin.Str.subAt x (Str.ofString "-") 0 = false := by
    rw [StrLaws.subAt_eq, h1]
    show (((tl x).drop 0).take 1 == tl (Str.ofString "-")) = false
    rw [h, tl_dash]
    simp [hc]
  refine ⟨?_, ?_⟩
  · rw [StrLaws.removeprefix_eq, sa, Bool.and_false, if_neg Bool.false_ne_true]
  · unfold Txt.startswith
    rw [sa, Bool.and_false]
theorem numS_dash (z : Int) : Txt.removeprefix (numS z) (Str.ofString "-") = numT z.natAbs ∧ Txt.startswith (numS z) (Str.ofString "-") = decide (z < 0) := by
  unfold numS
  by_cases h : z < 0
  · rw [if_pos h, decide_eq_true h]
    obtain ⟨h1, h2⟩ := dash_yes (x := Str.ofString "-" ++ numT z.natAbs) (r := numL z.natAbs) (by rw [tl_append, tl_dash, tl_numT]; rfl)
    refine ⟨h1.trans (ext_tl ?_), h2⟩
    rw [tl_mk, tl_numT]
  · rw [if_neg h, decide_eq_false h]
    obtain ⟨c, r, e, h1, _⟩ := numT_head (n := z.natAbs)
    exact dash_no (x := numT z.natAbs) (c := c) (r := r) (by rw [tl_numT, e]) (by omega)
theorem figs_run (G : TxG pr) (h : Has pr "figures" d_figures) {z : Int} (hz : z.natAbs < 2 ^ 1000) : run pr (k + 2) "figures" [.int z] S = .ok (.str (numS z)) S := by
  by_cases hn : z < 0
  · rw [run_eq h rfl]
    have e : -z = ((z.natAbs : Nat) : Int) := by omega
    have r := figs_nat (k := k) (S := S) G h hz
    have ln : (numT z.natAbs).length ≤ 1000 := by
      rw [len_tl, tl_numT]
      exact numL_len (by decide) (Nat.lt_of_lt_of_le hz (Nat.pow_le_pow_left (by decide) 1000))
    have hs : numS z = Str.ofString "-" ++ numT z.natAbs := if_pos hn
    have ng : evE (gam pr (k + 1)) (.neg (.loc 0)) [some (.int z), none, none, none] S = .ok (.int (z.natAbs : Nat)) S := by
      rw [x_neg, loc_ok (v := .int z) rfl, bind_ok, ← e]; rfl
    have l1 : (Str.ofString "-").length = 1 := by decide +kernel
    have ad : binI .add (.str "-") (.str (numT z.natAbs)) S = .ok (.str (numS z)) S := by
      rw [hs]
      exact b_addS (x := Str.ofString "-") (by rw [l1]; simp only [szOk, decide_eq_true_eq]; omega)
    refine (done_of (v := .str (numS z)) (S1 := S) ?_).trans (by rw [settle_self])
    exact st_yesR (S1 := S) (cmp_ok (x := .int z) (y := .int 0) (loc_ok rfl) x_k (by rw [c_lt, decide_eq_true hn])) (st_ret (bin_ok x_k (call_one ng r) ad))
  · have e : z = ((z.natAbs : Nat) : Int) := by omega
    have r := figs_nat (k := k + 1) (S := S) G h hz
    rw [← e] at r
    have hs : numS z = numT z.natAbs := if_neg hn
    rw [hs]
    exact r
/-! ### number_of -/
def lb_number_of_1 : List Sm := [
      .set (.nm 3) (.bin .add (.bin .mul (.loc 3) (.loc 2)) (.blt .int [(.sl (.loc 1) (some (.loc 4)) (some (.bin .add (.loc 4) (.glb "FIGURES"))))])),
      .set (.nm 4) (.bin .add (.loc 4) (.glb "FIGURES"))]
def d_number_of : PD := ⟨1, 5, [
    .par 1 2 (.smt "removeprefix" (.loc 0) (.k (.str "-"))) (.blt .int [(.bin .add (.k (.str "1")) (.bin .mul (.k (.str "0")) (.glb "FIGURES")))]),
    .par 3 4 (.k (.int 0)) (.bin .mod (.blt .len [(.loc 1)]) (.glb "FIGURES")),
    .cond (.cmp .gt (.loc 4) (.k (.int 0))) [
      .set (.nm 3) (.blt .int [(.sl (.loc 1) none (some (.loc 4)))])] [],
    .whil (.cmp .lt (.loc 4) (.blt .len [(.loc 1)])) lb_number_of_1,
    .ret (.ite (.smt "startswith" (.loc 0) (.k (.str "-"))) (.neg (.loc 3)) (.loc 3))]⟩
theorem slice_all (z : Str) : Txt.slice z none (some (z.length : Int)) = z := by
  rw [← C8.cutS_slice]
  refine ext_tl ?_
  show (z.cps.toList.drop (HT.sIx z.length 0 none)).take (HT.sIx z.length z.length (some (z.length : Int)) - HT.sIx z.length 0 none) = z.cps.toList
  rw [HT.sIx_none, HT.sIx_nat, Nat.min_self, List.drop_zero, Nat.sub_zero]
  exact List.take_of_length_le (by rw [len_tl]; exact Nat.le_refl _)
theorem sm_rp {x : Str} {Γ : Gam} {i : Nat} (hi : τ[i]? = some (some (.str x))) (hl : x.length ≤ 1000000) : evE Γ (.smt "removeprefix" (.loc i) (.k (.str "-"))) τ S = .ok (.str (Txt.removeprefix x (Str.ofString "-"))) S := by
  rw [x_smt, loc_ok hi, bind_ok]
  simp only [x_k, bind_ok, smI]
  rw [if_neg (by decide), if_neg (by decide), if_pos trivial, if_pos hl]
theorem sm_sw {x : Str} {Γ : Gam} {i : Nat} (hi : τ[i]? = some (some (.str x))) : evE Γ (.smt "startswith" (.loc i) (.k (.str "-"))) τ S = .ok (.bl (Txt.startswith x (Str.ofString "-"))) S := by
  rw [x_smt, loc_ok hi, bind_ok]
  simp only [x_k, bind_ok, smI]
  rw [if_neg (by decide), if_pos trivial]
theorem l_str {x : Str} (h : x.length ≤ 1000000) : bltI .len [.str x] S = .ok (.int x.length) S := by
  simp only [bltI, lenI, itemsI]
  rw [if_pos (by omega)]
theorem numT_len {n : Nat} {d : Nat} (h0 : 0 < d) (h : n < 10 ^ d) : (numT n).length ≤ d := by
  rw [len_tl, tl_numT]; exact numL_len h0 h
theorem numT_pos (n : Nat) : 0 < (numT n).length := by
  rw [len_tl, tl_numT]
  exact List.length_pos_iff.mpr (numL_ne n)
theorem numS_len {z : Int} {d : Nat} (h0 : 0 < d) (h : z.natAbs < 10 ^ d) : (numS z).length ≤ d + 1 := by
  unfold numS
  have := numT_len h0 h
  split
  · rw [len_tl, tl_append, tl_dash, List.length_append, ← len_tl]; simp; omega
  · omega
theorem num_of_run (G : TxG pr) (h : Has pr f d_number_of) {z : Int} (hz : z.natAbs < 10 ^ 900) : run pr (k + 1) f [.str (numS z)] S = .ok (.int z) S := by
  rw [run_eq h rfl]
  obtain ⟨d1, d2⟩ := numS_dash z
  have sl := numS_len (by decide) hz
  have tl1 := numT_len (by decide) hz
  have tp := numT_pos z.natAbs
  have it : PySem.intText? (numT z.natAbs) = some ((z.natAbs : Nat) : Int) := int_num (by rw [← tl_numT, ← len_tl]; omega)
  generalize hx : numS z = x at *
  generalize hn : numT z.natAbs = d at *
  have md : ((d.length : Nat) : Int).fmod 1000 = (d.length : Nat) := by
    rw [Int.fmod_eq_emod_of_nonneg _ (by decide), Int.emod_eq_of_lt (by omega) (by omega)]
  refine (done_of (v := .int z) (S1 := S) ?_).trans (by rw [settle_self])
  have e1 := sm_rp (Γ := gam pr k) (S := S) (τ := [some (.str x), none, none, none, none]) (i := 0) (x := x) rfl (by omega)
  rw [d1] at e1
  refine st_par e1 (piece_run G) ?_
  refine st_par x_k (bin_ok (blt1 (loc_ok rfl) (l_str (x := d) (by omega))) (glb_fig G) (b_modE (by decide) md)) ?_
  have sli : evE (gam pr k) (.sl (.loc 1) none (some (.loc 4))) [some (.str x), some (.str d), some (.int (bigN : Nat)), some (.int 0), some (.int (d.length : Nat))] S = .ok (.str d) S := by
    rw [x_sl, loc_ok (v := .str d) rfl, bind_ok, xo_none, bind_ok, xo_some, loc_ok (v := .int (d.length : Nat)) rfl, bind_ok, intR_int, bind_ok]
    have : slI (.str d) none (some (d.length : Int)) S = .ok (.str (Txt.slice d none (some (d.length : Int)))) S := if_pos (by omega)
    rw [this, slice_all]
  refine st_yesN (τ2 := [some (.str x), some (.str d), some (.int (bigN : Nat)), some (.int (z.natAbs : Nat)), some (.int (d.length : Nat))]) (S2 := S) (cmp_ok (loc_ok rfl) x_k (by show cmpI .gt (.int (d.length : Nat)) (.int 0) S = .ok (.bl true) S; rw [c_gt, decide_eq_true (by omega)])) (st_set (blt1 sli (i_str it (by omega))) s_nil) ?_
  refine st_whil0 (cmp_ok (loc_ok rfl) (blt1 (loc_ok rfl) (l_str (x := d) (by omega))) (by show cmpI .lt (.int (d.length : Nat)) (.int (d.length : Nat)) S = .ok (.bl false) S; rw [c_lt, decide_eq_false (by omega)])) ?_
  have sw := sm_sw (Γ := gam pr k) (S := S) (τ := [some (.str x), some (.str d), some (.int (bigN : Nat)), some (.int (z.natAbs : Nat)), some (.int (d.length : Nat))]) (i := 0) (x := x) rfl
  rw [d2] at sw
  refine st_ret ?_
  rw [x_ite, sw, tr_ok]
  by_cases hn0 : z < 0
  · rw [decide_eq_true hn0, if_pos rfl, x_neg, loc_ok (v := .int (z.natAbs : Nat)) rfl, bind_ok]
    show Rs.ok (IV.int (-((z.natAbs : Nat) : Int))) S = _
    rw [show -((z.natAbs : Nat) : Int) = z by omega]
  · rw [decide_eq_false hn0, if_neg Bool.false_ne_true, loc_ok (v := .int (z.natAbs : Nat)) rfl]
    rw [show ((z.natAbs : Nat) : Int) = z by omega]
/-! ### is_number_text -/
def d_is_number_text : PD := ⟨1, 3, [
    .set (.nm 1) (.smt "removeprefix" (.loc 0) (.k (.str "-"))),
    .cond (.or (.cmp .eq (.loc 1) (.k (.str ""))) (.not (.blt .all [(.lc [2] (.nm 2) (.val (.loc 1)) [] (.cmp .isin (.loc 2) (.glb "DIGITS")))]))) [
      .ret (.k (.bl false))] [],
    .ret (.and (.cmp .ne (.loc 0) (.k (.str "-0"))) (.or (.cmp .eq (.loc 1) (.k (.str "0"))) (.cmp .ne (.ix (.loc 1) (.k (.int 0))) (.k (.str "0")))))]⟩
theorem isin_sign {c : Nat} {z : Str} : cmpI .isin (.str ⟨#[c]⟩) (.str z) S = .ok (.bl (decide (c ∈ tl z))) S := by
  have e : inI (.str ⟨#[c]⟩) (.str z) S = some (decide (c ∈ tl z)) := by
    show strIn (.str ⟨#[c]⟩) (.str z) = _
    show some (!(Builtin.Str.occurrences z ⟨#[c]⟩ 0 z.length 1).isEmpty) = _
    rw [StrLaws.found_one]
  simp only [cmpI, e, boolR]
theorem tl_digits : tl (Str.ofString "0123456789") = [48, 49, 50, 51, 52, 53, 54, 55, 56, 57] := by decide +kernel
theorem tl_zero : tl (Str.ofString "0") = [48] := by decide +kernel
theorem tl_mzero : tl (Str.ofString "-0") = [45, 48] := by decide +kernel
theorem digs_run (G : TxG pr) {d : Str} (hd : ∀ c ∈ tl d, 48 ≤ c ∧ c ≤ 57) (hl : d.length ≤ 1000) (h1 : τ[1]? = some (some (.str d))) (ht : 2 < τ.length) : evE (gam pr k) (.blt .all [(.lc [2] (.nm 2) (.val (.loc 1)) [] (.cmp .isin (.loc 2) (.glb "DIGITS")))]) τ S = .ok (.bl true) S := by
  have hit : evI (gam pr k) (.val (.loc 1)) τ S = .ok ⟨(tl d).map fun c => IV.str ⟨#[c]⟩, none⟩ S := by
    rw [xi_val, loc_ok h1, bind_ok, walkR_str]; rfl
  have lc := lc_map (S := S) (Γ := gam pr k) (τ := τ) (own := [2]) (tg := .nm 2) (elt := .cmp .isin (.loc 2) (.glb "DIGITS")) (fun c : Nat => IV.str ⟨#[c]⟩) (fun _ => IV.bl true) (tl d) hit rfl (by rw [← len_tl]; exact hl) (fun c hc => by
    have t2 : ((wipeI τ [2]).set 2 (some (.str ⟨#[c]⟩)))[2]? = some (some (.str ⟨#[c]⟩)) := by
      rw [List.getElem?_set_self (by simp [wipeI]; omega)]
    have hm : decide (c ∈ tl (Str.ofString "0123456789")) = true := by
      rw [tl_digits]
      have := hd c hc
      have : c = 48 ∨ c = 49 ∨ c = 50 ∨ c = 51 ∨ c = 52 ∨ c = 53 ∨ c = 54 ∨ c = 55 ∨ c = 56 ∨ c = 57 := by omega
      rcases this with rfl | rfl | rfl | rfl | rfl | rfl | rfl | rfl | rfl | rfl <;> rfl
    have e := cmp_ok (o := .isin) (loc_ok (S := S) t2) (glb_dig (k := k) G) isin_sign
    rw [hm] at e
    simp only [lcOne, sT_nm, ts_nil, bind_ok, if_true, e])
  have e2 : (tl d).map (fun _ => IV.bl true) = ((tl d).map fun _ => true).map IV.bl := by rw [List.map_map]; rfl
  rw [e2] at lc
  refine blt_lc lc ((all_b (S := S) (l := (tl d).map fun _ => true)).trans ?_) rfl
  have : ((tl d).map fun _ => true).all id = true := by simp
  rw [this]
theorem ix_str {x : Str} {c : Nat} {r : List Nat} {Γ : Gam} {i : Nat} (hi : τ[i]? = some (some (.str x))) (h : tl x = c :: r) (hl : x.length ≤ 1000000) : evE Γ (.ix (.loc i) (.k (.int 0))) τ S = .ok (.str ⟨#[c]⟩) S := by
  rw [x_ix, loc_ok hi, bind_ok, x_k, bind_ok]
  have : atI (tl x) 0 = some c := by rw [h]; simp [atI, ixN]
  show (if x.length ≤ 16777216 then (match atI x.cps.toList 0 with | some c => Rs.ok (IV.str ⟨#[c]⟩) S | none => .bad) else .bad) = _
  rw [if_pos (by omega)]
  show (match atI (tl x) 0 with | some c => Rs.ok (IV.str ⟨#[c]⟩) S | none => .bad) = _
  rw [this]
theorem is_num_run (G : TxG pr) (h : Has pr f d_is_number_text) {z : Int} (hz : z.natAbs < 10 ^ 900) : run pr (k + 1) f [.str (numS z)] S = .ok (.bl true) S := by
  rw [run_eq h rfl]
  obtain ⟨d1, d2⟩ := numS_dash z
  have sl := numS_len (by decide) hz
  have tl1 := numT_len (by decide) hz
  have tp := numT_pos z.natAbs
  have hdg : ∀ c ∈ tl (numT z.natAbs), 48 ≤ c ∧ c ≤ 57 := by
    intro c hc
    rw [tl_numT] at hc
    exact numL_digits _ c hc
  obtain ⟨c, r, ec, hc1, hc2⟩ := numT_head (n := z.natAbs)
  have et : tl (numT z.natAbs) = c :: r := by rw [tl_numT, ec]
  have n1 : numS z ≠ Str.ofString "-0" := by
    intro e
    have e' := congrArg tl e
    rw [tl_mzero] at e'
    unfold numS at e'
    by_cases hn : z < 0
    · rw [if_pos hn, tl_append, tl_dash, tl_numT] at e'
      obtain ⟨c', r', e1, h49⟩ := head49 (n := z.natAbs) (by omega)
      rw [e1] at e'
      simp at e'
      omega
    · rw [if_neg hn, et] at e'
      simp at e'
      omega
  have n2 : numT z.natAbs ≠ Str.ofString "" := by
    intro e
    rw [e] at tp
    exact absurd tp (by decide +kernel)
  have last : numT z.natAbs = Str.ofString "0" ∨ (numT z.natAbs ≠ Str.ofString "0" ∧ (⟨#[c]⟩ : Str) ≠ Str.ofString "0") := by
    by_cases h0 : z.natAbs = 0
    · left
      rw [h0]
      refine ext_tl ?_
      rw [tl_numT, tl_zero, numL_lt (by decide)]
    · right
      obtain ⟨c', r', e1, h49⟩ := head49 (n := z.natAbs) (by omega)
      rw [ec] at e1
      cases e1
      refine ⟨fun e => ?_, fun e => ?_⟩
      · have e' := congrArg tl e
        rw [et, tl_zero] at e'
        simp at e'; omega
      · have e' := congrArg tl e
        rw [tl_zero] at e'
        have : [c] = [48] := e'
        simp at this; omega
  generalize hx : numS z = x at *
  generalize hn : numT z.natAbs = d at *
  have e1 := sm_rp (Γ := gam pr k) (S := S) (τ := [some (.str x), none, none]) (i := 0) (x := x) rfl (by omega)
  rw [d1] at e1
  have dg := digs_run (k := k) (S := S) (τ := [some (.str x), some (.str d), none]) G hdg (by omega) rfl (by simp)
  have q1 : evE (gam pr k) (.cmp .eq (.loc 1) (.k (.str ""))) [some (.str x), some (.str d), none] S = .ok (.bl false) S := cmp_ok (x := .str d) (y := .str "") (loc_ok rfl) x_k (by rw [c_eqs, decide_eq_false n2])
  have q2 : evE (gam pr k) (.cmp .ne (.loc 0) (.k (.str "-0"))) [some (.str x), some (.str d), none] S = .ok (.bl true) S := cmp_ok (x := .str x) (y := .str "-0") (loc_ok rfl) x_k (by rw [c_nes, decide_eq_false n1]; rfl)
  refine (done_of (v := .bl true) (S1 := S) ?_).trans (by rw [settle_self])
  refine st_set e1 ?_
  refine st_no ((or_no q1).trans (not_ok dg)) ?_
  refine st_ret ((and_yes q2).trans ?_)
  rcases last with h0 | ⟨h0, h1⟩
  · exact or_yes (cmp_ok (x := .str d) (y := .str "0") (loc_ok rfl) x_k (by rw [c_eqs, decide_eq_true h0]))
  · refine (or_no (cmp_ok (x := .str d) (y := .str "0") (loc_ok rfl) x_k (by rw [c_eqs, decide_eq_false h0]))).trans ?_
    exact cmp_ok (x := .str ⟨#[c]⟩) (y := .str "0") (ix_str rfl et (by omega)) x_k (by rw [c_nes, decide_eq_false h1]; rfl)
end
end Wo
/-! WpB: texts of fractions. -/
namespace Wo
open PySem L2 Wg TL
theorem tl_slash : tl (Str.ofString "/") = [47] := by decide +kernel
theorem tl_emp : tl Str.empty = [] := rfl
theorem emp_app (x : Str) : Str.empty ++ x = x := ext_tl (by rw [tl_append, tl_emp, List.nil_append])
/-- the text of a fraction -/
def fracS (q : Rat) : Str := if q.den = 1 then numS q.num else numS q.num ++ Str.ofString "/" ++ numS q.den
/-- what is needed of them here -/
structure TxL3 (pr : Prg) : Prop where
  G : TxG pr
  validF : Has pr "is_valid_fraction" d_is_valid_fraction
  integer : Has pr "is_integer" d_is_integer
  divisor : Has pr "greatest_divisor" d_greatest_divisor
  figs : Has pr "figures" d_figures
  num : Has pr "number_of" d_number_of
  isnum : Has pr "is_number_text" d_is_number_text
def d_written : PD := ⟨1, 1, [
    .ret (.ite (.cmp .eq (.ix (.loc 0) (.k (.int 1))) (.k (.int 1))) (.call "figures" [(.ix (.loc 0) (.k (.int 0)))]) (.fst [(.call "figures" [(.ix (.loc 0) (.k (.int 0)))]), (.k (.str "/")), (.call "figures" [(.ix (.loc 0) (.k (.int 1)))])]))]⟩
section
variable {pr : Prg} {k : Nat} {S : Sto} {f : Str} {τ : Sl}
theorem pw900 : (10 : Nat) ^ 300 ≤ 2 ^ 1000 := by
  have h : (10 : Nat) ^ 300 = (10 ^ 3) ^ 100 := by rw [← Nat.pow_mul]
  have h2 : (2 : Nat) ^ 1000 = (2 ^ 10) ^ 100 := by rw [← Nat.pow_mul]
  rw [h, h2]
  exact Nat.pow_le_pow_left (by decide) 100
theorem numS_len2 {z : Int} (h : z.natAbs < 10 ^ 300) : (numS z).length ≤ 301 := numS_len (by decide) h
/-- small numerator and denominator -/
def Sm3 (q : Rat) : Prop := q.num.natAbs < 10 ^ 300 ∧ q.den < 10 ^ 300
theorem written_run3 (T : TxL3 pr) (h : Has pr f d_written) {q : Rat} (hq : Sm3 q) : run pr (k + 3) f [fr q] S = .ok (.str (fracS q)) S := by
  rw [run_eq h rfl]
  have a := figs_run (k := k) (S := S) T.G T.figs (z := q.num) (Nat.lt_of_lt_of_le hq.1 pw900)
  have b := figs_run (k := k) (S := S) T.G T.figs (z := (q.den : Int)) (by rw [Int.natAbs_natCast]; exact Nat.lt_of_lt_of_le hq.2 pw900)
  have e0 : evE (gam pr (k + 2)) (.call "figures" [(.ix (.loc 0) (.k (.int 0)))]) [some (fr q)] S = .ok (.str (numS q.num)) S := call_one (ix0 rfl) a
  have e1 : evE (gam pr (k + 2)) (.call "figures" [(.ix (.loc 0) (.k (.int 1)))]) [some (fr q)] S = .ok (.str (numS q.den)) S := call_one (ix1 rfl) b
  have l0 := numS_len2 hq.1
  have l1 := numS_len2 (z := (q.den : Int)) (by rw [Int.natAbs_natCast]; exact hq.2)
  have ls : (Str.ofString "/").length = 1 := by decide +kernel
  have ce : evE (gam pr (k + 2)) (.cmp .eq (.ix (.loc 0) (.k (.int 1))) (.k (.int 1))) [some (fr q)] S = .ok (.bl (decide ((q.den : Int) = 1))) S := cmp_ok (x := .int q.den) (y := .int 1) (ix1 rfl) x_k c_eq
  refine (done_of (v := .str (fracS q)) (S1 := S) ?_).trans (by rw [settle_self])
  refine st_ret ?_
  show evE (gam pr (k + 2)) (.ite (.cmp .eq (.ix (.loc 0) (.k (.int 1))) (.k (.int 1))) (.call "figures" [(.ix (.loc 0) (.k (.int 0)))]) (.fst [(.call "figures" [(.ix (.loc 0) (.k (.int 0)))]), (.k (.str "/")), (.call "figures" [(.ix (.loc 0) (.k (.int 1)))])])) [some (fr q)] S = _
  rw [x_ite, ce, tr_ok]
  unfold fracS
  by_cases hd : q.den = 1
  · rw [if_pos hd, decide_eq_true (by omega), if_pos rfl]
    exact e0
  · rw [if_neg hd, decide_eq_false (by omega), if_neg Bool.false_ne_true]
    have la : (Str.empty ++ numS q.num).length ≤ 1000000 := by rw [emp_app]; omega
    have lb : (Str.empty ++ numS q.num ++ Str.ofString "/").length ≤ 1000000 := by
      rw [emp_app, len_tl, tl_append, List.length_append, ← len_tl, ← len_tl]; omega
    have lc : (Str.empty ++ numS q.num ++ Str.ofString "/" ++ numS q.den).length ≤ 1000000 := by
      rw [emp_app, len_tl, tl_append, tl_append, List.length_append, List.length_append, ← len_tl, ← len_tl, ← len_tl]; omega
    rw [x_fst, xf_cons, e0, bind_ok]
    simp only [fmtI]
    rw [if_pos la, xf_cons, x_k, bind_ok]
    simp only [fmtI]
    rw [if_pos lb, xf_cons, e1, bind_ok]
    simp only [fmtI]
    rw [if_pos lc, xf_nil, bind_ok, emp_app]
/-! ### parse_fraction -/
def d_parse_fraction : PD := ⟨1, 4, [
    .cond (.not (.isi (.loc 0) .str)) [
      .raise "InvalidTextError"] [],
    .set (.nm 1) (.smt "split" (.loc 0) (.k (.str "/"))),
    .cond (.or (.cmp .gt (.blt .len [(.loc 1)]) (.k (.int 2))) (.not (.blt .all [(.lc [2] (.nm 2) (.val (.loc 1)) [] (.call "is_number_text" [(.loc 2)]))]))) [
      .raise "InvalidTextError"] [],
    .set (.nm 3) (.tup [(.call "number_of" [(.ix (.loc 1) (.k (.int 0)))]), (.call "number_of" [(.ix (.bin .add (.loc 1) (.lst [(.k (.str "1"))])) (.k (.int 1)))])]),
    .cond (.or (.not (.call "is_valid_fraction" [(.loc 3)])) (.cmp .ne (.call "written" [(.loc 3)]) (.loc 0))) [
      .raise "InvalidTextError"] [],
    .ret (.loc 3)]⟩
theorem numS_free {z : Int} {s : Nat} (h : s ≠ 45 ∧ (s < 48 ∨ 57 < s)) : s ∉ tl (numS z) := by
  unfold numS
  split
  · rw [tl_append, tl_dash, tl_numT]
    intro hm
    rcases List.mem_append.mp hm with hm | hm
    · simp at hm; exact h.1 hm
    · exact numL_free h.2 hm
  · rw [tl_numT]; exact numL_free h.2
/-- the words of a text, the sign of one letter -/
theorem split_1 {x y : Str} {s : Nat} (ey : tl y = [s]) (hs : y.cps.all (· < 256) = true) {ps : List Str} (h : TL.spl [s] 0 [] (tl x) = ps.map tl) : Txt.split x y = ps := by
  refine map_tl_inj ?_
  rw [split_spl x y (by rw [ey]; simp) (kind_ok hs), ey, h]
def words (q : Rat) : List Str := if q.den = 1 then [numS q.num] else [numS q.num, numS q.den]
theorem split_frac (q : Rat) : Txt.split (fracS q) (Str.ofString "/") = words q := by
  refine split_1 tl_slash (by decide +kernel) ?_
  have f1 : 47 ∉ tl (numS q.num) := numS_free ⟨by decide, by decide⟩
  have f2 : 47 ∉ tl (numS (q.den : Int)) := numS_free ⟨by decide, by decide⟩
  unfold fracS words
  by_cases hd : q.den = 1
  · rw [if_pos hd, if_pos hd, spl_last1 f1]; rfl
  · rw [if_neg hd, if_neg hd, tl_append, tl_append, tl_slash, List.append_assoc]
    show TL.spl (47 :: []) 0 [] (tl (numS q.num) ++ (47 :: [] ++ tl (numS q.den))) = _
    rw [spl_part1 f1, spl_last1 f2]
    rfl
theorem sm_split {x y : Str} {Γ : Gam} {i : Nat} (hi : τ[i]? = some (some (.str x))) (hy : (y.length == 0) = false) (hl : x.length ≤ 1000000) : evE Γ (.smt "split" (.loc i) (.k (.str y))) τ S = .ok (.ref S.length) (S ++ [.lst ((Txt.split x y).map .str)]) := by
  rw [x_smt, loc_ok hi, bind_ok]
  simp only [x_k, bind_ok, smI]
  rw [if_pos trivial, if_pos ⟨hy, hl⟩]
  rfl
theorem fracS_len {q : Rat} (hq : Sm3 q) : (fracS q).length ≤ 700 := by
  have l0 := numS_len2 hq.1
  have l1 := numS_len2 (z := (q.den : Int)) (by rw [Int.natAbs_natCast]; exact hq.2)
  unfold fracS
  split
  · omega
  · have ls : (Str.ofString "/").length = 1 := by decide +kernel
    rw [len_tl, tl_append, tl_append, List.length_append, List.length_append, ← len_tl, ← len_tl, ← len_tl]; omega
theorem num_word {q : Rat} (hq : Sm3 q) {w : Str} (hw : w ∈ words q) : ∃ z : Int, w = numS z ∧ z.natAbs < 10 ^ 300 := by
  unfold words at hw
  split at hw
  · simp at hw; exact ⟨_, hw, hq.1⟩
  · simp at hw
    rcases hw with rfl | rfl
    · exact ⟨_, rfl, hq.1⟩
    · exact ⟨_, rfl, by rw [Int.natAbs_natCast]; exact hq.2⟩
theorem pw39 {n : Nat} (h : n < 10 ^ 300) : n < 10 ^ 900 := Nat.lt_of_lt_of_le h (Nat.pow_le_pow_right (by decide) (by decide))
theorem one_num : numS 1 = Str.ofString "1" := by
  refine ext_tl ?_
  unfold numS
  rw [if_neg (by decide), tl_numT]
  rw [show Int.natAbs 1 = 1 from rfl, numL_lt (by decide)]
  decide +kernel
theorem parse_run3 (T : TxL3 pr) (h : Has pr f d_parse_fraction) (hw : Has pr "written" d_written) {q : Rat} (hq : Sm3 q) : run pr (k + 4) f [.str (fracS q)] S = .ok (fr q) S := by
  rw [run_eq h rfl]
  have fl := fracS_len hq
  have sp := sm_split (Γ := gam pr (k + 3)) (S := S) (τ := [some (.str (fracS q)), none, none, none]) (x := fracS q) (y := Str.ofString "/") (i := 0) rfl (by decide +kernel) (by omega)
  rw [split_frac] at sp
  have wl : (words q).length ≤ 2 ∧ 1 ≤ (words q).length := by unfold words; split <;> simp
  have g1 : (S ++ [Cell.lst ((words q).map IV.str)])[S.length]? = some (.lst ((words q).map .str)) := app_at
  have isn : ∀ w ∈ words q, ∀ U : Sto, run pr (k + 3) "is_number_text" [.str w] U = .ok (.bl true) U := fun w hm U => by
    obtain ⟨z, rfl, hz⟩ := num_word hq hm
    exact is_num_run T.G T.isnum (pw39 hz)
  have al : evE (gam pr (k + 3)) (.blt .all [(.lc [2] (.nm 2) (.val (.loc 1)) [] (.call "is_number_text" [(.loc 2)]))]) [some (.str (fracS q)), some (.ref S.length), none, none] (S ++ [.lst ((words q).map .str)]) = .ok (.bl true) (S ++ [.lst ((words q).map .str)]) := by
    have lc := lc_map (S := S ++ [.lst ((words q).map .str)]) (Γ := gam pr (k + 3)) (τ := [some (.str (fracS q)), some (.ref S.length), none, none]) (own := [2]) (tg := .nm 2) (elt := .call "is_number_text" [(.loc 2)]) IV.str (fun _ => IV.bl true) (words q) (it_lst (loc_ok (i := 1) (v := .ref S.length) rfl) g1) (holds_lst g1) (by omega) (fun w hm => by
      have e := call_one (A := .loc 2) (τ := [some (.str (fracS q)), some (.ref S.length), some (.str w), none]) (loc_ok rfl) (isn w hm (S ++ [.lst ((words q).map .str)]))
      have ts : setT (.nm 2) (.str w) (wipeI [some (.str (fracS q)), some (.ref S.length), none, none] [2]) = some [some (.str (fracS q)), some (.ref S.length), some (.str w), none] := rfl
      simp only [lcOne, ts, ts_nil, bind_ok, if_true, e])
    have e2 : (words q).map (fun _ => IV.bl true) = ((words q).map fun _ => true).map IV.bl := by rw [List.map_map]; rfl
    rw [e2] at lc
    refine blt_lc lc ((all_b (S := S ++ [.lst ((words q).map .str)]) (l := (words q).map fun _ => true)).trans ?_) rfl
    have : ((words q).map fun _ => true).all id = true := by simp
    rw [this]
  have w0 : ∃ r, (words q).map IV.str = .str (numS q.num) :: r := by
    unfold words; split <;> exact ⟨_, rfl⟩
  have w1 : ∃ a r, (words q).map IV.str ++ [.str "1"] = a :: .str (numS q.den) :: r := by
    unfold words
    split
    · rename_i hd
      refine ⟨.str (numS q.num), [], ?_⟩
      rw [hd]
      show [IV.str (numS q.num), IV.str "1"] = _
      rw [show ((1 : Nat) : Int) = 1 from rfl, one_num]
    · exact ⟨_, _, rfl⟩
  obtain ⟨r0, w0⟩ := w0
  obtain ⟨a1, r1, w1⟩ := w1
  have n0 : ∀ U : Sto, run pr (k + 3) "number_of" [.str (numS q.num)] U = .ok (.int q.num) U := fun U => num_of_run T.G T.num (pw39 hq.1)
  have n1 : ∀ U : Sto, run pr (k + 3) "number_of" [.str (numS q.den)] U = .ok (.int q.den) U := fun U => num_of_run T.G T.num (pw39 (by rw [Int.natAbs_natCast]; exact hq.2))
  generalize hS1 : S ++ [Cell.lst ((words q).map IV.str)] = S1 at *
  have g2 : (S1 ++ [Cell.lst [.str "1"]])[S1.length]? = some (.lst [.str "1"]) := app_at
  have ad := b_lst (S := S1 ++ [.lst [.str "1"]]) (get_appL g1) g2 (by simp [szOk]; omega)
  rw [w1] at ad
  have g3 : (S1 ++ [.lst [.str "1"]] ++ [Cell.lst (a1 :: .str (numS q.den) :: r1)])[(S1 ++ [Cell.lst [.str "1"]]).length]? = some (.lst (a1 :: .str (numS q.den) :: r1)) := app_at
  have x0 : evE (gam pr (k + 3)) (.ix (.loc 1) (.k (.int 0))) [some (.str (fracS q)), some (.ref S.length), none, none] S1 = .ok (.str (numS q.num)) S1 := by
    rw [w0] at g1
    rw [x_ix, loc_ok (v := .ref S.length) rfl, bind_ok, x_k, bind_ok, i_lst g1, Wg.at0, getO_some]
  have x1 : evE (gam pr (k + 3)) (.ix (.bin .add (.loc 1) (.lst [(.k (.str "1"))])) (.k (.int 1))) [some (.str (fracS q)), some (.ref S.length), none, none] S1 = .ok (.str (numS q.den)) (S1 ++ [.lst [.str "1"]] ++ [.lst (a1 :: .str (numS q.den) :: r1)]) := by
    rw [x_ix, x_bin, loc_ok (v := .ref S.length) rfl, bind_ok, x_lst, xs_cons, x_k, bind_ok, xs_nil, bind_ok, bind_ok, mkLi_1, bind_ok, ad, bind_ok, x_k, bind_ok, i_lst g3, Wg.at1, getO_some]
  generalize hS2 : S1 ++ [Cell.lst [.str "1"]] ++ [Cell.lst (a1 :: .str (numS q.den) :: r1)] = S2 at *
  have tp : evE (gam pr (k + 3)) (.tup [(.call "number_of" [(.ix (.loc 1) (.k (.int 0)))]), (.call "number_of" [(.ix (.bin .add (.loc 1) (.lst [(.k (.str "1"))])) (.k (.int 1)))])]) [some (.str (fracS q)), some (.ref S.length), none, none] S1 = .ok (fr q) S2 := by
    have c2 : evE (gam pr (k + 3)) (.call "number_of" [(.ix (.bin .add (.loc 1) (.lst [(.k (.str "1"))])) (.k (.int 1)))]) [some (.str (fracS q)), some (.ref S.length), none, none] S1 = .ok (.int q.den) S2 := by
      rw [x_call, xs_cons, x1, bind_ok, xs_nil, bind_ok, bind_ok]; exact n1 S2
    rw [x_tup, xs_cons, call_one x0 (n0 S1), bind_ok, xs_cons, c2, bind_ok, xs_nil, bind_ok, bind_ok, bind_ok, mkTu_2]
    rfl
  obtain ⟨d, hd⟩ := fr_data (S := S2) q
  have v := valid_run (pr := pr) (k := k + 1) (S := S2) (f := "is_valid_fraction") T.validF T.integer T.divisor hd
  rw [validF_fr] at v
  have wr := written_run3 (k := k) (S := S2) T hw hq
  have e : ∃ G, S2 = S ++ G := ⟨_, by rw [← hS2, ← hS1, List.append_assoc, List.append_assoc]⟩
  obtain ⟨G, e⟩ := e
  refine (done_of (v := fr q) (S1 := S2) ?_).trans (by rw [e, settle_append fr_lt])
  refine st_not (by rw [x_isi, loc_ok (v := .str (fracS q)) rfl, bind_ok]; rfl) ?_
  refine st_set sp ?_
  refine st_no ((or_no (cmp_ok (x := .int ((words q).map IV.str).length) (y := .int 2) (blt1 (loc_ok rfl) (l_lst g1)) x_k (by rw [c_gt, decide_eq_false (by simp; omega)]))).trans (not_ok al)) ?_
  refine st_set tp ?_
  refine st_no ((or_no (not_ok (call_one (loc_ok rfl) v))).trans (cmp_ok (x := .str (fracS q)) (y := .str (fracS q)) (call_one (loc_ok rfl) wr) (loc_ok rfl) (by rw [c_nes, decide_eq_true rfl]; rfl))) ?_
  exact st_ret (loc_ok rfl)
end
end Wo
/-! WpJ: any text read as a fraction. -/
namespace Wo
open PySem L2 Wg TL
/-! ### digits -/
theorem numL_bd : ∀ n : Nat, n < 10 ^ (numL n).length := by
  intro n
  induction n using Nat.strongRecOn with
  | _ n ih =>
    by_cases h : n < 10
    · rw [numL_lt h]; simpa using h
    · have := ih (n / 10) (by omega)
      rw [numL_step (by omega), List.length_append, List.length_singleton, Nat.pow_succ]
      omega
/-- digits without leading zeros -/
def Dg (d : List Nat) : Prop := d ≠ [] ∧ (∀ c ∈ d, 48 ≤ c ∧ c ≤ 57) ∧ (d = [48] ∨ d.head? ≠ some 48)
theorem dg_num : ∀ (k : Nat) (d : List Nat), d.length = k + 1 → Dg d → ∃ n, numL n = d
  | 0, d, hl, h => by
    match d, hl with
    | [c], _ =>
      have := h.2.1 c (by simp)
      exact ⟨c - 48, by rw [numL_lt (by omega), show 48 + (c - 48) = c by omega]⟩
  | k + 1, d, hl, h => by
    obtain ⟨i, x, rfl⟩ : ∃ i x, d = i ++ [x] := ⟨d.dropLast, d.getLast (by intro e; rw [e] at hl; simp at hl), (List.dropLast_concat_getLast _).symm⟩
    have hi : i.length = k + 1 := by rw [List.length_append, List.length_singleton] at hl; omega
    have hx := h.2.1 x (by simp)
    have ne : i ≠ [] := by intro e; rw [e] at hi; simp at hi
    have hh : i.head? ≠ some 48 := by
      rcases h.2.2 with e | e
      · have := congrArg List.length e
        rw [List.length_append, hi] at this
        simp at this
      · cases i with
        | nil => exact absurd rfl ne
        | cons c r => exact e
    obtain ⟨m, hm⟩ := dg_num k i hi ⟨ne, fun c hc => h.2.1 c (List.mem_append_left _ hc), .inr hh⟩
    have m0 : 0 < m := by
      rcases Nat.eq_zero_or_pos m with e | e
      · rw [e, numL_lt (by decide)] at hm
        rw [← hm] at hh
        exact absurd rfl hh
      · exact e
    refine ⟨10 * m + (x - 48), ?_⟩
    rw [numL_step (by omega), show (10 * m + (x - 48)) / 10 = m by omega, show 48 + (10 * m + (x - 48)) % 10 = x by omega, hm]
theorem dg_of (n : Nat) : Dg (numL n) := by
  refine ⟨numL_ne n, fun c hc => numL_digits n c hc, ?_⟩
  rcases Nat.eq_zero_or_pos n with e | e
  · left; rw [e, numL_lt (by decide)]
  · right
    obtain ⟨c, r, h1, h2⟩ := head49 e
    rw [h1]
    simp; omega
theorem dg_ex {d : List Nat} (h : Dg d) : ∃ n, numL n = d := dg_num (d.length - 1) d (by have := List.length_pos_iff.mpr h.1; omega) h
theorem nums_pos {w : Str} (h : Dg (tl w)) : ∃ n : Nat, w = numS n := by
  obtain ⟨n, hn⟩ := dg_ex h
  refine ⟨n, ext_tl ?_⟩
  unfold numS
  rw [if_neg (by omega), tl_numT, Int.natAbs_natCast, hn]
theorem nums_neg {w : Str} {r : List Nat} (h : tl w = 45 :: r) (hr : Dg r) (h0 : r ≠ [48]) : ∃ n : Nat, 0 < n ∧ numL n = r ∧ w = numS (-(n : Int)) := by
  obtain ⟨n, hn⟩ := dg_ex hr
  have n0 : 0 < n := by
    rcases Nat.eq_zero_or_pos n with e | e
    · rw [e, numL_lt (by decide)] at hn; exact absurd hn.symm h0
    · exact e
  refine ⟨n, n0, hn, ext_tl ?_⟩
  unfold numS
  rw [if_pos (by omega), tl_append, tl_dash, tl_numT, Int.natAbs_neg, Int.natAbs_natCast, hn, h]; rfl
theorem tl_numS (z : Int) : (z < 0 ∧ tl (numS z) = 45 :: numL z.natAbs) ∨ (0 ≤ z ∧ tl (numS z) = numL z.natAbs) := by
  unfold numS
  by_cases h : z < 0
  · left; rw [if_pos h, tl_append, tl_dash, tl_numT]; exact ⟨h, rfl⟩
  · right; rw [if_neg h, tl_numT]; exact ⟨by omega, rfl⟩
theorem numS_inj {a b : Int} (h : numS a = numS b) : a = b := by
  obtain ⟨a1, a2⟩ := numS_dash a
  obtain ⟨b1, b2⟩ := numS_dash b
  rw [h] at a1 a2
  have e1 := a1.symm.trans b1
  have e2 := a2.symm.trans b2
  have e3 := numL_inj (by rw [← tl_numT, ← tl_numT, e1] : numL a.natAbs = numL b.natAbs)
  by_cases hb : b < 0
  · rw [decide_eq_true hb, decide_eq_true_eq] at e2; omega
  · rw [decide_eq_false hb, decide_eq_false_iff_not] at e2; omega
theorem numS_bd {z : Int} (h : (numS z).length ≤ 300) : z.natAbs < 10 ^ 300 := by
  refine Nat.lt_of_lt_of_le (numL_bd z.natAbs) (Nat.pow_le_pow_right (by decide) ?_)
  rw [len_tl] at h
  rcases tl_numS z with ⟨_, e⟩ | ⟨_, e⟩
  · rw [e] at h; simp at h; omega
  · rw [e] at h; exact h
/-- the integer whose text a word is -/
noncomputable def rdZ (w : Str) : Option Int := by
  classical exact if h : ∃ z, w = numS z then some h.choose else none
theorem rdZ_num (z : Int) : rdZ (numS z) = some z := by
  unfold rdZ
  have h : ∃ y, numS z = numS y := ⟨z, rfl⟩
  rw [dif_pos h]
  exact congrArg some (numS_inj h.choose_spec).symm
theorem rdZ_none {w : Str} (h : ¬ ∃ z, w = numS z) : rdZ w = none := by
  unfold rdZ; rw [dif_neg h]
theorem rdZ_some {w : Str} {z : Int} (h : rdZ w = some z) : w = numS z := by
  unfold rdZ at h
  split at h
  · rename_i h1
    cases h
    exact h1.choose_spec
  · cases h
section
variable {pr : Prg} {k : Nat} {S : Sto} {f : Str} {τ : Sl}
theorem digs_any {Γ : Gam} {i j : Nat} {D : PX} (hij : i < j) (hD : ∀ τ : Sl, evE Γ D τ S = .ok (.str "0123456789") S) {d : Str} (hl : d.length ≤ 1000) (h1 : τ[i]? = some (some (.str d))) (ht : j < τ.length) : evE Γ (.blt .all [(.lc [j] (.nm j) (.val (.loc i)) [] (.cmp .isin (.loc j) D))]) τ S = .ok (.bl (decide (∀ c ∈ tl d, 48 ≤ c ∧ c ≤ 57))) S := by
  have hit : evI Γ (.val (.loc i)) τ S = .ok ⟨(tl d).map fun c => IV.str ⟨#[c]⟩, none⟩ S := by
    rw [xi_val, loc_ok h1, bind_ok, walkR_str]; rfl
  have lc := lc_map (S := S) (Γ := Γ) (τ := τ) (own := [j]) (tg := .nm j) (elt := .cmp .isin (.loc j) D) (fun c : Nat => IV.str ⟨#[c]⟩) (fun c => IV.bl (decide (48 ≤ c ∧ c ≤ 57))) (tl d) hit rfl (by rw [← len_tl]; exact hl) (fun c hc => by
    have t2 : ((wipeI τ [j]).set j (some (.str ⟨#[c]⟩)))[j]? = some (some (.str ⟨#[c]⟩)) := by
      rw [List.getElem?_set_self (by simp [wipeI]; omega)]
    have hm : decide (c ∈ tl (Str.ofString "0123456789")) = decide (48 ≤ c ∧ c ≤ 57) := by
      rw [tl_digits]
      by_cases h : 48 ≤ c ∧ c ≤ 57
      · rw [decide_eq_true h]
        have : c = 48 ∨ c = 49 ∨ c = 50 ∨ c = 51 ∨ c = 52 ∨ c = 53 ∨ c = 54 ∨ c = 55 ∨ c = 56 ∨ c = 57 := by omega
        rcases this with rfl | rfl | rfl | rfl | rfl | rfl | rfl | rfl | rfl | rfl <;> rfl
      · rw [decide_eq_false h]
        refine decide_eq_false fun hm => h ?_
        simp only [List.mem_cons, List.not_mem_nil, or_false] at hm
        omega
    have e := cmp_ok (o := .isin) (loc_ok (S := S) t2) (hD _) isin_sign
    rw [hm] at e
    simp only [lcOne, sT_nm, ts_nil, bind_ok, if_true, e])
  have e2 : (tl d).map (fun c => IV.bl (decide (48 ≤ c ∧ c ≤ 57))) = ((tl d).map fun c => decide (48 ≤ c ∧ c ≤ 57)).map IV.bl := by rw [List.map_map]; rfl
  rw [e2] at lc
  refine blt_lc lc ((all_b (S := S) (l := (tl d).map fun c => decide (48 ≤ c ∧ c ≤ 57))).trans ?_) rfl
  congr 2
  rw [Bool.eq_iff_iff, decide_eq_true_eq, List.all_eq_true]
  constructor
  · intro h c hc
    have := h _ (List.mem_map.mpr ⟨c, hc, rfl⟩)
    simpa using this
  · intro h b hb
    obtain ⟨c, hc, rfl⟩ := List.mem_map.mp hb
    simpa using h c hc
theorem str_empty {w : Str} (h : tl w = []) : w = Str.ofString "" := ext_tl h
theorem tl_ne {w : Str} (h : w ≠ Str.ofString "") : ∃ c r, tl w = c :: r := by
  cases e : tl w with
  | nil => exact absurd (str_empty e) h
  | cons c r => exact ⟨c, r, rfl⟩
theorem one_zero {c : Nat} : ((⟨#[c]⟩ : Str) = Str.ofString "0") ↔ c = 48 := by
  constructor
  · intro e
    have e' := congrArg tl e
    rw [tl_zero] at e'
    have : [c] = [48] := e'
    simpa using this
  · rintro rfl; exact ext_tl tl_zero.symm
theorem is_zero {d : Str} : d = Str.ofString "0" ↔ tl d = [48] := ⟨fun e => by rw [e, tl_zero], fun e => ext_tl (by rw [e, tl_zero])⟩
theorem rp_len {w : Str} : (Txt.removeprefix w (Str.ofString "-")).length ≤ w.length := by
  cases h : tl w with
  | nil => rw [str_empty h]; decide +kernel
  | cons c r =>
    by_cases hc : c = 45
    · subst hc
      rw [(dash_yes h).1, len_tl, len_tl w, h]
      show r.length ≤ _; simp
    · rw [(dash_no h hc).1]; omega
/-- is_number_text of any word -/
theorem isnum_any (G : TxG pr) (h : Has pr f d_is_number_text) {w : Str} (hl : w.length ≤ 300) : run pr (k + 1) f [.str w] S = .ok (.bl (rdZ w).isSome) S := by
  by_cases hz : ∃ z, w = numS z
  · obtain ⟨z, rfl⟩ := hz
    rw [rdZ_num]
    exact is_num_run G h (pw39 (numS_bd hl))
  · rw [rdZ_none hz, run_eq h rfl]
    have e1 := sm_rp (Γ := gam pr k) (S := S) (τ := [some (.str w), none, none]) (i := 0) (x := w) rfl (by omega)
    have dl := rp_len (w := w)
    have hcase : ∀ r, tl w = 45 :: r → tl (Txt.removeprefix w (Str.ofString "-")) = r := fun r e => by rw [(dash_yes e).1, tl_mk]
    have hcase2 : ∀ c r, tl w = c :: r → c ≠ 45 → Txt.removeprefix w (Str.ofString "-") = w := fun c r e hc => (dash_no e hc).1
    generalize hd : Txt.removeprefix w (Str.ofString "-") = d at *
    have dg := digs_any (i := 1) (j := 2) (Γ := gam pr k) (D := .glb "DIGITS") (S := S) (τ := [some (.str w), some (.str d), none]) (by decide) (fun τ => glb_dig G) (d := d) (by omega) rfl (by simp)
    refine (done_of (v := .bl false) (S1 := S) ?_).trans (by rw [settle_self]; rfl)
    refine st_set e1 ?_
    by_cases he : d = Str.ofString ""
    · exact st_yesR (or_yes (cmp_ok (x := .str d) (y := .str "") (loc_ok rfl) x_k (by rw [c_eqs, decide_eq_true he]))) (st_ret x_k)
    have q1 : evE (gam pr k) (.cmp .eq (.loc 1) (.k (.str ""))) [some (.str w), some (.str d), none] S = .ok (.bl false) S := cmp_ok (x := .str d) (y := .str "") (loc_ok rfl) x_k (by rw [c_eqs, decide_eq_false he])
    by_cases ha : ∀ c ∈ tl d, 48 ≤ c ∧ c ≤ 57
    · rw [decide_eq_true ha] at dg
      refine st_no ((or_no q1).trans (not_ok dg)) ?_
      obtain ⟨c, r, ec⟩ := tl_ne he
      refine st_ret ?_
      by_cases hm : w = Str.ofString "-0"
      · exact and_no (cmp_ok (x := .str w) (y := .str "-0") (loc_ok rfl) x_k (by rw [c_nes, decide_eq_true hm]; rfl))
      · refine (and_yes (cmp_ok (x := .str w) (y := .str "-0") (loc_ok rfl) x_k (by rw [c_nes, decide_eq_false hm]; rfl))).trans ?_
        have no0 : ¬ (d = Str.ofString "0" ∨ c ≠ 48) := fun hh => by
          have hD : Dg (tl d) := by
            refine ⟨by rw [ec]; simp, ha, ?_⟩
            rcases hh with hh | hh
            · left; exact is_zero.mp hh
            · right; rw [ec]; simpa using hh
          cases ew : tl w with
          | nil =>
            rw [str_empty ew] at hd
            exact he (by rw [← hd]; decide +kernel)
          | cons c' r' =>
            by_cases hc : c' = 45
            · subst hc
              have e2 := hcase r' ew
              rw [e2] at hD
              obtain ⟨n, _, _, hn⟩ := nums_neg ew hD (fun e => hm (ext_tl (by rw [ew, e, tl_mzero])))
              exact hz ⟨_, hn⟩
            · have e2 := hcase2 c' r' ew hc
              rw [e2] at hD
              obtain ⟨n, hn⟩ := nums_pos hD
              exact hz ⟨_, hn⟩
        rw [not_or] at no0
        refine (or_no (cmp_ok (x := .str d) (y := .str "0") (loc_ok rfl) x_k (by rw [c_eqs, decide_eq_false no0.1]))).trans ?_
        refine cmp_ok (x := .str ⟨#[c]⟩) (y := .str "0") (ix_str rfl ec (by omega)) x_k ?_
        rw [c_nes, decide_eq_true (one_zero.mpr (by simpa using no0.2))]; rfl
    · rw [decide_eq_false ha] at dg
      exact st_yesR ((or_no q1).trans (not_ok dg)) (st_ret x_k)
/-! ### words -/
def jn (s : Nat) : List (List Nat) → List Nat
  | [] => []
  | [w] => w
  | w :: v :: r => w ++ s :: jn s (v :: r)
theorem splt_ne (s : Nat) : ∀ (l acc : List Nat), TL.spl [s] 0 acc l ≠ []
  | [], acc => by rw [TL.spl_nil]; simp
  | c :: r, acc => by
    show (if pre [s] (c :: r) = true then acc :: TL.spl [s] 0 [] r else TL.spl [s] 0 (acc ++ [c]) r) ≠ []
    split
    · simp
    · exact splt_ne s r _
theorem splt_jn (s : Nat) : ∀ (l acc : List Nat), jn s (TL.spl [s] 0 acc l) = acc ++ l
  | [], acc => by rw [TL.spl_nil, List.append_nil]; rfl
  | c :: r, acc => by
    show jn s (if pre [s] (c :: r) = true then acc :: TL.spl [s] 0 [] r else TL.spl [s] 0 (acc ++ [c]) r) = _
    split
    · rename_i h
      have ec : c = s := by
        have : (c :: r).take 1 = [s] := eq_of_beq h
        simpa using this
      have ih := splt_jn s r []
      have ne := splt_ne s r []
      cases e : TL.spl [s] 0 [] r with
      | nil => exact absurd e ne
      | cons v t =>
        rw [e] at ih
        show acc ++ s :: jn s (v :: t) = _
        rw [ih, ec]; rfl
    · rw [splt_jn s r (acc ++ [c]), List.append_assoc]; rfl
theorem jn_len (s : Nat) : ∀ (ws : List (List Nat)), ∀ w ∈ ws, w.length ≤ (jn s ws).length ∧ ws.length ≤ (jn s ws).length + 1
  | [], w, h => by simp at h
  | [v], w, h => by simp at h; subst h; exact ⟨Nat.le_refl _, by simp⟩
  | v :: u :: r, w, h => by
    have ih := jn_len s (u :: r)
    have e : (jn s (v :: u :: r)).length = v.length + ((jn s (u :: r)).length + 1) := by
      show (v ++ s :: jn s (u :: r)).length = _
      rw [List.length_append, List.length_cons]
    have iu := ih u (by simp)
    simp only [List.length_cons] at iu ⊢
    rcases List.mem_cons.mp h with rfl | h
    · exact ⟨by omega, by omega⟩
    · have := ih w h
      exact ⟨by omega, by omega⟩
/-- what t.split("/") gives -/
theorem split_any (t : Str) : ∃ ps : List Str, Txt.split t (Str.ofString "/") = ps ∧ ps ≠ [] ∧ (∀ w ∈ ps, w.length ≤ t.length) ∧ ps.length ≤ t.length + 1 ∧ (∀ w, ps = [w] → w = t) ∧ (∀ w v, ps = [w, v] → t = w ++ Str.ofString "/" ++ v) := by
  have h := split_spl t (Str.ofString "/") (by rw [tl_slash]; simp) (kind_ok (by decide +kernel))
  rw [tl_slash] at h
  have j := splt_jn 47 (tl t) []
  have ne := splt_ne 47 (tl t) []
  rw [← h] at j ne
  rw [List.nil_append] at j
  generalize Txt.split t (Str.ofString "/") = ps at *
  have ne' : ps ≠ [] := fun e => ne (by rw [e]; rfl)
  refine ⟨ps, rfl, ne', fun w hw => ?_, ?_, fun w e => ?_, fun w v e => ?_⟩
  · have := (jn_len 47 (ps.map tl) (tl w) (List.mem_map.mpr ⟨w, hw, rfl⟩)).1
    rw [j] at this
    rw [len_tl, len_tl]; exact this
  · obtain ⟨w, hw⟩ := List.exists_mem_of_ne_nil _ ne'
    have := (jn_len 47 (ps.map tl) (tl w) (List.mem_map.mpr ⟨w, hw, rfl⟩)).2
    rw [j, List.length_map] at this
    rw [len_tl]; exact this
  · rw [e] at j
    exact ext_tl j
  · rw [e] at j
    refine ext_tl ?_
    rw [tl_append, tl_append, tl_slash, ← j]
    show tl w ++ 47 :: tl v = _
    rw [List.append_assoc]; rfl
/-! ### parse_fraction -/
theorem fr_mk {a b : Int} (h : validF (.tup [.int a, .int b]) = true) : ∃ q : Rat, fr q = .tup [.int a, .int b] ∧ q.num = a ∧ (q.den : Int) = b := by
  have h' : (decide (1 ≤ b) && decide (Int.gcd a b = 1)) = true := h
  rw [Bool.and_eq_true, decide_eq_true_eq, decide_eq_true_eq] at h'
  have hb : b = ((b.toNat : Nat) : Int) := by omega
  refine ⟨⟨a, b.toNat, by omega, by show Nat.gcd a.natAbs b.toNat = 1; rw [← h'.2, Int.gcd, show b.natAbs = b.toNat by omega]⟩, ?_, rfl, hb.symm⟩
  show IV.tup [.int a, .int ((b.toNat : Nat) : Int)] = _
  rw [← hb]
theorem fracS_bd {q : Rat} (h : (fracS q).length ≤ 300) : Sm3 q := by
  unfold fracS at h
  split at h
  · rename_i hd
    refine ⟨numS_bd h, ?_⟩
    rw [hd]; exact Nat.one_lt_pow (by decide) (by decide)
  · have l1 : (numS q.num ++ Str.ofString "/" ++ numS (q.den : Int)).length = (numS q.num).length + 1 + (numS (q.den : Int)).length := by
      rw [len_tl, tl_append, tl_append, List.length_append, List.length_append, tl_slash, ← len_tl, ← len_tl]; rfl
    rw [l1] at h
    have b := numS_bd (z := (q.den : Int)) (by omega)
    rw [Int.natAbs_natCast] at b
    exact ⟨numS_bd (by omega), b⟩
theorem st_notR {Γ : Gam} {sub : Str → Str → Bool} {c : PX} {A B ss : List Sm} {x : Str} {τ2 : Sl} {S1 S2 : Sto} (h : evE Γ c τ S = .ok (.bl true) S1) (z : evSs Γ sub A τ S1 = .exc x τ2 S2) : evSs Γ sub (.cond c A B :: ss) τ S = .exc x τ2 S2 := st_yes h (by rw [z, seq_exc])
theorem raise_one {Γ : Gam} {sub : Str → Str → Bool} {x : Str} {ss : List Sm} : evSs Γ sub (.raise x :: ss) τ S = .exc x τ S := by rw [s_cons, s_raise, seq_exc]
theorem exc_of {z : Rz} {x : Str} {τ2 : Sl} {S2 S : Sto} (h : z = .exc x τ2 S2) : z.done S = .exc x (Wg.settle S .non S2) := by rw [h, done_exc]
theorem parse_any (T : TxL3 pr) (h : Has pr f d_parse_fraction) (hw : Has pr "written" d_written) {t : Str} (hl : t.length ≤ 100) (hq : ¬ ∃ q : Rat, t = fracS q) : run pr (k + 4) f [.str t] S = .exc "InvalidTextError" S := by
  rw [run_eq h rfl]
  obtain ⟨ps, sp0, ne, pl, pn, p1, p2⟩ := split_any t
  have sp := sm_split (Γ := gam pr (k + 3)) (S := S) (τ := [some (.str t), none, none, none]) (x := t) (y := Str.ofString "/") (i := 0) rfl (by decide +kernel) (by omega)
  rw [sp0] at sp
  have g1 : (S ++ [Cell.lst (ps.map IV.str)])[S.length]? = some (.lst (ps.map .str)) := app_at
  have isn : ∀ w ∈ ps, ∀ U : Sto, run pr (k + 3) "is_number_text" [.str w] U = .ok (.bl (rdZ w).isSome) U := fun w hm U => isnum_any T.G T.isnum (by have := pl w hm; omega)
  have al : evE (gam pr (k + 3)) (.blt .all [(.lc [2] (.nm 2) (.val (.loc 1)) [] (.call "is_number_text" [(.loc 2)]))]) [some (.str t), some (.ref S.length), none, none] (S ++ [.lst (ps.map .str)]) = .ok (.bl ((ps.map fun w => (rdZ w).isSome).all id)) (S ++ [.lst (ps.map .str)]) := by
    have lc := lc_map (S := S ++ [.lst (ps.map .str)]) (Γ := gam pr (k + 3)) (τ := [some (.str t), some (.ref S.length), none, none]) (own := [2]) (tg := .nm 2) (elt := .call "is_number_text" [(.loc 2)]) IV.str (fun w => IV.bl (rdZ w).isSome) ps (it_lst (loc_ok (i := 1) (v := .ref S.length) rfl) g1) (holds_lst g1) (by omega) (fun w hm => by
      have e := call_one (A := .loc 2) (τ := [some (.str t), some (.ref S.length), some (.str w), none]) (loc_ok rfl) (isn w hm (S ++ [.lst (ps.map .str)]))
      have ts : setT (.nm 2) (.str w) (wipeI [some (.str t), some (.ref S.length), none, none] [2]) = some [some (.str t), some (.ref S.length), some (.str w), none] := rfl
      simp only [lcOne, ts, ts_nil, bind_ok, if_true, e])
    have e2 : ps.map (fun w => IV.bl (rdZ w).isSome) = (ps.map fun w => (rdZ w).isSome).map IV.bl := by rw [List.map_map]; rfl
    rw [e2] at lc
    exact blt_lc lc (all_b (S := S ++ [.lst (ps.map .str)]) (l := ps.map fun w => (rdZ w).isSome)) rfl
  have fin : ∀ {z : Rz} {τ2 : Sl} {G : Sto}, z = .exc "InvalidTextError" τ2 (S ++ G) → z.done S = .exc "InvalidTextError" S := fun {z τ2 G} e => by
    rw [exc_of e, settle_append rfl]
  by_cases h2 : 2 < ps.length
  · refine fin (τ2 := [some (.str t), some (.ref S.length), none, none]) (G := [.lst (ps.map .str)]) ?_
    refine st_not (by rw [x_isi, loc_ok (v := .str t) rfl, bind_ok]; rfl) ?_
    refine st_set sp ?_
    exact st_notR (or_yes (cmp_ok (x := .int (ps.map IV.str).length) (y := .int 2) (blt1 (loc_ok rfl) (l_lst g1)) x_k (by rw [c_gt, decide_eq_true (by simp; omega)]))) raise_one
  have big : evE (gam pr (k + 3)) (.cmp .gt (.blt .len [(.loc 1)]) (.k (.int 2))) [some (.str t), some (.ref S.length), none, none] (S ++ [.lst (ps.map .str)]) = .ok (.bl false) (S ++ [.lst (ps.map .str)]) := cmp_ok (x := .int (ps.map IV.str).length) (y := .int 2) (blt1 (loc_ok rfl) (l_lst g1)) x_k (by rw [c_gt, decide_eq_false (by simp; omega)])
  by_cases ha : ∀ w ∈ ps, ∃ z, w = numS z
  · obtain ⟨a, b, a1, r0, r1, w0, w1, ha3, hb3⟩ : ∃ (a b : Int) (a1 : IV) (r0 r1 : List IV), ps.map IV.str = .str (numS a) :: r0 ∧ ps.map IV.str ++ [.str "1"] = a1 :: .str (numS b) :: r1 ∧ a.natAbs < 10 ^ 300 ∧ b.natAbs < 10 ^ 300 := by
      match ps, ne, ha, pl, h2 with
      | [w], _, ha, pl, _ =>
        obtain ⟨a, e⟩ := ha w (by simp)
        have bd := numS_bd (z := a) (by rw [← e]; have := pl w (by simp); omega)
        refine ⟨a, 1, .str w, [], [], by rw [← e]; rfl, by rw [one_num]; rfl, bd, by show 1 < _; exact Nat.one_lt_pow (by decide) (by decide)⟩
      | [w, v], _, ha, pl, _ =>
        obtain ⟨a, e⟩ := ha w (by simp)
        obtain ⟨b, e2⟩ := ha v (by simp)
        have bd := numS_bd (z := a) (by rw [← e]; have := pl w (by simp); omega)
        have bd2 := numS_bd (z := b) (by rw [← e2]; have := pl v (by simp); omega)
        exact ⟨a, b, .str w, [.str v], [.str "1"], by rw [← e]; rfl, by rw [← e2]; rfl, bd, bd2⟩
      | _ :: _ :: _ :: _, _, _, _, h2 => exact absurd h2 (by simp)
    have all1 : (ps.map fun w => (rdZ w).isSome).all id = true := by
      rw [List.all_eq_true]
      intro b hb
      obtain ⟨w, hm, rfl⟩ := List.mem_map.mp hb
      obtain ⟨z, rfl⟩ := ha w hm
      rw [rdZ_num]; rfl
    rw [all1] at al
    have n0 : ∀ U : Sto, run pr (k + 3) "number_of" [.str (numS a)] U = .ok (.int a) U := fun U => num_of_run T.G T.num (pw39 ha3)
    have n1 : ∀ U : Sto, run pr (k + 3) "number_of" [.str (numS b)] U = .ok (.int b) U := fun U => num_of_run T.G T.num (pw39 hb3)
    have hlen : (ps.map IV.str).length ≤ 2 := by simp; omega
    generalize hS1 : S ++ [Cell.lst (ps.map IV.str)] = S1 at *
    have g2 : (S1 ++ [Cell.lst [.str "1"]])[S1.length]? = some (.lst [.str "1"]) := app_at
    have ad := b_lst (S := S1 ++ [.lst [.str "1"]]) (get_appL g1) g2 (by simp [szOk]; omega)
    rw [w1] at ad
    have g3 : (S1 ++ [.lst [.str "1"]] ++ [Cell.lst (a1 :: .str (numS b) :: r1)])[(S1 ++ [Cell.lst [.str "1"]]).length]? = some (.lst (a1 :: .str (numS b) :: r1)) := app_at
    have x0 : evE (gam pr (k + 3)) (.ix (.loc 1) (.k (.int 0))) [some (.str t), some (.ref S.length), none, none] S1 = .ok (.str (numS a)) S1 := by
      rw [w0] at g1
      rw [x_ix, loc_ok (v := .ref S.length) rfl, bind_ok, x_k, bind_ok, i_lst g1, Wg.at0, getO_some]
    have x1 : evE (gam pr (k + 3)) (.ix (.bin .add (.loc 1) (.lst [(.k (.str "1"))])) (.k (.int 1))) [some (.str t), some (.ref S.length), none, none] S1 = .ok (.str (numS b)) (S1 ++ [.lst [.str "1"]] ++ [.lst (a1 :: .str (numS b) :: r1)]) := by
      rw [x_ix, x_bin, loc_ok (v := .ref S.length) rfl, bind_ok, x_lst, xs_cons, x_k, bind_ok, xs_nil, bind_ok, bind_ok, mkLi_1, bind_ok, ad, bind_ok, x_k, bind_ok, i_lst g3, Wg.at1, getO_some]
    have e : ∃ G, S1 ++ [Cell.lst [.str "1"]] ++ [Cell.lst (a1 :: .str (numS b) :: r1)] = S ++ G := ⟨_, by rw [← hS1, List.append_assoc, List.append_assoc]⟩
    generalize hS2 : S1 ++ [Cell.lst [.str "1"]] ++ [Cell.lst (a1 :: .str (numS b) :: r1)] = S2 at *
    obtain ⟨G, e⟩ := e
    have tp : evE (gam pr (k + 3)) (.tup [(.call "number_of" [(.ix (.loc 1) (.k (.int 0)))]), (.call "number_of" [(.ix (.bin .add (.loc 1) (.lst [(.k (.str "1"))])) (.k (.int 1)))])]) [some (.str t), some (.ref S.length), none, none] S1 = .ok (.tup [.int a, .int b]) S2 := by
      have c2 : evE (gam pr (k + 3)) (.call "number_of" [(.ix (.bin .add (.loc 1) (.lst [(.k (.str "1"))])) (.k (.int 1)))]) [some (.str t), some (.ref S.length), none, none] S1 = .ok (.int b) S2 := by
        rw [x_call, xs_cons, x1, bind_ok, xs_nil, bind_ok, bind_ok]; exact n1 S2
      rw [x_tup, xs_cons, call_one x0 (n0 S1), bind_ok, xs_cons, c2, bind_ok, xs_nil, bind_ok, bind_ok, bind_ok, mkTu_2]
    have hd : toD S2 (.tup [.int a, .int b]) = some (.tuple [.int a, .int b]) := rfl
    have v := valid_run (pr := pr) (k := k + 1) (S := S2) (f := "is_valid_fraction") T.validF T.integer T.divisor hd
    refine fin (τ2 := [some (.str t), some (.ref S.length), none, some (.tup [.int a, .int b])]) (G := G) ?_
    rw [← e]
    refine st_not (by rw [x_isi, loc_ok (v := .str t) rfl, bind_ok]; rfl) ?_
    refine st_set sp ?_
    refine st_no ((or_no big).trans (not_ok al)) ?_
    refine st_set tp ?_
    by_cases hv : validF (.tup [.int a, .int b]) = true
    · obtain ⟨q, eq, q1, q2⟩ := fr_mk hv
      rw [hv] at v
      have sm : Sm3 q := ⟨by rw [q1]; exact ha3, by have : ((q.den : Int)).natAbs < 10 ^ 300 := by rw [q2]; exact hb3
                                                    rwa [Int.natAbs_natCast] at this⟩
      have wr := written_run3 (k := k) (S := S2) T hw sm
      rw [eq] at wr
      exact st_notR ((or_no (not_ok (call_one (loc_ok rfl) v))).trans (cmp_ok (x := .str (fracS q)) (y := .str t) (call_one (loc_ok rfl) wr) (loc_ok rfl) (by rw [c_nes, decide_eq_false (fun e => hq ⟨q, e.symm⟩)]; rfl))) raise_one
    · rw [Bool.not_eq_true] at hv
      rw [hv] at v
      exact st_notR (or_yes (not_ok (call_one (loc_ok rfl) v))) raise_one
  · have : (ps.map fun w => (rdZ w).isSome).all id = false := by
      rw [List.all_eq_false]
      have ⟨w, hm, hw⟩ : ∃ w ∈ ps, ¬ ∃ z, w = numS z := by
        apply Classical.byContradiction
        intro hn
        exact ha fun w hm => Classical.byContradiction fun hh => hn ⟨w, hm, hh⟩
      exact ⟨_, List.mem_map.mpr ⟨w, hm, rfl⟩, by rw [rdZ_none hw]; simp⟩
    rw [this] at al
    refine fin (τ2 := [some (.str t), some (.ref S.length), none, none]) (G := [.lst (ps.map .str)]) ?_
    refine st_not (by rw [x_isi, loc_ok (v := .str t) rfl, bind_ok]; rfl) ?_
    refine st_set sp ?_
    exact st_notR ((or_no big).trans (not_ok al)) raise_one
end
end Wo
namespace Lw
open PySem L2 Wg Wo TL
section
variable {k : Nat} {S S1 S2 T U V : Sto} {τ : Sl} {w v t d : Str} {q : Rat}
theorem G : TxG pr := ⟨rfl, rfl⟩
theorem T3 : TxL3 pr := ⟨G, lk_is_valid_fraction, lk_is_integer, lk_greatest_divisor, lk_figures, lk_number_of, lk_is_number_text⟩
/-! ### slices -/
theorem tl_to (w : Str) (i : Nat) : tl (Txt.slice w none (some (i : Int))) = (tl w).take i := by
  rw [← C8.cutS_slice]
  show (w.cps.toList.drop (HT.sIx w.length 0 none)).take (HT.sIx w.length w.length (some (i : Int)) - HT.sIx w.length 0 none) = _
  rw [HT.sIx_none, HT.sIx_nat, List.drop_zero, Nat.sub_zero]
  have e : w.length = (tl w).length := len_tl w
  rw [e]
  show (tl w).take (min i (tl w).length) = _
  rcases Nat.le_total i (tl w).length with h | h
  · rw [Nat.min_eq_left h]
  · rw [Nat.min_eq_right h, List.take_length, List.take_of_length_le h]
theorem tl_from (w : Str) (i : Nat) : tl (Txt.slice w (some (i : Int)) none) = (tl w).drop i := by
  rw [← C8.cutS_slice]
  show (w.cps.toList.drop (HT.sIx w.length 0 (some (i : Int)))).take (HT.sIx w.length w.length none - HT.sIx w.length 0 (some (i : Int))) = _
  rw [HT.sIx_none, HT.sIx_nat]
  have e : w.length = (tl w).length := len_tl w
  rw [e]
  show ((tl w).drop (min i (tl w).length)).take _ = _
  rcases Nat.le_total i (tl w).length with h | h
  · rw [Nat.min_eq_left h]; exact List.take_of_length_le (by rw [List.length_drop]; exact Nat.le_refl _)
  · rw [Nat.min_eq_right h, List.drop_length, List.drop_eq_nil_of_le h, List.take_nil]
theorem app_len (x y : Str) : (x ++ y).length = x.length + y.length := by
  rw [len_tl, tl_append, List.length_append, ← len_tl, ← len_tl]
theorem to_len (w : Str) (i : Nat) : (Txt.slice w none (some (i : Int))).length ≤ w.length := by rw [len_tl, tl_to, len_tl w]; exact List.length_take_le' _ _
theorem from_len (w : Str) (i : Nat) : (Txt.slice w (some (i : Int)) none).length ≤ w.length := by rw [len_tl, tl_from, len_tl w, List.length_drop]; omega
theorem cat_s {Γ : Gam} {A B : PX} {x y : Str} (h1 : evE Γ A τ S = .ok (.str x) S1) (h2 : evE Γ B τ S1 = .ok (.str y) S2) (hl : x.length + y.length ≤ 10000) : evE Γ (.bin .add A B) τ S = .ok (.str (x ++ y)) S2 := by
  rw [x_bin, h1, bind_ok, h2, bind_ok]
  exact b_addS (by simp only [szOk, decide_eq_true_eq]; omega)
theorem sl_to {Γ : Gam} {i : Nat} {n : Nat} {N : PX} (hi : τ[i]? = some (some (.str w))) (hn : evE Γ N τ S = .ok (.int (n : Nat)) S) (hl : w.length ≤ 1000) : evE Γ (.sl (.loc i) none (some N)) τ S = .ok (.str (Txt.slice w none (some (n : Int)))) S := by
  rw [x_sl, loc_ok hi, bind_ok, xo_none, bind_ok, xo_some, hn, bind_ok, intR_int, bind_ok]
  exact if_pos (by omega)
theorem sl_fr {Γ : Gam} {i : Nat} {n : Nat} {N : PX} (hi : τ[i]? = some (some (.str w))) (hn : evE Γ N τ S = .ok (.int (n : Nat)) S) (hl : w.length ≤ 1000) : evE Γ (.sl (.loc i) (some N) none) τ S = .ok (.str (Txt.slice w (some (n : Int)) none)) S := by
  rw [x_sl, loc_ok hi, bind_ok, xo_some, hn, bind_ok, intR_int, bind_ok, xo_none, bind_ok]
  exact if_pos (by omega)
/-! ### _law_number -/
def lnR : List Sm := [
    .cond (.or (.cmp .eq (.loc 2) (.k (.str ""))) (.not (.blt .all [(.lc [3] (.nm 3) (.val (.loc 2)) [] (.cmp .isin (.loc 3) (.k (.str "0123456789"))))]))) [
      .ret (.k .non)] [],
    .cond (.and (.cmp .gt (.blt .len [(.loc 2)]) (.k (.int 1))) (.cmp .eq (.ix (.loc 2) (.k (.int 0))) (.k (.str "0")))) [
      .ret (.k .non)] [],
    .cond (.and (.cmp .eq (.loc 2) (.k (.str "0"))) (.or (.cmp .ne (.loc 2) (.loc 0)) (.cmp .gt (.loc 1) (.k (.int 0))))) [
      .ret (.k .non)] [],
    .ret (.blt .int [(.loc 0)])]
def okD (w d : Str) (m : Int) : Prop := Dg (tl d) ∧ ¬ (d = Str.ofString "0" ∧ (d ≠ w ∨ 0 < m))
theorem ln_rest {Γ : Gam} {sub : Str → Str → Bool} {m : Int} (hw : w.length ≤ 300) (hd : d.length ≤ 300) :
    (okD w d m ∧ ∀ z, PySem.intText? w = some z → evSs Γ sub lnR [some (.str w), some (.int m), some (.str d), none] S = .ret (.int z) S) ∨ (¬ okD w d m ∧ evSs Γ sub lnR [some (.str w), some (.int m), some (.str d), none] S = .ret .non S) := by
  by_cases he : d = Str.ofString ""
  · right
    refine ⟨fun h => h.1.1 (by rw [he]; decide +kernel), ?_⟩
    exact st_yesR (or_yes (cmp_ok (x := .str d) (y := .str "") (loc_ok rfl) x_k (by rw [c_eqs, decide_eq_true he]))) (st_ret x_k)
  have q1 : evE Γ (.cmp .eq (.loc 2) (.k (.str ""))) [some (.str w), some (.int m), some (.str d), none] S = .ok (.bl false) S := cmp_ok (x := .str d) (y := .str "") (loc_ok rfl) x_k (by rw [c_eqs, decide_eq_false he])
  have dg := digs_any (i := 2) (j := 3) (Γ := Γ) (D := .k (.str "0123456789")) (S := S) (τ := [some (.str w), some (.int m), some (.str d), none]) (by decide) (fun τ => x_k) (d := d) (by omega) rfl (by simp)
  by_cases ha : ∀ c ∈ tl d, 48 ≤ c ∧ c ≤ 57
  · rw [decide_eq_true ha] at dg
    have s1 := (or_no q1).trans (not_ok dg)
    obtain ⟨c, r, ec⟩ := tl_ne he
    have ln : evE Γ (.blt .len [(.loc 2)]) [some (.str w), some (.int m), some (.str d), none] S = .ok (.int d.length) S := blt1 (loc_ok rfl) (l_str (by omega))
    have g1 : evE Γ (.cmp .gt (.blt .len [(.loc 2)]) (.k (.int 1))) [some (.str w), some (.int m), some (.str d), none] S = .ok (.bl (decide ((1 : Int) < d.length))) S := cmp_ok ln x_k c_gt
    have g2 : evE Γ (.cmp .eq (.ix (.loc 2) (.k (.int 0))) (.k (.str "0"))) [some (.str w), some (.int m), some (.str d), none] S = .ok (.bl (decide ((⟨#[c]⟩ : Str) = Str.ofString "0"))) S := cmp_ok (x := .str ⟨#[c]⟩) (y := .str "0") (ix_str rfl ec (by omega)) x_k c_eqs
    by_cases hz : 1 < d.length ∧ c = 48
    · right
      refine ⟨fun h => ?_, ?_⟩
      · rcases h.1.2.2 with e | e
        · have := hz.1
          rw [len_tl, e] at this
          exact absurd this (by decide)
        · rw [ec] at e; exact e (by rw [hz.2]; rfl)
      · refine st_no s1 ?_
        rw [decide_eq_true (by omega)] at g1
        rw [decide_eq_true (one_zero.mpr hz.2)] at g2
        exact st_yesR ((and_yes g1).trans g2) (st_ret x_k)
    have s2 : evE Γ (.and (.cmp .gt (.blt .len [(.loc 2)]) (.k (.int 1))) (.cmp .eq (.ix (.loc 2) (.k (.int 0))) (.k (.str "0")))) [some (.str w), some (.int m), some (.str d), none] S = .ok (.bl false) S := by
      by_cases h1 : 1 < d.length
      · rw [decide_eq_true (by omega)] at g1
        rw [decide_eq_false (fun e => hz ⟨h1, one_zero.mp e⟩)] at g2
        exact (and_yes g1).trans g2
      · rw [decide_eq_false (by omega)] at g1
        exact and_no g1
    have hD : Dg (tl d) := by
      refine ⟨by rw [ec]; simp, ha, ?_⟩
      by_cases h1 : 1 < d.length
      · right
        rw [ec]
        have : c ≠ 48 := fun e => hz ⟨h1, e⟩
        simpa using this
      · rw [len_tl, ec] at h1
        have hr : r = [] := by cases r with
          | nil => rfl
          | cons a b => simp at h1
        by_cases h0 : c = 48
        · left; rw [ec, hr, h0]
        · right; rw [ec]; simpa using h0
    have z1 : evE Γ (.cmp .eq (.loc 2) (.k (.str "0"))) [some (.str w), some (.int m), some (.str d), none] S = .ok (.bl (decide (d = Str.ofString "0"))) S := cmp_ok (x := .str d) (y := .str "0") (loc_ok rfl) x_k c_eqs
    have z2 : evE Γ (.cmp .ne (.loc 2) (.loc 0)) [some (.str w), some (.int m), some (.str d), none] S = .ok (.bl (!decide (d = w))) S := cmp_ok (x := .str d) (y := .str w) (loc_ok rfl) (loc_ok rfl) c_nes
    have z3 : evE Γ (.cmp .gt (.loc 1) (.k (.int 0))) [some (.str w), some (.int m), some (.str d), none] S = .ok (.bl (decide (0 < m))) S := cmp_ok (x := .int m) (y := .int 0) (loc_ok rfl) x_k c_gt
    by_cases h0 : d = Str.ofString "0"
    · rw [decide_eq_true h0] at z1
      by_cases h1 : d = w
      · rw [decide_eq_true h1] at z2
        by_cases h2 : 0 < m
        · right
          rw [decide_eq_true h2] at z3
          exact ⟨fun h => h.2 ⟨h0, .inr h2⟩, st_no s1 (st_no s2 (st_yesR ((and_yes z1).trans ((or_no z2).trans z3)) (st_ret x_k)))⟩
        · left
          rw [decide_eq_false h2] at z3
          refine ⟨⟨hD, fun h => h.2.elim (fun e => e h1) h2⟩, fun z hz => ?_⟩
          exact st_no s1 (st_no s2 (st_no ((and_yes z1).trans ((or_no z2).trans z3)) (st_ret (blt1 (loc_ok rfl) (i_str hz (by omega))))))
      · right
        rw [decide_eq_false h1] at z2
        exact ⟨fun h => h.2 ⟨h0, .inl h1⟩, st_no s1 (st_no s2 (st_yesR ((and_yes z1).trans (or_yes z2)) (st_ret x_k)))⟩
    · left
      rw [decide_eq_false h0] at z1
      refine ⟨⟨hD, fun h => h0 h.1⟩, fun z hz => ?_⟩
      exact st_no s1 (st_no s2 (st_no (and_no z1) (st_ret (blt1 (loc_ok rfl) (i_str hz (by omega))))))
  · right
    rw [decide_eq_false ha] at dg
    exact ⟨fun h => ha h.1.2.1, st_yesR ((or_no q1).trans (not_ok dg)) (st_ret x_k)⟩
theorem int_pos {n : Nat} (hl : w.length ≤ 300) (h : w = numS (n : Nat)) : PySem.intText? w = some ((n : Nat) : Int) := by
  have e : numS ((n : Nat) : Int) = numT n := by unfold numS; rw [if_neg (by omega), Int.natAbs_natCast]
  rw [h, e]
  rw [h, e, len_tl, tl_numT] at hl
  exact int_num (by omega)
theorem int_neg {n : Nat} (hl : w.length ≤ 300) (h : tl w = 45 :: numL n) : PySem.intText? w = some (-(n : Int)) := by
  have e := PySem.intText_neg (x := w) (cs := numL n) h (numL_digits n) (numL_ne n) (by omega)
  rw [numL_val] at e
  exact e
def zI : Option Int → IV
  | some z => .int z
  | none => .non
theorem okD_of {m : Int} (h : okD w w m) : ∃ n : Nat, w = numS (n : Nat) ∧ (0 < m → 0 < n) := by
  obtain ⟨n, hn⟩ := nums_pos h.1
  refine ⟨n, hn, fun hm => ?_⟩
  rcases Nat.eq_zero_or_pos n with e | e
  · refine absurd ⟨?_, .inr hm⟩ h.2
    rw [hn, e]
    refine ext_tl ?_
    rw [tl_zero]
    unfold numS
    rw [if_neg (by decide), tl_numT]
    exact numL_lt (by decide)
  · exact e
theorem ok_num {n : Nat} {m : Int} (h : w = numS (n : Nat)) (h0 : 0 < m → 0 < n) : okD w w m := by
  have e : tl w = numL n := by rw [h]; unfold numS; rw [if_neg (by omega), tl_numT, Int.natAbs_natCast]
  refine ⟨by rw [e]; exact dg_of n, fun hh => ?_⟩
  rcases hh.2 with x | x
  · exact x rfl
  · have := is_zero.mp hh.1
    rw [e] at this
    have n0 := h0 x
    have : n = 0 := numL_inj (by rw [this, numL_lt (by decide)])
    omega
theorem lnum_m1 (hl : w.length ≤ 300) : run pr (k + 1) "_law_number" [.str w, .int (-1)] S = .ok (zI (rdZ w)) S := by
  rw [run_eq (pr := pr) (k := k) lk_l_number rfl]
  have main : evSs (gam pr k) pr.sub d_l_number.body [some (.str w), some (.int (-1)), none, none] S = .ret (zI (rdZ w)) S := by
    show evSs (gam pr k) pr.sub (.set (.nm 2) (.loc 0) :: .cond (.and (.cmp .lt (.loc 1) (.k (.int 0))) (.cmp .eq (.sl (.loc 0) none (some (.k (.int 1)))) (.k (.str "-")))) [.set (.nm 2) (.sl (.loc 0) (some (.k (.int 1))) none)] [] :: lnR) _ _ = _
    refine st_set (loc_ok (v := .str w) rfl) ?_
    have c1 : evE (gam pr k) (.cmp .lt (.loc 1) (.k (.int 0))) [some (.str w), some (.int (-1)), some (.str w), none] S = .ok (.bl true) S := cmp_ok (x := .int (-1)) (y := .int 0) (loc_ok rfl) x_k c_lt
    have c2 : evE (gam pr k) (.cmp .eq (.sl (.loc 0) none (some (.k (.int 1)))) (.k (.str "-"))) [some (.str w), some (.int (-1)), some (.str w), none] S = .ok (.bl (decide (Txt.slice w none (some ((1 : Nat) : Int)) = Str.ofString "-"))) S := cmp_ok (x := .str (Txt.slice w none (some ((1 : Nat) : Int)))) (y := .str "-") (sl_to (n := 1) rfl x_k (by omega)) x_k c_eqs
    have hs : Txt.slice w none (some ((1 : Nat) : Int)) = Str.ofString "-" ↔ (tl w).take 1 = [45] := ⟨fun e => by rw [← tl_to, e, tl_dash], fun e => ext_tl (by rw [tl_to, e, tl_dash])⟩
    by_cases hc : (tl w).take 1 = [45]
    · rw [decide_eq_true (hs.mpr hc)] at c2
      have ew : tl w = 45 :: (tl w).drop 1 := by
        cases e : tl w with
        | nil => rw [e] at hc; cases hc
        | cons a b =>
          rw [e] at hc
          have : a = 45 := by simpa using hc
          rw [this]; rfl
      have ed := tl_from w 1
      have fl := from_len w 1
      refine st_yesN ((and_yes c1).trans c2) (st_set (sl_fr (n := 1) (w := w) rfl x_k (by omega)) s_nil) ?_
      generalize Txt.slice w (some ((1 : Nat) : Int)) none = d at *
      rw [← ed] at ew
      have dw : d ≠ w := fun e => by
        have := congrArg List.length ew
        rw [e] at this; simp at this
      rcases ln_rest (S := S) (w := w) (d := d) (m := -1) (Γ := gam pr k) (sub := pr.sub) hl (by omega) with ⟨h1, h2⟩ | ⟨h1, h2⟩
      · obtain ⟨n, n0, nr, hn⟩ := nums_neg ew h1.1 (fun e => h1.2 ⟨is_zero.mpr e, .inl dw⟩)
        have r := h2 _ (int_neg hl (by rw [ew, nr]))
        rw [hn, rdZ_num, ← hn]
        exact r
      · have : rdZ w = none := rdZ_none fun ⟨z, hz⟩ => h1 (by
          rw [hz] at ew
          rcases tl_numS z with ⟨zn, e⟩ | ⟨zn, e⟩
          · rw [e] at ew
            have er : numL z.natAbs = tl d := by simpa using ew
            refine ⟨by rw [← er]; exact dg_of _, fun hh => ?_⟩
            have := is_zero.mp hh.1
            rw [← er] at this
            have : z.natAbs = 0 := numL_inj (by rw [this, numL_lt (by decide)])
            omega
          · rw [e] at ew
            have := numL_digits z.natAbs 45 (by rw [ew]; simp)
            omega)
        rw [this]; exact h2
    · rw [decide_eq_false (fun e => hc (hs.mp e))] at c2
      refine st_no ((and_yes c1).trans c2) ?_
      rcases ln_rest (S := S) (w := w) (d := w) (m := -1) (Γ := gam pr k) (sub := pr.sub) hl hl with ⟨h1, h2⟩ | ⟨h1, h2⟩
      · obtain ⟨n, hn, _⟩ := okD_of h1
        have r := h2 _ (int_pos hl hn)
        rw [hn, rdZ_num, ← hn]
        exact r
      · have : rdZ w = none := rdZ_none fun ⟨z, hz⟩ => h1 (by
          rcases tl_numS z with ⟨zn, e⟩ | ⟨zn, e⟩
          · rw [hz, e] at hc; exact absurd rfl hc
          · exact ok_num (n := z.natAbs) (by rw [hz, show ((z.natAbs : Nat) : Int) = z by omega]) (by omega))
        rw [this]; exact h2
  exact (done_of (v := zI (rdZ w)) (S1 := S) main).trans (by rw [settle_self])
theorem lnum_2 (hl : w.length ≤ 300) : run pr (k + 1) "_law_number" [.str w, .int 2] S = .ok (match rdZ w with | some z => if 0 < z then .int z else .non | none => .non) S := by
  rw [run_eq (pr := pr) (k := k) lk_l_number rfl]
  have main : evSs (gam pr k) pr.sub d_l_number.body [some (.str w), some (.int 2), none, none] S = .ret (match rdZ w with | some z => if 0 < z then .int z else .non | none => .non) S := by
    show evSs (gam pr k) pr.sub (.set (.nm 2) (.loc 0) :: .cond (.and (.cmp .lt (.loc 1) (.k (.int 0))) (.cmp .eq (.sl (.loc 0) none (some (.k (.int 1)))) (.k (.str "-")))) [.set (.nm 2) (.sl (.loc 0) (some (.k (.int 1))) none)] [] :: lnR) _ _ = _
    refine st_set (loc_ok (v := .str w) rfl) ?_
    have c1 : evE (gam pr k) (.cmp .lt (.loc 1) (.k (.int 0))) [some (.str w), some (.int 2), some (.str w), none] S = .ok (.bl false) S := cmp_ok (x := .int 2) (y := .int 0) (loc_ok rfl) x_k c_lt
    refine st_no (and_no c1) ?_
    rcases ln_rest (S := S) (w := w) (d := w) (m := 2) (Γ := gam pr k) (sub := pr.sub) hl hl with ⟨h1, h2⟩ | ⟨h1, h2⟩
    · obtain ⟨n, hn, n0⟩ := okD_of h1
      have r := h2 _ (int_pos hl hn)
      have n1 := n0 (by decide)
      have e : rdZ w = some ((n : Nat) : Int) := by rw [hn, rdZ_num]
      rw [e]
      refine r.trans ?_
      simp only [if_pos (show (0 : Int) < (n : Nat) by omega)]
    · refine h2.trans ?_
      cases e : rdZ w with
      | none => rfl
      | some z =>
        have hz := rdZ_some e
        by_cases zp : 0 < z
        · exact absurd (ok_num (m := 2) (n := z.natAbs) (by rw [hz, show ((z.natAbs : Nat) : Int) = z by omega]) (by omega)) h1
        · simp only [if_neg zp]
  exact (done_of (S1 := S) main).trans (by rw [settle_self])
/-! ### _law_value -/
theorem not_q (h : rdZ w = none) {q : Rat} {ps : List Str} (hp : words q = ps) (hw : w ∈ ps) : False := by
  subst hp
  unfold words at hw
  split at hw
  · rw [List.mem_singleton.mp hw, rdZ_num] at h; cases h
  · rcases List.mem_cons.mp hw with e | hw
    · rw [e, rdZ_num] at h; cases h
    · rw [List.mem_singleton.mp hw, rdZ_num] at h; cases h
theorem isz {o : Option Int} : cmpI .is (zI o) .non S = .ok (.bl o.isNone) S := by cases o <;> rfl
theorem lval (hl : t.length ≤ 100) : (∃ q : Rat, t = fracS q ∧ run pr (k + 3) "_law_value" [.str t] S = .ok (fr q) S) ∨ ((¬ ∃ q : Rat, t = fracS q) ∧ run pr (k + 3) "_law_value" [.str t] S = .ok .non S) := by
  rw [run_eq (pr := pr) (k := k + 2) lk_l_value rfl]
  obtain ⟨ps, sp0, ne, pl, pn, p1, p2⟩ := split_any t
  have sp := sm_split (Γ := gam pr (k + 2)) (S := S) (τ := [some (.str t), none, none, none]) (x := t) (y := Str.ofString "/") (i := 0) rfl (by decide +kernel) (by omega)
  rw [sp0] at sp
  have hq : ∀ q : Rat, t = fracS q → words q = ps := fun q e => by rw [← split_frac, ← e, sp0]
  have g1 : (S ++ [Cell.lst (ps.map IV.str)])[S.length]? = some (.lst (ps.map .str)) := app_at
  have fin : ∀ {v : IV} {z : Rz}, v.lt S.length = true → z = .ret v (S ++ [.lst (ps.map .str)]) → z.done S = .ok v S := fun {v z} h e => (done_of e).trans (by rw [settle_append h])
  obtain ⟨w, r, hw⟩ : ∃ w r, ps = w :: r := by
    cases ps with
    | nil => exact absurd rfl ne
    | cons w r => exact ⟨w, r, rfl⟩
  have wl := pl w (by rw [hw]; simp)
  have a2 : evE (gam pr (k + 2)) (.call "_law_number" [(.ix (.loc 1) (.k (.int 0))), (.neg (.k (.int 1)))]) [some (.str t), some (.ref S.length), none, none] (S ++ [.lst (ps.map .str)]) = .ok (zI (rdZ w)) (S ++ [.lst (ps.map .str)]) := by
    refine call_two (x := .str w) (y := .int (-1)) ?_ (by rw [x_neg, x_k, bind_ok]; rfl) (lnum_m1 (by omega))
    have : ps.map IV.str = .str w :: r.map .str := by rw [hw]; rfl
    rw [this] at g1 ⊢
    rw [x_ix, loc_ok (v := .ref S.length) rfl, bind_ok, x_k, bind_ok, i_lst g1, Wg.at0, getO_some]
  have ln : ∀ o : IV, evE (gam pr (k + 2)) (.blt .len [(.loc 1)]) [some (.str t), some (.ref S.length), some o, none] (S ++ [.lst (ps.map .str)]) = .ok (.int (ps.length : Nat)) (S ++ [.lst (ps.map .str)]) := fun o => by
    refine (blt1 (loc_ok rfl) (l_lst g1)).trans ?_
    rw [List.length_map]
  have big : ∀ o : IV, evE (gam pr (k + 2)) (.cmp .gt (.blt .len [(.loc 1)]) (.k (.int 2))) [some (.str t), some (.ref S.length), some o, none] (S ++ [.lst (ps.map .str)]) = .ok (.bl (decide ((2 : Int) < ps.length))) (S ++ [.lst (ps.map .str)]) := fun o => cmp_ok (ln o) x_k c_gt
  by_cases h2 : 2 < ps.length
  · right
    refine ⟨fun ⟨q, e⟩ => ?_, fin rfl ?_⟩
    · have := hq q e
      rw [← this] at h2
      unfold words at h2
      split at h2 <;> simp at h2
    · refine st_set sp (st_set a2 ?_)
      have b := big (zI (rdZ w))
      rw [decide_eq_true (by omega)] at b
      exact st_yesR (or_yes b) (st_ret x_k)
  have b := big (zI (rdZ w))
  rw [decide_eq_false (by omega)] at b
  have isn : evE (gam pr (k + 2)) (.cmp .is (.loc 2) (.k .non)) [some (.str t), some (.ref S.length), some (zI (rdZ w)), none] (S ++ [.lst (ps.map .str)]) = .ok (.bl (rdZ w).isNone) (S ++ [.lst (ps.map .str)]) := cmp_ok (loc_ok rfl) x_k isz
  cases ea : rdZ w with
  | none =>
    right
    refine ⟨fun ⟨q, e⟩ => not_q ea (hq q e) (by rw [hw]; simp), fin rfl ?_⟩
    refine st_set sp (st_set a2 ?_)
    rw [ea] at b isn ⊢
    exact st_yesR ((or_no b).trans isn) (st_ret x_k)
  | some a =>
    have hwa := rdZ_some ea
    rw [ea] at a2 b isn
    have ln := ln (.int a)
    have le1 : evE (gam pr (k + 2)) (.cmp .eq (.blt .len [(.loc 1)]) (.k (.int 1))) [some (.str t), some (.ref S.length), some (.int a), none] (S ++ [.lst (ps.map .str)]) = .ok (.bl (decide ((ps.length : Int) = 1))) (S ++ [.lst (ps.map .str)]) := cmp_ok ln x_k c_eq
    cases r with
    | nil =>
      left
      have et := p1 w hw
      refine ⟨(a : Rat), ?_, fin (fr_lt) ?_⟩
      · rw [← et, hwa]
        unfold fracS
        rw [if_pos (Rat.den_intCast a), Rat.num_intCast]
      · refine st_set sp (st_set a2 (st_no ((or_no b).trans isn) ?_))
        rw [decide_eq_true (by rw [hw]; rfl)] at le1
        refine st_yesR le1 (st_ret ?_)
        rw [x_tup, xs_cons, loc_ok (v := .int a) rfl, bind_ok, xs_cons, x_k, bind_ok, xs_nil, bind_ok, bind_ok, bind_ok, mkTu_2]
        show Rs.ok (IV.tup [.int a, .int 1]) _ = Rs.ok (IV.tup [.int (a : Rat).num, .int ((a : Rat).den : Nat)]) _
        rw [Rat.den_intCast, Rat.num_intCast]; rfl
    | cons v r' =>
      have hr' : r' = [] := by
        cases r' with
        | nil => rfl
        | cons x y => rw [hw] at h2; simp at h2
      subst hr'
      have vl := pl v (by rw [hw]; simp)
      have et := p2 w v hw
      rw [decide_eq_false (by rw [hw]; simp)] at le1
      have a3 : evE (gam pr (k + 2)) (.call "_law_number" [(.ix (.loc 1) (.k (.int 1))), (.k (.int 2))]) [some (.str t), some (.ref S.length), some (.int a), none] (S ++ [.lst (ps.map .str)]) = .ok (match rdZ v with | some z => if 0 < z then .int z else .non | none => .non) (S ++ [.lst (ps.map .str)]) := by
        refine call_two (x := .str v) (y := .int 2) ?_ x_k (lnum_2 (by omega))
        have : ps.map IV.str = [.str w, .str v] := by rw [hw]; rfl
        rw [this] at g1 ⊢
        rw [x_ix, loc_ok (v := .ref S.length) rfl, bind_ok, x_k, bind_ok, i_lst g1, Wg.at1, getO_some]
      have noV : (match rdZ v with | some z => if 0 < z then IV.int z else .non | none => .non) = .non → (¬ ∃ q : Rat, t = fracS q) ∧ (evSs (gam pr (k + 2)) pr.sub d_l_value.body [some (.str t), none, none, none] S).done S = .ok .non S := fun e3 => by
        rw [e3] at a3
        refine ⟨fun ⟨q, e⟩ => ?_, fin rfl ?_⟩
        · have hp := hq q e
          rw [hw] at hp
          unfold words at hp
          split at hp
          · simp at hp
          · injection hp with _ hp
            injection hp with hp _
            rw [← hp, rdZ_num] at e3
            have := q.den_pos
            simp only [if_pos (show (0 : Int) < (q.den : Nat) by omega)] at e3
            cases e3
        · refine st_set sp (st_set a2 (st_no ((or_no b).trans isn) (st_no le1 (st_set a3 ?_))))
          exact st_yesR (or_yes (cmp_ok (x := .non) (y := .non) (loc_ok rfl) x_k rfl)) (st_ret x_k)
      cases eb : rdZ v with
      | none => right; exact noV (by rw [eb])
      | some c =>
        have hvc := rdZ_some eb
        by_cases c0 : 0 < c
        · have e3 : (match rdZ v with | some z => if 0 < z then IV.int z else .non | none => .non) = .int c := by rw [eb]; simp only [if_pos c0]
          rw [e3] at a3
          have is3 : evE (gam pr (k + 2)) (.cmp .is (.loc 3) (.k .non)) [some (.str t), some (.ref S.length), some (.int a), some (.int c)] (S ++ [.lst (ps.map .str)]) = .ok (.bl false) (S ++ [.lst (ps.map .str)]) := cmp_ok (x := .int c) (y := .non) (loc_ok rfl) x_k rfl
          have lt3 : evE (gam pr (k + 2)) (.cmp .lt (.loc 3) (.k (.int 2))) [some (.str t), some (.ref S.length), some (.int a), some (.int c)] (S ++ [.lst (ps.map .str)]) = .ok (.bl (decide (c < 2))) (S ++ [.lst (ps.map .str)]) := cmp_ok (x := .int c) (y := .int 2) (loc_ok rfl) x_k c_lt
          have qab : ∀ q : Rat, t = fracS q → q.num = a ∧ (q.den : Int) = c ∧ q.den ≠ 1 := fun q e => by
            have hp := hq q e
            rw [hw] at hp
            unfold words at hp
            split at hp
            · simp at hp
            · rename_i hd
              injection hp with h1 hp
              injection hp with h3 _
              rw [hwa] at h1
              rw [hvc] at h3
              exact ⟨numS_inj h1, numS_inj h3, hd⟩
          by_cases c2 : c < 2
          · right
            rw [decide_eq_true c2] at lt3
            refine ⟨fun ⟨q, e⟩ => ?_, fin rfl ?_⟩
            · obtain ⟨_, h3, h4⟩ := qab q e
              exact h4 (by omega)
            · refine st_set sp (st_set a2 (st_no ((or_no b).trans isn) (st_no le1 (st_set a3 ?_))))
              exact st_yesR ((or_no is3).trans (or_yes lt3)) (st_ret x_k)
          · rw [decide_eq_false c2] at lt3
            have cb := numS_bd (z := c) (by rw [← hvc]; omega)
            have fq := frac_run (pr := pr) (k := k + 1) (S := S ++ [.lst (ps.map .str)]) (f := "_law_fraction") lk_l_fraction (a := a) (b := c) c0 (Nat.lt_of_lt_of_le cb (Nat.le_trans pw900 (Nat.pow_le_pow_right (by decide) (by decide))))
            have fe : evE (gam pr (k + 2)) (.call "_law_fraction" [(.loc 2), (.loc 3)]) [some (.str t), some (.ref S.length), some (.int a), some (.int c)] (S ++ [.lst (ps.map .str)]) = .ok (fr (Rat.divInt a c)) (S ++ [.lst (ps.map .str)]) := call_two (loc_ok rfl) (loc_ok rfl) fq
            have tp : evE (gam pr (k + 2)) (.tup [(.loc 2), (.loc 3)]) [some (.str t), some (.ref S.length), some (.int a), some (.int c)] (S ++ [.lst (ps.map .str)]) = .ok (.tup [.int a, .int c]) (S ++ [.lst (ps.map .str)]) := by
              rw [x_tup, xs_cons, loc_ok (v := .int a) rfl, bind_ok, xs_cons, loc_ok (v := .int c) rfl, bind_ok, xs_nil, bind_ok, bind_ok, bind_ok, mkTu_2]
            have ce : evE (gam pr (k + 2)) (.cmp .ne (.call "_law_fraction" [(.loc 2), (.loc 3)]) (.tup [(.loc 2), (.loc 3)])) [some (.str t), some (.ref S.length), some (.int a), some (.int c)] (S ++ [.lst (ps.map .str)]) = .ok (.bl (!decide ((Rat.divInt a c).num = a ∧ ((Rat.divInt a c).den : Int) = c))) (S ++ [.lst (ps.map .str)]) := cmp_ok fe tp ((ne_intsA (a := [(Rat.divInt a c).num, ((Rat.divInt a c).den : Nat)]) (b := [a, c])).trans (by congr 4; simp))
            by_cases he : (Rat.divInt a c).num = a ∧ ((Rat.divInt a c).den : Int) = c
            · left
              rw [decide_eq_true he] at ce
              refine ⟨Rat.divInt a c, ?_, fin fr_lt ?_⟩
              · unfold fracS
                rw [if_neg (by omega), he.1, he.2, et, hwa, hvc]
              · refine st_set sp (st_set a2 (st_no ((or_no b).trans isn) (st_no le1 (st_set a3 (st_no ((or_no is3).trans ((or_no lt3).trans ce)) (st_ret (tp.trans ?_)))))))
                show _ = Rs.ok (IV.tup [.int (Rat.divInt a c).num, .int ((Rat.divInt a c).den : Nat)]) _
                rw [he.1, he.2]
            · right
              rw [decide_eq_false he] at ce
              refine ⟨fun ⟨q, e⟩ => he ?_, fin rfl ?_⟩
              · obtain ⟨h3, h4, _⟩ := qab q e
                have : Rat.divInt a c = q := by rw [← h3, ← h4]; exact Rat.num_divInt_den q
                rw [this]; exact ⟨h3, h4⟩
              · refine st_set sp (st_set a2 (st_no ((or_no b).trans isn) (st_no le1 (st_set a3 ?_))))
                exact st_yesR ((or_no is3).trans ((or_no lt3).trans ce)) (st_ret x_k)
        · right; exact noV (by rw [eb]; simp only [if_neg c0])
/-! ### _law_text, _law_changed -/
theorem str_int {z : Int} (h : z.natAbs < 2 ^ 1000) : bltI .str [.int z] S = .ok (.str (numS z)) S := by
  have lg : z.natAbs.log2 < 1920 := by
    by_cases h0 : z.natAbs = 0
    · rw [h0]; decide
    · exact (Nat.log2_lt h0).mpr (Nat.lt_of_lt_of_le h (Nat.pow_le_pow_right (by decide) (by decide)))
  have e : numS z = Str.ofString (toString z) := by
    refine ext_tl ?_
    rcases tl_numS z with ⟨h1, e⟩ | ⟨h1, e⟩
    · rw [e, tl_ofString]
      obtain ⟨n, rfl⟩ : ∃ n : Nat, z = Int.negSucc n := ⟨(-z - 1).toNat, by omega⟩
      have : toString (Int.negSucc n) = "-" ++ toString (n + 1) := rfl
      rw [this, String.toList_append, List.map_append]
      have e2 := tl_numT (n + 1)
      unfold numT at e2
      rw [tl_ofString] at e2
      have e3 : toString (((n + 1 : Nat) : Int)) = toString (n + 1) := rfl
      rw [e3] at e2
      rw [e2]; rfl
    · rw [e, ← tl_numT]
      unfold numT
      rw [show ((z.natAbs : Nat) : Int) = z by omega]
  rw [e]
  exact if_pos lg
def Sml (q : Rat) : Prop := q.num.natAbs < 100 ∧ q.den < 100
theorem Sml.b3 (h : Sml q) : Sm3 q := ⟨Nat.lt_of_lt_of_le h.1 (Nat.le_trans (by decide : 100 ≤ 10 ^ 2) (Nat.pow_le_pow_right (by decide) (by decide))), Nat.lt_of_lt_of_le h.2 (Nat.le_trans (by decide : 100 ≤ 10 ^ 2) (Nat.pow_le_pow_right (by decide) (by decide)))⟩
theorem nl (z : Int) (h : z.natAbs < 1000) : (numS z).length ≤ 4 := numS_len (d := 3) (by decide) h
theorem lt1000 {n : Nat} (h : n < 1000) : n < 2 ^ 1000 := Nat.lt_of_lt_of_le h (Nat.le_trans (by decide : 1000 ≤ 2 ^ 10) (Nat.pow_le_pow_right (by decide) (by decide)))
theorem str_x {Γ : Gam} {A : PX} {z : Int} (h : z.natAbs < 1000) (hA : evE Γ A τ S = .ok (.int z) S) : evE Γ (.blt .str [A]) τ S = .ok (.str (numS z)) S := blt1 hA (str_int (lt1000 h))
theorem slash_len : (Str.ofString "/").length = 1 := by decide +kernel
theorem fracS_sml (h : Sml q) : (fracS q).length ≤ 9 := by
  have a := nl q.num (by have := h.1; omega)
  have b := nl (q.den : Int) (by have := h.2; omega)
  unfold fracS
  split
  · omega
  · rw [app_len, app_len, slash_len]; omega
theorem ltext (h : Sml q) : run pr (k + 1) "_law_text" [fr q] S = .ok (.str (fracS q)) S := by
  rw [run_eq (pr := pr) (k := k) lk_l_text rfl]
  have a := nl q.num (by have := h.1; omega)
  have b := nl (q.den : Int) (by have := h.2; omega)
  have s0 : evE (gam pr k) (.blt .str [(.ix (.loc 0) (.k (.int 0)))]) [some (fr q)] S = .ok (.str (numS q.num)) S := str_x (by have := h.1; omega) (ix0 rfl)
  have s1 : evE (gam pr k) (.blt .str [(.ix (.loc 0) (.k (.int 1)))]) [some (fr q)] S = .ok (.str (numS (q.den : Int))) S := str_x (by have := h.2; omega) (ix1 rfl)
  have ce : evE (gam pr k) (.cmp .eq (.ix (.loc 0) (.k (.int 1))) (.k (.int 1))) [some (fr q)] S = .ok (.bl (decide ((q.den : Int) = 1))) S := cmp_ok (x := .int q.den) (y := .int 1) (ix1 rfl) x_k c_eq
  refine (done_of (v := .str (fracS q)) (S1 := S) ?_).trans (by rw [settle_self])
  unfold fracS
  by_cases hd : q.den = 1
  · rw [decide_eq_true (by omega)] at ce
    rw [if_pos hd]
    exact st_yesR ce (st_ret s0)
  · rw [decide_eq_false (by omega)] at ce
    rw [if_neg hd]
    have c1 := cat_s s0 (x_k (Γ := gam pr k) (v := .str "/")) (by rw [slash_len]; omega)
    exact st_no ce (st_ret (cat_s c1 s1 (by rw [app_len, slash_len]; omega)))
theorem s_rpl {Γ : Gam} {sub : Str → Str → Bool} {p q : PX} {k : Int} {x y z : Str} : evS Γ sub (.rpl p k q x y z) τ S = (evE Γ p τ S).thn τ fun v S1 => match v with
    | .int n => if n = k then (evE Γ q τ S1).thn τ fun w S2 => rplN x y z w S2 else .next τ S1
    | _ => .bad := (rfl)
theorem ix_ch {Γ : Gam} {A N : PX} {x : Str} {j : Nat} (hA : evE Γ A τ S = .ok (.str x) S) (hN : evE Γ N τ S = .ok (.int (j : Nat)) S) (hj : j < x.length) (hl : x.length ≤ 1000) : ∃ c : Nat, evE Γ (.ix A N) τ S = .ok (.str ⟨#[c]⟩) S := by
  rw [x_ix, hA, bind_ok, hN, bind_ok]
  have hc : (tl x)[j]? = some (tl x)[j] := List.getElem?_eq_getElem (by rw [← len_tl]; exact hj)
  refine ⟨(tl x)[j], ?_⟩
  show (if x.length ≤ 16777216 then (match atI (tl x) ((j : Nat) : Int) with | some c => Rs.ok (IV.str ⟨#[c]⟩) S | none => .bad) else .bad) = _
  rw [if_pos (by omega), atI_nat hc]
theorem fm {c : Int} (m : Int) (h : 0 < m) : ∃ j : Nat, c.fmod m = (j : Int) ∧ j < m.toNat := by
  have f0 := Int.fmod_nonneg_of_pos c h
  have f1 := Int.fmod_lt_of_pos c h
  exact ⟨(c.fmod m).toNat, by omega, by omega⟩
theorem mkLi_3 {a b c : IV} : mkLi [a, b, c] S = .ok (.ref S.length) (S ++ [.lst [a, b, c]]) := mkLi_eq (by simp [szOk])
theorem lchanged {f c : Int} (h : Sml q) (f0 : 0 ≤ f) (f9 : f < 9) : ∃ t : Str, t.length ≤ 100 ∧ run pr (k + 2) "_law_changed" [fr q, .int f, .int c] S = .ok (.str t) S := by
  rw [run_eq (pr := pr) (k := k + 1) lk_l_changed rfl]
  have t9 := fracS_sml h
  have a := nl q.num (by have := h.1; omega)
  have b := nl (q.den : Int) (by have := h.2; omega)
  have e3 : evE (gam pr (k + 1)) (.call "_law_text" [(.loc 0)]) [some (fr q), some (.int f), some (.int c), none, none] S = .ok (.str (fracS q)) S := call_one (loc_ok rfl) (ltext h)
  generalize hx : fracS q = x at *
  have fin : ∀ {z : Rz} {t : Str} {G : Sto}, z = .ret (.str t) (S ++ G) → z.done S = .ok (.str t) S := fun {z t G} e => (done_of e).trans (by rw [settle_append rfl])
  have fin0 : ∀ {z : Rz} {t : Str}, z = .ret (.str t) S → z.done S = .ok (.str t) S := fun {z t} e => (done_of e).trans (by rw [settle_self])
  have ej : ∀ (j : Int), evE (gam pr (k + 1)) (.cmp .eq (.loc 1) (.k (.int j))) [some (fr q), some (.int f), some (.int c), some (.str x), none] S = .ok (.bl (decide (f = j))) S := fun j => cmp_ok (x := .int f) (y := .int j) (loc_ok rfl) x_k c_eq
  have no : ∀ (j : Int), f ≠ j → evE (gam pr (k + 1)) (.cmp .eq (.loc 1) (.k (.int j))) [some (fr q), some (.int f), some (.int c), some (.str x), none] S = .ok (.bl false) S := fun j hj => by rw [ej, decide_eq_false hj]
  have yes : ∀ (j : Int), f = j → evE (gam pr (k + 1)) (.cmp .eq (.loc 1) (.k (.int j))) [some (fr q), some (.int f), some (.int c), some (.str x), none] S = .ok (.bl true) S := fun j hj => by rw [ej, decide_eq_true hj]
  have lx : evE (gam pr (k + 1)) (.loc 3) [some (fr q), some (.int f), some (.int c), some (.str x), none] S = .ok (.str x) S := loc_ok rfl
  have lk : ∀ (z : Str), evE (gam pr (k + 1)) (.k (.str z)) [some (fr q), some (.int f), some (.int c), some (.str x), none] S = .ok (.str z) S := fun z => x_k
  have s0 : evE (gam pr (k + 1)) (.blt .str [(.ix (.loc 0) (.k (.int 0)))]) [some (fr q), some (.int f), some (.int c), some (.str x), none] S = .ok (.str (numS q.num)) S := str_x (by have := h.1; omega) (ix0 rfl)
  have s1 : evE (gam pr (k + 1)) (.blt .str [(.ix (.loc 0) (.k (.int 1)))]) [some (fr q), some (.int f), some (.int c), some (.str x), none] S = .ok (.str (numS (q.den : Int))) S := str_x (by have := h.2; omega) (ix1 rfl)
  have l1 : (Str.ofString "0").length = 1 := by decide +kernel
  have l2 : (Str.ofString "+").length = 1 := by decide +kernel
  have l3 : (Str.ofString " ").length = 1 := by decide +kernel
  have l4 : (Str.ofString "\n").length = 1 := by decide +kernel
  have l5 : (Str.ofString "/1").length = 2 := by decide +kernel
  have l6 : (Str.ofString "/-").length = 2 := by decide +kernel
  have l7 : (Str.ofString "0123 -+/.:a_").length = 12 := by decide +kernel
  have l8 : (Str.ofString "//").length = 2 := by decide +kernel
  have sl := slash_len
  by_cases h0 : f = 0
  · exact ⟨_, by rw [app_len]; omega, fin0 (st_set e3 (st_yesR (yes 0 h0) (st_ret (cat_s (lk "0") lx (by omega)))))⟩
  by_cases h1 : f = 1
  · exact ⟨_, by rw [app_len]; omega, fin0 (st_set e3 (st_no (no 0 h0) (st_yesR (yes 1 h1) (st_ret (cat_s (lk "+") lx (by omega))))))⟩
  by_cases h2 : f = 2
  · obtain ⟨j, hj, j3⟩ := fm (c := c) 3 (by decide)
    replace j3 : j < 3 := j3
    have md : ∀ U : Sto, evE (gam pr (k + 1)) (.bin .mod (.loc 2) (.k (.int 3))) [some (fr q), some (.int f), some (.int c), some (.str x), none] U = .ok (.int (j : Nat)) U := fun U => bin_ok (loc_ok rfl) x_k (b_modE (by decide) hj)
    have ls : evE (gam pr (k + 1)) (.lst [(.bin .add (.k (.str " ")) (.loc 3)), (.bin .add (.loc 3) (.k (.str " "))), (.bin .add (.loc 3) (.k (.str "\n")))]) [some (fr q), some (.int f), some (.int c), some (.str x), none] S = .ok (.ref S.length) (S ++ [.lst [.str (Str.ofString " " ++ x), .str (x ++ Str.ofString " "), .str (x ++ Str.ofString "\n")]]) := by
      rw [x_lst, xs_cons, cat_s (lk " ") lx (by omega), bind_ok, xs_cons, cat_s lx (lk " ") (by omega), bind_ok, xs_cons, cat_s lx (lk "\n") (by omega), bind_ok, xs_nil, bind_ok, bind_ok, bind_ok, bind_ok, mkLi_3]
    have g : (S ++ [Cell.lst [.str (Str.ofString " " ++ x), .str (x ++ Str.ofString " "), .str (x ++ Str.ofString "\n")]])[S.length]? = some (.lst [.str (Str.ofString " " ++ x), .str (x ++ Str.ofString " "), .str (x ++ Str.ofString "\n")]) := app_at
    obtain ⟨y, hy, yl⟩ : ∃ y : Str, [IV.str (Str.ofString " " ++ x), .str (x ++ Str.ofString " "), .str (x ++ Str.ofString "\n")][j]? = some (.str y) ∧ y.length ≤ 100 := by
      match j, j3 with
      | 0, _ => exact ⟨_, rfl, by rw [app_len]; omega⟩
      | 1, _ => exact ⟨_, rfl, by rw [app_len]; omega⟩
      | 2, _ => exact ⟨_, rfl, by rw [app_len]; omega⟩
    have ex : evE (gam pr (k + 1)) (.ix (.lst [(.bin .add (.k (.str " ")) (.loc 3)), (.bin .add (.loc 3) (.k (.str " "))), (.bin .add (.loc 3) (.k (.str "\n")))]) (.bin .mod (.loc 2) (.k (.int 3)))) [some (fr q), some (.int f), some (.int c), some (.str x), none] S = .ok (.str y) (S ++ [.lst [.str (Str.ofString " " ++ x), .str (x ++ Str.ofString " "), .str (x ++ Str.ofString "\n")]]) := by
      rw [x_ix, ls, bind_ok, md, bind_ok, i_lst g, atI_nat hy, getO_some]
    exact ⟨y, yl, fin (st_set e3 (st_no (no 0 h0) (st_no (no 1 h1) (st_yesR (yes 2 h2) (st_ret ex)))))⟩
  by_cases h3 : f = 3
  · have n2 : evE (gam pr (k + 1)) (.bin .mul (.k (.int 2)) (.ix (.loc 0) (.k (.int 0)))) [some (fr q), some (.int f), some (.int c), some (.str x), none] S = .ok (.int (2 * q.num)) S := bin_ok (x := .int 2) (y := .int q.num) x_k (ix0 rfl) (b_mul (by have := h.1; exact mulOk_r (by omega)))
    have d2 : evE (gam pr (k + 1)) (.bin .mul (.k (.int 2)) (.ix (.loc 0) (.k (.int 1)))) [some (fr q), some (.int f), some (.int c), some (.str x), none] S = .ok (.int (2 * (q.den : Int))) S := bin_ok (x := .int 2) (y := .int q.den) x_k (ix1 rfl) (b_mul (by have := h.2; exact mulOk_r (by omega)))
    have hq := h.1
    have hd := h.2
    have a2 := nl (2 * q.num) (by omega)
    have b2 := nl (2 * (q.den : Int)) (by omega)
    have c1 := cat_s (str_x (by omega) n2) (lk "/") (by omega)
    exact ⟨_, by rw [app_len, app_len]; omega, fin0 (st_set e3 (st_no (no 0 h0) (st_no (no 1 h1) (st_no (no 2 h2) (st_yesR (yes 3 h3) (st_ret (cat_s c1 (str_x (by omega) d2) (by rw [app_len]; omega))))))))⟩
  by_cases h4 : f = 4
  · exact ⟨_, by rw [app_len]; omega, fin0 (st_set e3 (st_no (no 0 h0) (st_no (no 1 h1) (st_no (no 2 h2) (st_no (no 3 h3) (st_yesR (yes 4 h4) (st_ret (cat_s lx (lk "/1") (by omega)))))))))⟩
  by_cases h5 : f = 5
  · have rb := rpl_len x (Str.ofString "/") (Str.ofString "//")
    refine ⟨Txt.replace x (Str.ofString "/") (Str.ofString "//") ++ Str.ofString "/", by rw [app_len]; rw [l8] at rb; omega, fin0 (st_set e3 (st_no (no 0 h0) (st_no (no 1 h1) (st_no (no 2 h2) (st_no (no 3 h3) (st_no (no 4 h4) ?_))))))⟩
    rw [s_cons, s_rpl, loc_ok (v := .int f) rfl, thn_ok]
    simp only [h5, if_true]
    rw [loc_ok (v := .str x) rfl, thn_ok]
    unfold rplN
    dsimp only
    rw [if_pos ⟨by rw [l8]; omega, by omega⟩, seq_ret]
  have rp : ∀ {ss : List Sm} {r : Rz}, evSs (gam pr (k + 1)) pr.sub ss [some (fr q), some (.int f), some (.int c), some (.str x), none] S = r → evSs (gam pr (k + 1)) pr.sub (.rpl (.loc 1) (5) (.loc 3) "/" "//" "/" :: ss) [some (fr q), some (.int f), some (.int c), some (.str x), none] S = r := fun {ss r} e => by
    rw [s_cons, s_rpl, loc_ok (v := .int f) rfl, thn_ok]
    simp only [h5, if_false]
    rw [seq_next, rest_eq, e]
  by_cases h6 : f = 6
  · exact ⟨_, by rw [app_len]; omega, fin0 (st_set e3 (st_no (no 0 h0) (st_no (no 1 h1) (st_no (no 2 h2) (st_no (no 3 h3) (st_no (no 4 h4) (rp (st_yesR (yes 6 h6) (st_ret (cat_s s0 (lk "/") (by omega)))))))))))⟩
  by_cases h7 : f = 7
  · have c1 := cat_s s0 (lk "/-") (by omega)
    exact ⟨_, by rw [app_len, app_len]; omega, fin0 (st_set e3 (st_no (no 0 h0) (st_no (no 1 h1) (st_no (no 2 h2) (st_no (no 3 h3) (st_no (no 4 h4) (rp (st_no (no 6 h6) (st_yesR (yes 7 h7) (st_ret (cat_s c1 s1 (by rw [app_len]; omega))))))))))))⟩
  have ln : evE (gam pr (k + 1)) (.blt .len [(.loc 3)]) [some (fr q), some (.int f), some (.int c), some (.str x), none] S = .ok (.int x.length) S := blt1 lx (l_str (by omega))
  obtain ⟨j, hj, jl⟩ := fm (c := c.fdiv 12) ((x.length + 1 : Nat) : Int) (by omega)
  have e4 : evE (gam pr (k + 1)) (.bin .mod (.bin .fdiv (.loc 2) (.k (.int 12))) (.bin .add (.blt .len [(.loc 3)]) (.k (.int 1)))) [some (fr q), some (.int f), some (.int c), some (.str x), none] S = .ok (.int (j : Nat)) S := by
    refine bin_ok (x := .int (c.fdiv 12)) (y := .int ((x.length + 1 : Nat) : Int)) (bin_ok (x := .int c) (y := .int 12) (loc_ok rfl) x_k (b_fdiv (by decide))) (bin_ok ln x_k ?_) (b_modE (by omega) hj)
    rw [b_add]; rfl
  obtain ⟨j2, hj2, j12⟩ := fm (c := c) 12 (by decide)
  replace j12 : j2 < 12 := j12
  obtain ⟨ch, ech⟩ := ix_ch (Γ := gam pr (k + 1)) (τ := [some (fr q), some (.int f), some (.int c), some (.str x), some (.int (j : Nat))]) (S := S) (A := .k (.str "0123 -+/.:a_")) (N := .bin .mod (.loc 2) (.k (.int 12))) (x := Str.ofString "0123 -+/.:a_") (j := j2) x_k (bin_ok (loc_ok rfl) x_k (b_modE (by decide) hj2)) (by rw [l7]; exact j12) (by rw [l7]; decide)
  have u1 := sl_to (Γ := gam pr (k + 1)) (τ := [some (fr q), some (.int f), some (.int c), some (.str x), some (.int (j : Nat))]) (S := S) (w := x) (i := 3) (n := j) (N := .loc 4) rfl (loc_ok rfl) (by omega)
  have u2 := sl_fr (Γ := gam pr (k + 1)) (τ := [some (fr q), some (.int f), some (.int c), some (.str x), some (.int (j : Nat))]) (S := S) (w := x) (i := 3) (n := j) (N := .loc 4) rfl (loc_ok rfl) (by omega)
  have u3 := to_len x j
  have u4 := from_len x j
  have cl : (⟨#[ch]⟩ : Str).length = 1 := rfl
  have c1 := cat_s u1 ech (by omega)
  exact ⟨_, by rw [app_len, app_len]; omega, fin0 (st_set e3 (st_no (no 0 h0) (st_no (no 1 h1) (st_no (no 2 h2) (st_no (no 3 h3) (st_no (no 4 h4) (rp (st_no (no 6 h6) (st_no (no 7 h7) (st_set e4 (st_ret (cat_s c1 u2 (by rw [app_len]; omega)))))))))))))⟩
/-! ### the last steps -/
theorem parse_bad {v : IV} (h : isiI v .str S = .ok (.bl false) S) : run pr (k + 1) "parse_fraction" [v] S = .exc "InvalidTextError" S := by
  rw [run_eq (pr := pr) (k := k) lk_parse_fraction rfl]
  have e : evE (gam pr k) (.isi (.loc 0) .str) [some v, none, none, none] S = .ok (.bl false) S := by rw [x_isi, loc_ok (v := v) rfl, bind_ok]; exact h
  exact (exc_of (st_notR (not_ok e) raise_one)).trans (by rw [settle_self])
theorem st_tryas {Γ : Gam} {sub : Str → Str → Bool} {τ τ1 : Sl} {b u ss : List Sm} {i : Nat} {d x : Str} {hs : List (Str × List Sm)} {v : IV} {S1 S2 : Sto} (hb : evSs Γ sub b τ S = .exc x τ1 S1) (hd : sub x d = true) (hl : (evHs Γ sub hs).lookup x = some (evSs Γ sub u)) (hu : evSs Γ sub u (τ1.set i none) S1 = .ret v S2) : evSs Γ sub (.tryas b i d hs :: ss) τ S = .ret v S2 := by
  rw [s_cons, s_tryas, hb]
  simp only [catA, catchA, hd, if_true, hl, hu, quietA, seq_ret]
theorem st_tryasN {Γ : Gam} {sub : Str → Str → Bool} {τ τ1 : Sl} {b ss : List Sm} {i : Nat} {d : Str} {hs : List (Str × List Sm)} {S1 : Sto} {r : Rz} (hb : evSs Γ sub b τ S = .next τ1 S1) (z : evSs Γ sub ss τ1 S1 = r) : evSs Γ sub (.tryas b i d hs :: ss) τ S = r := by
  rw [s_cons, s_tryas, hb]
  show (Rz.next τ1 S1).seq _ = r
  rw [seq_next, rest_eq, z]
def tl4 : List Sm := [
    .set (.nm 3) (.k .non),
    .cond (.isi (.loc 2) .str) [
      .set (.nm 3) (.call "_law_value" [(.loc 2)])] [],
    .tryas [
      .set (.nm 4) (.call "parse_fraction" [(.loc 2)])] 5 "InvalidTextError" [("InvalidTextError", [
      .ret (.and (.cmp .is (.loc 3) (.k .non)) (.not (.k (.bl false))))])],
    .ret (.and (.cmp .isnot (.loc 3) (.k .non)) (.call "_law_is_same" [(.loc 4), (.loc 3)]))]
theorem tail_x {v a b : IV} (h : isiI v .str S = .ok (.bl false) S ∨ ∃ t : Str, v = .str t ∧ t.length ≤ 100) : evSs (gam pr 19) pr.sub tl4 [some a, some b, some v, none, none, none] S = .ret (.bl true) S := by
  have caught : ∀ {τ1 : Sl}, τ1[3]? = some (some .non) → evSs (gam pr 19) pr.sub [.ret (.and (.cmp .is (.loc 3) (.k .non)) (.not (.k (.bl false))))] τ1 S = .ret (.bl true) S := fun {τ1} h3 =>
    st_ret ((and_yes (cmp_ok (x := .non) (y := .non) (loc_ok h3) x_k rfl)).trans (not_ok x_k))
  have body : ∀ {x : Str}, Wg.run pr 19 "parse_fraction" [v] S = .exc x S → evSs (gam pr 19) pr.sub [.set (.nm 4) (.call "parse_fraction" [(.loc 2)])] [some a, some b, some v, some .non, none, none] S = .exc x [some a, some b, some v, some .non, none, none] S := fun {x} e => by
    rw [s_cons, s_set, x_call, xs_cons, loc_ok (v := v) rfl, bind_ok, xs_nil, bind_ok, bind_ok]
    have e' : (gam pr 19).call "parse_fraction" [v] S = .exc x S := e
    rw [e', thn_exc, seq_exc]
  rcases h with h | ⟨t, rfl, tl100⟩
  · have e2 : evE (gam pr 19) (.isi (.loc 2) .str) [some a, some b, some v, some .non, none, none] S = .ok (.bl false) S := by rw [x_isi, loc_ok (v := v) rfl, bind_ok]; exact h
    refine st_set x_k (st_no e2 ?_)
    exact st_tryas (body (parse_bad (k := 18) h)) (by kernel_rfl) rfl (caught rfl)
  · have e2 : evE (gam pr 19) (.isi (.loc 2) .str) [some a, some b, some (.str t), some .non, none, none] S = .ok (.bl true) S := by rw [x_isi, loc_ok (v := .str t) rfl, bind_ok]; rfl
    rcases lval (k := 16) (S := S) tl100 with ⟨q, rfl, e⟩ | ⟨nq, e⟩
    · have sm := fracS_bd (q := q) (by omega)
      refine st_set x_k (st_yesN e2 (st_set (call_one (loc_ok rfl) e) s_nil) ?_)
      have pe := parse_run3 (k := 15) (S := S) T3 (f := "parse_fraction") lk_parse_fraction lk_written sm
      refine st_tryasN (st_set (call_one (A := .loc 2) (loc_ok rfl) pe) s_nil) ?_
      have sm2 := same_run (pr := pr) (S := S) lk_l_is_same 1 17 _ (Fl.fr 0 q)
      exact st_ret ((and_yes (cmp_ok (x := fr q) (y := .non) (loc_ok rfl) x_k rfl)).trans (call_two (loc_ok rfl) (loc_ok rfl) sm2))
    · refine st_set x_k (st_yesN e2 (st_set (call_one (loc_ok rfl) e) s_nil) ?_)
      have pe := parse_any (k := 15) (S := S) T3 (f := "parse_fraction") lk_parse_fraction lk_written tl100 nq
      exact st_tryas (body pe) (by kernel_rfl) rfl (caught rfl)
theorem sml_all : ∀ a : Nat, a < 41 → ∀ b : Nat, b < 12 → (Rat.divInt ((a : Int) - 20) (1 + (b : Int))).num.natAbs < 100 ∧ (Rat.divInt ((a : Int) - 20) (1 + (b : Int))).den < 100 := by decide +kernel
theorem main {ns : List Int} (g0 : S[0]? = some (.frz (ns.map .int))) : ∃ S', (evSs (gam pr 19) pr.sub d_law.body [some (.ref 0), none, none, none, none, none] S).done S = .ok (.bl true) S' := by
  have cl : ∀ (τ : Sl) (i : Nat) (v : Int), τ[0]? = some (some (.ref 0)) → v = i → evE (gam pr 19) (.call "_law_cell" [(.loc 0), (.k (.int v))]) τ S = .ok (.int (cellAt ns i)) S := fun τ i v h0 hv => by
    subst hv
    exact call_two (loc_ok h0) x_k (l_cell_run (pr := pr) (k := 18) lk_l_cell g0 i)
  obtain ⟨a, ha, a41⟩ := fm (c := cellAt ns 0) 41 (by decide)
  replace a41 : a < 41 := a41
  obtain ⟨b, hb, b12⟩ := fm (c := cellAt ns 1) 12 (by decide)
  replace b12 : b < 12 := b12
  have sm : Sml (Rat.divInt ((a : Int) - 20) (1 + (b : Int))) := sml_all a a41 b b12
  have fq := frac_run (pr := pr) (k := 18) (S := S) (f := "_law_fraction") lk_l_fraction (a := (a : Int) - 20) (b := 1 + (b : Int)) (by omega) (lt8000 (by omega))
  have a1 : evE (gam pr 19) (.call "_law_fraction" [(.bin .sub (.bin .mod (.call "_law_cell" [(.loc 0), (.k (.int 0))]) (.k (.int 41))) (.k (.int 20))), (.bin .add (.k (.int 1)) (.bin .mod (.call "_law_cell" [(.loc 0), (.k (.int 1))]) (.k (.int 12))))]) [some (.ref 0), none, none, none, none, none] S = .ok (fr (Rat.divInt ((a : Int) - 20) (1 + (b : Int)))) S :=
    call_two (x := .int ((a : Int) - 20)) (y := .int (1 + (b : Int))) (bin_ok (bin_ok (cl _ 0 0 rfl rfl) x_k (b_modE (by decide) ha)) x_k b_sub) (bin_ok x_k (bin_ok (cl _ 1 1 rfl rfl) x_k (b_modE (by decide) hb)) b_add) fq
  generalize Rat.divInt ((a : Int) - 20) (1 + (b : Int)) = q at *
  have a2 : evE (gam pr 19) (.call "_law_is_same" [(.call "parse_fraction" [(.call "_law_text" [(.loc 1)])]), (.loc 1)]) [some (.ref 0), some (fr q), none, none, none, none] S = .ok (.bl true) S :=
    call_two (call_one (call_one (loc_ok rfl) (ltext (k := 18) sm)) (parse_run3 (k := 15) (S := S) T3 (f := "parse_fraction") lk_parse_fraction lk_written sm.b3)) (loc_ok rfl) (same_run (pr := pr) (S := S) lk_l_is_same 1 17 _ (Fl.fr 0 q))
  obtain ⟨f, hf, f9⟩ := fm (c := cellAt ns 2) 9 (by decide)
  replace f9 : f < 9 := f9
  obtain ⟨t, tl100, ec⟩ := lchanged (k := 17) (S := S) (q := q) (f := (f : Int)) (c := cellAt ns 3) sm (by omega) (by omega)
  have a3 : evE (gam pr 19) (.call "_law_changed" [(.loc 1), (.bin .mod (.call "_law_cell" [(.loc 0), (.k (.int 2))]) (.k (.int 9))), (.call "_law_cell" [(.loc 0), (.k (.int 3))])]) [some (.ref 0), some (fr q), none, none, none, none] S = .ok (.str t) S := by
    rw [x_call, xs_cons, loc_ok (v := fr q) rfl, bind_ok, xs_cons, bin_ok (cl [some (.ref 0), some (fr q), none, none, none, none] 2 2 rfl rfl) x_k (b_modE (by decide) hf), bind_ok, xs_cons, cl [some (.ref 0), some (fr q), none, none, none, none] 3 3 rfl rfl, bind_ok, xs_nil, bind_ok, bind_ok, bind_ok, bind_ok]
    exact ec
  have c4 : evE (gam pr 19) (.cmp .eq (.bin .mod (.call "_law_cell" [(.loc 0), (.k (.int 4))]) (.k (.int 5))) (.k (.int 4))) [some (.ref 0), some (fr q), some (.str t), none, none, none] S = .ok (.bl (decide ((cellAt ns 4).fmod 5 = 4))) S := cmp_ok (bin_ok (cl _ 4 4 rfl rfl) x_k (b_mod (by decide))) x_k c_eq
  show ∃ S', (evSs (gam pr 19) pr.sub (.set (.nm 1) (.call "_law_fraction" [(.bin .sub (.bin .mod (.call "_law_cell" [(.loc 0), (.k (.int 0))]) (.k (.int 41))) (.k (.int 20))), (.bin .add (.k (.int 1)) (.bin .mod (.call "_law_cell" [(.loc 0), (.k (.int 1))]) (.k (.int 12))))]) :: .cond (.not (.call "_law_is_same" [(.call "parse_fraction" [(.call "_law_text" [(.loc 1)])]), (.loc 1)])) [
      .ret (.k (.bl false))] [] ::
    .set (.nm 2) (.call "_law_changed" [(.loc 1), (.bin .mod (.call "_law_cell" [(.loc 0), (.k (.int 2))]) (.k (.int 9))), (.call "_law_cell" [(.loc 0), (.k (.int 3))])]) ::
    .cond (.cmp .eq (.bin .mod (.call "_law_cell" [(.loc 0), (.k (.int 4))]) (.k (.int 5))) (.k (.int 4))) [
      .set (.nm 2) (.ix (.lst [(.k .non), (.loc 1), (.ix (.loc 1) (.k (.int 0))), (.tup [(.call "_law_text" [(.loc 1)])]), (.k (.bl true))]) (.bin .mod (.call "_law_cell" [(.loc 0), (.k (.int 3))]) (.k (.int 5))))] [] :: tl4) _ S).done S = _
  by_cases h4 : (cellAt ns 4).fmod 5 = 4
  · rw [decide_eq_true h4] at c4
    obtain ⟨j, hj, j5⟩ := fm (c := cellAt ns 3) 5 (by decide)
    replace j5 : j < 5 := j5
    have ls : evE (gam pr 19) (.lst [(.k .non), (.loc 1), (.ix (.loc 1) (.k (.int 0))), (.tup [(.call "_law_text" [(.loc 1)])]), (.k (.bl true))]) [some (.ref 0), some (fr q), some (.str t), none, none, none] S = .ok (.ref S.length) (S ++ [.lst [.non, fr q, .int q.num, .tup [.str (fracS q)], .bl true]]) := by
      rw [x_lst, xs_cons, x_k, bind_ok, xs_cons, loc_ok (v := fr q) rfl, bind_ok, xs_cons, ix0 (i := 1) rfl, bind_ok, xs_cons, x_tup, xs_cons, call_one (loc_ok (i := 1) (v := fr q) rfl) (ltext (k := 18) sm), bind_ok, xs_nil, bind_ok, bind_ok, mkTu_1, bind_ok, xs_cons, x_k, bind_ok, xs_nil]
      simp only [bind_ok]
      exact mkLi_eq (by simp [szOk])
    have g : (S ++ [Cell.lst [.non, fr q, .int q.num, .tup [.str (fracS q)], .bl true]])[S.length]? = some (.lst [.non, fr q, .int q.num, .tup [.str (fracS q)], .bl true]) := app_at
    have g0' : (S ++ [Cell.lst [.non, fr q, .int q.num, .tup [.str (fracS q)], .bl true]])[0]? = some (.frz (ns.map .int)) := get_appL g0
    generalize hU : S ++ [Cell.lst [.non, fr q, .int q.num, .tup [.str (fracS q)], .bl true]] = U at *
    have m5 : evE (gam pr 19) (.bin .mod (.call "_law_cell" [(.loc 0), (.k (.int 3))]) (.k (.int 5))) [some (.ref 0), some (fr q), some (.str t), none, none, none] U = .ok (.int (j : Nat)) U := bin_ok (call_two (loc_ok rfl) x_k (l_cell_run (pr := pr) (k := 18) lk_l_cell g0' 3)) x_k (b_modE (by decide) hj)
    obtain ⟨v, hv, hb⟩ : ∃ v : IV, [IV.non, fr q, .int q.num, .tup [.str (fracS q)], .bl true][j]? = some v ∧ isiI v .str U = .ok (.bl false) U := by
      match j, j5 with
      | 0, _ => exact ⟨_, rfl, rfl⟩
      | 1, _ => exact ⟨_, rfl, rfl⟩
      | 2, _ => exact ⟨_, rfl, rfl⟩
      | 3, _ => exact ⟨_, rfl, rfl⟩
      | 4, _ => exact ⟨_, rfl, rfl⟩
    have e2 : evE (gam pr 19) (.ix (.lst [(.k .non), (.loc 1), (.ix (.loc 1) (.k (.int 0))), (.tup [(.call "_law_text" [(.loc 1)])]), (.k (.bl true))]) (.bin .mod (.call "_law_cell" [(.loc 0), (.k (.int 3))]) (.k (.int 5)))) [some (.ref 0), some (fr q), some (.str t), none, none, none] S = .ok v U := by
      rw [x_ix, ls, bind_ok, m5, bind_ok, i_lst g, atI_nat hv, getO_some]
    exact ⟨_, done_of (v := .bl true) (S1 := U) (st_set a1 (st_no (not_ok a2) (st_set a3 (st_yesN c4 (st_set e2 s_nil) (tail_x (.inl hb))))))⟩
  · rw [decide_eq_false h4] at c4
    exact ⟨_, done_of (v := .bl true) (S1 := S) (st_set a1 (st_no (not_ok a2) (st_set a3 (st_no c4 (tail_x (.inr ⟨t, rfl, tl100⟩))))))⟩
theorem law_true : ∀ ns : List Int, ns.length ≤ 63 → (∀ z ∈ ns, Builtin.Int.intBits z ≤ 1048576) → ∃ S', run pr 20 "law" [.ref 0] [.frz (ns.map .int)] = .ok (.bl true) S' := fun ns hns _ => by
  rw [run_eq (pr := pr) (k := 19) lk_law rfl]
  exact main (S := [.frz (ns.map .int)]) rfl
end
end Lw
open PySem PySem.W PySem.Calls PyProof.Rows
set_option maxHeartbeats 0 in
set_option maxRecDepth 100000 in
theorem PySem.Challenge.cw_wagerroom_k59_texts_that_are_no_fraction_holds : PySem.Challenge.rw_wagerroom_k59_texts_that_are_no_fraction.Holds := by
  w_on; o_law
  refine HandSHeadRun.head_any (r := OpenLaw.row PySem.Challenge.rw_wagerroom_k59_texts_that_are_no_fraction) (q := view (OpenLaw.row PySem.Challenge.rw_wagerroom_k59_texts_that_are_no_fraction).prog [24]) (H := Wg.hookH Lw.gi Lw.pr Lw.hs) (ob := Wg.obH Lw.gi Lw.pr Lw.hs) (M := 60000) (loose := Lw.loose) (d := HandSHeadRun.topDef (OpenLaw.row PySem.Challenge.rw_wagerroom_k59_texts_that_are_no_fraction).prog 24) (kwd := []) (Wg.obH_eq _ _ _)
    (by kernel_rfl) (fun s => by kernel_rfl) Lw.hrun (by kernel_rfl) (by kernel_rfl) (by kernel_rfl) (by rfl) (by first | assumption | decide +kernel) (by decide +kernel) ⟨rfl, rfl, rfl, rfl, rfl, by decide +kernel⟩ ?hw ?hc
  case hw => w_witness2
  case hc => exact Wg.walk_H (l := PySem.Challenge.rw_wagerroom_k59_texts_that_are_no_fraction) (n := 63) (k := 20) (x := "law") (g := Lw.gi) (pr := Lw.pr) (hs := Lw.hs) rfl (by decide) (by kernel_rfl) (by kernel_rfl) ⟨rfl, by decide, by decide⟩ (by decide +kernel) Lw.hs_ok Lw.at_ok Lw.sup_ok Lw.law_true
