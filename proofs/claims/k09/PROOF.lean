import PyProof.Rows.All
import HandS.ForMost
import HandS.ForExc
import HandS.IsInst
import HandS.Wide
import HandS.TupAny
import HandS.TupLe
import HandS.RaiseMore
import HandS.TupMul
import HandS.More
import HandS.SortInts
import HandS.Strs
import KE.DataMinMax
import KE.KTupSum
import HandS.Property
import HandS.ClsMeth
import HandS.Star
import KE.GoesEnum
import HandS.Zip
import HandS.Conv
import HandS.TryMany
import HandS.Style
import HandS.EndBits
import HandS.Head2
import HandS.HeadHook2
import PySem.Challenge.RW_wagerroom_k09_partitions_refused
import PyProof.ReprLen
import PyProof.StrLawsRepr
import PyProof.Rows.RegStrFacts
import PyProof.EqLayable
import PyProof.Rows.ReprOcc
set_option Elab.async false
set_option linter.all false
set_option maxRecDepth 100000
/-! WgA: values, stores, syntax without positions, evaluation (plain Lean). -/
namespace Wg
open PySem L2
/-- a value: tuples are trees, all that can change is a cell of the store -/
inductive IV where
  | non | bl (b : Bool) | int (i : Int) | str (x : Str) | tup (xs : List IV) | ref (n : Nat) | cls (c : Str)
inductive Cell where
  | lst (xs : List IV) | frz (xs : List IV) | dct (kvs : List (Key × IV)) | ins (c : Str) (fs : List (Str × IV))
abbrev Sto := List Cell
abbrev Sl := List (Option IV)
/-! ### all references below n -/
mutual
def IV.lt (n : Nat) : IV → Bool
  | .non => true
  | .bl _ => true
  | .int _ => true
  | .str _ => true
  | .tup xs => ltAll n xs
  | .ref k => decide (k < n)
  | .cls _ => true
def ltAll (n : Nat) : List IV → Bool
  | [] => true
  | x :: xs => x.lt n && ltAll n xs
end
def Cell.lt (n : Nat) : Cell → Bool
  | .lst xs => ltAll n xs
  | .frz xs => ltAll n xs
  | .dct kvs => ltAll n (kvs.map (·.2))
  | .ins _ fs => ltAll n (fs.map (·.2))
/-! ### equality of values, cells -/
mutual
def IV.eqb : IV → IV → Bool
  | .non, .non => true
  | .bl a, .bl b => a == b
  | .int a, .int b => a == b
  | .str a, .str b => decide (a = b)
  | .tup a, .tup b => eqbAll a b
  | .ref a, .ref b => a == b
  | .cls a, .cls b => decide (a = b)
  | _, _ => false
def eqbAll : List IV → List IV → Bool
  | [], [] => true
  | x :: xs, y :: ys => x.eqb y && eqbAll xs ys
  | _, _ => false
end
mutual
theorem IV.eqb_refl : ∀ x : IV, x.eqb x = true
  | .non => rfl
  | .bl b => by simp [IV.eqb]
  | .int i => by simp [IV.eqb]
  | .str x => by simp [IV.eqb]
  | .tup xs => by simp only [IV.eqb]; exact eqbAll_refl xs
  | .ref n => by simp [IV.eqb]
  | .cls n => by simp [IV.eqb]
theorem eqbAll_refl : ∀ xs : List IV, eqbAll xs xs = true
  | [] => rfl
  | x :: xs => by simp only [eqbAll, IV.eqb_refl x, eqbAll_refl xs, Bool.and_self]
end
mutual
theorem IV.eq_of_eqb : ∀ x y : IV, x.eqb y = true → x = y
  | .non, .non, _ => rfl
  | .bl a, .bl b, h => by simp [IV.eqb] at h; rw [h]
  | .int a, .int b, h => by simp [IV.eqb] at h; rw [h]
  | .str a, .str b, h => by simp [IV.eqb] at h; rw [h]
  | .ref a, .ref b, h => by simp [IV.eqb] at h; rw [h]
  | .cls a, .cls b, h => by simp [IV.eqb] at h; rw [h]
  | .tup a, .tup b, h => by simp only [IV.eqb] at h; rw [eq_of_eqbAll a b h]
  | .non, .bl _, h | .non, .int _, h | .non, .str _, h | .non, .tup _, h | .non, .ref _, h => by simp [IV.eqb] at h
  | .bl _, .non, h | .bl _, .int _, h | .bl _, .str _, h | .bl _, .tup _, h | .bl _, .ref _, h => by simp [IV.eqb] at h
  | .int _, .non, h | .int _, .bl _, h | .int _, .str _, h | .int _, .tup _, h | .int _, .ref _, h => by simp [IV.eqb] at h
  | .str _, .non, h | .str _, .bl _, h | .str _, .int _, h | .str _, .tup _, h | .str _, .ref _, h => by simp [IV.eqb] at h
  | .tup _, .non, h | .tup _, .bl _, h | .tup _, .int _, h | .tup _, .str _, h | .tup _, .ref _, h => by simp [IV.eqb] at h
  | .ref _, .non, h | .ref _, .bl _, h | .ref _, .int _, h | .ref _, .str _, h | .ref _, .tup _, h | .ref _, .cls _, h => by simp [IV.eqb] at h
  | .cls _, .non, h | .cls _, .bl _, h | .cls _, .int _, h | .cls _, .str _, h | .cls _, .tup _, h | .cls _, .ref _, h => by simp [IV.eqb] at h
  | .non, .cls _, h | .bl _, .cls _, h | .int _, .cls _, h | .str _, .cls _, h | .tup _, .cls _, h => by simp [IV.eqb] at h
theorem eq_of_eqbAll : ∀ xs ys : List IV, eqbAll xs ys = true → xs = ys
  | [], [], _ => rfl
  | x :: xs, y :: ys, h => by
    simp only [eqbAll, Bool.and_eq_true] at h
    rw [IV.eq_of_eqb x y h.1, eq_of_eqbAll xs ys h.2]
  | [], _ :: _, h => by simp [eqbAll] at h
  | _ :: _, [], h => by simp [eqbAll] at h
end
def kvsEqb {κ : Type} [DecidableEq κ] : List (κ × IV) → List (κ × IV) → Bool
  | [], [] => true
  | (k, v) :: r, (k', v') :: r' => decide (k = k') && v.eqb v' && kvsEqb r r'
  | _, _ => false
theorem kvsEqb_refl {κ : Type} [DecidableEq κ] : ∀ l : List (κ × IV), kvsEqb l l = true
  | [] => rfl
  | (k, v) :: r => by simp [kvsEqb, IV.eqb_refl, kvsEqb_refl r]
theorem eq_of_kvsEqb {κ : Type} [DecidableEq κ] : ∀ l l' : List (κ × IV), kvsEqb l l' = true → l = l'
  | [], [], _ => rfl
  | (k, v) :: r, (k', v') :: r', h => by
    simp only [kvsEqb, Bool.and_eq_true, decide_eq_true_eq] at h
    rw [h.1.1, IV.eq_of_eqb v v' h.1.2, eq_of_kvsEqb r r' h.2]
  | [], _ :: _, h => by simp [kvsEqb] at h
  | _ :: _, [], h => by simp [kvsEqb] at h
def Cell.eqb : Cell → Cell → Bool
  | .lst a, .lst b => eqbAll a b
  | .frz a, .frz b => eqbAll a b
  | .dct a, .dct b => kvsEqb a b
  | .ins c a, .ins d b => decide (c = d) && kvsEqb a b
  | _, _ => false
theorem Cell.eqb_refl : ∀ c : Cell, c.eqb c = true
  | .lst a => eqbAll_refl a
  | .frz a => eqbAll_refl a
  | .dct a => kvsEqb_refl a
  | .ins c a => by simp [Cell.eqb, kvsEqb_refl]
theorem Cell.eq_of_eqb : ∀ c d : Cell, c.eqb d = true → c = d
  | .lst a, .lst b, h => by rw [eq_of_eqbAll a b h]
  | .frz a, .frz b, h => by rw [eq_of_eqbAll a b h]
  | .dct a, .dct b, h => by rw [eq_of_kvsEqb a b h]
  | .ins c a, .ins d b, h => by
    simp only [Cell.eqb, Bool.and_eq_true, decide_eq_true_eq] at h
    rw [h.1, eq_of_kvsEqb a b h.2]
  | .lst _, .frz _, h | .lst _, .dct _, h | .lst _, .ins _ _, h => by simp [Cell.eqb] at h
  | .frz _, .lst _, h | .frz _, .dct _, h | .frz _, .ins _ _, h => by simp [Cell.eqb] at h
  | .dct _, .lst _, h | .dct _, .frz _, h | .dct _, .ins _ _, h => by simp [Cell.eqb] at h
  | .ins _ _, .lst _, h | .ins _ _, .frz _, h | .ins _ _, .dct _, h => by simp [Cell.eqb] at h
/-! ### results -/
inductive Rs (α : Type) where
  | ok (a : α) (S : Sto) | exc (c : Str) (S : Sto) | bad
def Rs.bind {α β : Type} : Rs α → (α → Sto → Rs β) → Rs β
  | .ok a S, f => f a S
  | .exc c S, _ => .exc c S
  | .bad, _ => .bad
/-- a statement's result -/
inductive Rz where
  | next (τ : Sl) (S : Sto) | ret (v : IV) (S : Sto) | brk (τ : Sl) (S : Sto) | cnt (τ : Sl) (S : Sto) | exc (c : Str) (τ : Sl) (S : Sto) | bad
def Rs.thn {α : Type} (r : Rs α) (τ : Sl) (f : α → Sto → Rz) : Rz := match r with
  | .ok a S => f a S
  | .exc c S => .exc c τ S
  | .bad => .bad
def Rz.seq (r : Rz) (f : Sl → Sto → Rz) : Rz := match r with
  | .next τ S => f τ S
  | r => r
/-! ### the syntax -/
inductive Bop where
  | add | sub | mul | fdiv | mod | pow
inductive Cop where
  | eq | ne | lt | le | gt | ge | isin | notin | is | isnot
/-- built-in functions and types that are called -/
inductive Bf where
  | len | abs | max | min | repr | str | int | list | tuple | sum | all | any | sorted
/-- what isinstance is asked about -/
inductive Ty where
  | int | bool | tuple | str | list | dict | own (c : Str)
inductive Tg where
  | nm (i : Nat) | tp (ts : List Tg)
mutual
inductive PX where
  | k (v : IV)
  | loc (i : Nat)
  | glb (x : Str)
  | bin (o : Bop) (a b : PX)
  | neg (a : PX)
  | cmp (o : Cop) (a b : PX)
  | chain (o o' : Cop) (a b c : PX)
  | and (a b : PX) | or (a b : PX) | not (a : PX) | ite (c a b : PX)
  | tup (es : List PX) | lst (es : List PX) | dct (kvs : List (PX × PX))
  | ix (a b : PX) | sl (a : PX) (lo hi : Option PX) | rev (a : PX)
  | call (f : Str) (es : List PX)
  | blt (f : Bf) (es : List PX)
  | mth (m : Str) (o : PX) (es : List PX)
  | isi (a : PX) (T : Ty)
  | lc (own : List Nat) (tg : Tg) (it : PIt) (ifs : List PX) (elt : PX)
  | att (f : Str) (o : PX) | met (m : Str) (o : PX) (es : List PX) | new (f : PX) (es : List PX) | iso (a : PX) (c : Str)
  | gc (e : PX)
  | calls (f : Str) (es : List PX) (e : PX) | news (f : PX) (es : List PX) (e : PX)
  | rgs (t : Bool) (e : PX)
  | lset (e : PX)
  | dc1 (a b : PX)
  | bmt (m : Str) (o : PX) (es : List PX)
inductive PIt where
  | val (e : PX) | rng (es : List PX) | enum (e : PX) | zip (a b : PX) | zips (e : PX)
end
inductive Sm where
  | expr (e : PX) | ret (e : PX) | retN | pass | brk | cnt
  | set (tg : Tg) (e : PX)
  | par (i j : Nat) (a b : PX)
  | par3 (i j l : Nat) (a b c : PX)
  | sub (o i e : PX)
  | fld (o : PX) (f : Str) (e : PX)
  | fldaug (o : PX) (f : Str) (p : Bop) (e : PX)
  | aug (i : Nat) (o : Bop) (e : PX)
  | cond (c : PX) (a b : List Sm)
  | whil (c : PX) (b : List Sm)
  | for (tg : Tg) (it : PIt) (b : List Sm)
  | raise (c : Str)
  | tryx (b : List Sm) (hs : List (Str × List Sm))
end Wg
/-! WgB: evaluation. -/
namespace Wg
open PySem L2
/-! ### a value as data -/
def kD : Key → PyData
  | .inl i => .int i
  | .inr x => .str x
mutual
def goD (r : Nat → Option PyData) : IV → Option PyData
  | .non => some .none
  | .bl b => some (.bool b)
  | .int i => some (.int i)
  | .str x => some (.str x)
  | .tup xs => match goDs r xs with | some ds => some (.tuple ds) | none => none
  | .ref n => r n
  | .cls _ => none
def goDs (r : Nat → Option PyData) : List IV → Option (List PyData)
  | [] => some []
  | x :: xs => match goD r x with
    | some d => match goDs r xs with | some ds => some (d :: ds) | none => none
    | none => none
end
def refD (f : IV → Option PyData) (fs : List IV → Option (List PyData)) (S : Sto) (n : Nat) : Option PyData := match S[n]? with
  | some (.lst xs) => match fs xs with | some ds => some (.list ds) | none => none
  | some (.frz xs) => match fs xs with | some ds => some (.list ds) | none => none
  | some (.dct kvs) => match fs (kvs.map (·.2)) with | some ds => some (.dict ((kvs.map fun p => kD p.1).zip ds)) | none => none
  | _ => none
/-- d: how many lists or dicts deep -/
def refs : Nat → Sto → Nat → Option PyData
  | 0, _, _ => none
  | d + 1, S, n => refD (goD (refs d S)) (goDs (refs d S)) S n
def toD (S : Sto) (v : IV) : Option PyData := goD (refs 6 S) v
/-! ### operators -/
def mulOk (i j : Int) : Bool := decide (i.natAbs.log2 + j.natAbs.log2 < 1000000) || decide (i.natAbs < 2 ^ 64) || decide (j.natAbs < 2 ^ 64)
def divOk (j : Int) : Bool := decide (j ≠ 0) && decide (j.natAbs.log2 < 9000)
def powOk (i j : Int) : Bool := decide (0 ≤ j) && decide (j ≤ 1000000) && decide (i.natAbs < 2 ^ 64)
def szOk (n : Nat) : Bool := decide (n ≤ 16777216)
def repL (xs : List IV) (n : Nat) : List IV := (List.replicate n xs).flatten
def alloc (c : Cell) (S : Sto) : Rs IV := .ok (.ref S.length) (S ++ [c])
def binI (o : Bop) (a b : IV) (S : Sto) : Rs IV := match o, a, b with
  | .add, .int i, .int j => .ok (.int (i + j)) S
  | .sub, .int i, .int j => .ok (.int (i - j)) S
  | .mul, .int i, .int j => if mulOk i j then .ok (.int (i * j)) S else .bad
  | .fdiv, .int i, .int j => if divOk j then .ok (.int (i.fdiv j)) S else .bad
  | .mod, .int i, .int j => if j = 0 then .bad else .ok (.int (i.fmod j)) S
  | .pow, .int i, .int j => if powOk i j then .ok (.int (i ^ j.toNat)) S else .bad
  | .add, .str x, .str y => if szOk (x.length + y.length) then .ok (.str (x ++ y)) S else .bad
  | .add, .tup x, .tup y => if szOk (x.length + y.length) then .ok (.tup (x ++ y)) S else .bad
  | .add, .ref m, .ref n => match S[m]?, S[n]? with
    | some (.lst x), some (.lst y) => if szOk (x.length + y.length) then alloc (.lst (x ++ y)) S else .bad
    | _, _ => .bad
  | .mul, .ref m, .int j => match S[m]? with
    | some (.lst x) => if decide (0 ≤ j) && decide (j ≤ 1000) && szOk (x.length * j.toNat) then alloc (.lst (repL x j.toNat)) S else .bad
    | _ => .bad
  | .mul, .tup x, .int j => if decide (1 ≤ j) && decide (j ≤ 1000) && decide (x.length ≤ 1000) && !x.isEmpty then .ok (.tup (repL x j.toNat)) S else .bad
  | _, _, _ => .bad
def negI (a : IV) (S : Sto) : Rs IV := match a with
  | .int i => .ok (.int (-i)) S
  | _ => .bad
/-- a value that is compared without looking into it -/
def eqS : IV → IV → Option Bool
  | .int i, .int j => some (decide (i = j))
  | .str x, .str y => some (decide (x = y))
  | .bl x, .bl y => some (decide (x = y))
  | _, _ => none
def eqI (a b : IV) (S : Sto) : Option Bool := match eqS a b with
  | some k => some k
  | none => match toD S a, toD S b with
    | some d, some e => if SeqAt.shaped d && SeqAt.shaped e then some (PyData.eqv d e) else none
    | _, _ => none
def flatI : IV → Bool
  | .non => true
  | .bl _ => true
  | .int _ => true
  | .str _ => true
  | _ => false
/-- == of flat values -/
def eqF : IV → IV → Bool
  | .non, .non => true
  | .bl a, .bl b => a == b
  | .bl a, .int j => (if a then 1 else 0) == j
  | .int i, .bl b => i == (if b then 1 else 0)
  | .int i, .int j => i == j
  | .str x, .str y => decide (x = y)
  | _, _ => false
/-- the items of a list or tuple -/
def itemsI (a : IV) (S : Sto) : Option (List IV) := match a with
  | .tup xs => some xs
  | .ref n => match S[n]? with
    | some (.lst xs) => some xs
    | some (.frz xs) => some xs
    | _ => none
  | _ => none
/-- the data of the items -/
def seqD : Option PyData → Option (List PyData)
  | some (.list ds) => some ds
  | some (.tuple ds) => some ds
  | _ => none
/-- a dict's entries -/
def dctOf (y : IV) (S : Sto) : Option (List (Key × IV)) := match y with
  | .ref n => match S[n]? with
    | some (.dct kvs) => some kvs
    | _ => none
  | _ => none
def keyOf : IV → Option Key
  | .int i => some (.inl i)
  | .str x => some (.inr x)
  | _ => none
/-- the value at a key; a value stored at a key -/
def dVal {β : Type} (kvs : List (Key × β)) (k : Key) : Option β := (kvs.find? fun kv => decide (kv.1 = k)).map (·.2)
def dPut {β : Type} (kvs : List (Key × β)) (k : Key) (v : β) : List (Key × β) :=
  if (kvs.any fun kv => decide (kv.1 = k)) = true then kvs.map (fun kv => if kv.1 = k then (kv.1, v) else kv) else kvs ++ [(k, v)]
/-- x in a dict -/
def dinI (x y : IV) (S : Sto) : Option Bool := match dctOf y S, keyOf x with
  | some kvs, some k => some (dVal kvs k).isSome
  | _, _ => none
/-- a dict at a key -/
def dixI (a b : IV) (S : Sto) : Rs IV := match dctOf a S, keyOf b with
  | some kvs, some k => match dVal kvs k with
    | some v => .ok v S
    | none => .bad
  | _, _ => .bad
/-- an instance (no class here has an __eq__) against a text -/
def eqO : IV → IV → Sto → Option Bool
  | .ref n, .str _, S => match S[n]? with
    | some (.ins _ _) => some false
    | _ => none
  | _, _, _ => none
/-- a tuple against the empty tuple -/
def eqE : IV → IV → Sto → Option Bool
  | .tup xs, .tup [], _ => some xs.isEmpty
  | .ref n, .ref m, S => match S[n]?, S[m]? with
    | some (.lst xs), some (.lst []) => some xs.isEmpty
    | _, _ => none
  | a, b, S => eqO a b S
def eqT (a b : IV) (S : Sto) (o : Option Bool) : Option Bool := match o with
  | some k => some k
  | none => eqE a b S
def neT (a b : IV) (S : Sto) (o : Option Bool) : Option Bool := match o with
  | some k => some k
  | none => eqO a b S
def inI (x y : IV) (S : Sto) : Option Bool := match itemsI y S with
  | some xs => if flatI x && xs.all flatI then some (xs.any fun z => eqF z x) else match seqD (toD S y), toD S x with
    | some ds, some d => if SeqAt.shaped d && PyData.canLayAll0 ds then some (ds.any fun z => PyData.eqv z d) else none
    | _, _ => none
  | none => dinI x y S
def boolR (o : Option Bool) (S : Sto) : Rs IV := match o with
  | some b => .ok (.bl b) S
  | none => .bad
def boolN (o : Option Bool) (S : Sto) : Rs IV := match o with
  | some b => .ok (.bl (!b)) S
  | none => .bad
def nonI : IV → Bool
  | .non => true
  | _ => false
def isI (a b : IV) : Option Bool := match b with
  | .non => some (nonI a)
  | .bl y => match a with | .bl x => some (decide (x = y)) | _ => none
  | _ => none
def cmpI (o : Cop) (a b : IV) (S : Sto) : Rs IV := match o with
  | .eq => boolR (eqT a b S (eqI a b S)) S
  | .ne => boolN (neT a b S (eqI a b S)) S
  | .lt => match a, b with | .int i, .int j => .ok (.bl (decide (i < j))) S | _, _ => .bad
  | .le => match a, b with | .int i, .int j => .ok (.bl (decide (i ≤ j))) S | _, _ => .bad
  | .gt => match a, b with | .int i, .int j => .ok (.bl (decide (j < i))) S | _, _ => .bad
  | .ge => match a, b with | .int i, .int j => .ok (.bl (decide (j ≤ i))) S | _, _ => .bad
  | .isin => boolR (inI a b S) S
  | .notin => boolN (inI a b S) S
  | .is => boolR (isI a b) S
  | .isnot => boolN (isI a b) S
def ixI (a b : IV) (S : Sto) : Rs IV := match b with
  | .int i => match itemsI a S with
    | some xs => match atI xs i with | some v => .ok v S | none => .bad
    | none => match a with
      | .str z => if z.length ≤ 16777216 then (match atI z.cps.toList i with | some c => .ok (.str ⟨#[c]⟩) S | none => .bad) else .bad
      | _ => dixI a b S
  | _ => dixI a b S
def cutI (xs : List IV) (lo hi : Option Int) : List IV := (xs.drop (HT.sIx xs.length 0 lo)).take (HT.sIx xs.length xs.length hi - HT.sIx xs.length 0 lo)
def slI (a : IV) (lo hi : Option Int) (S : Sto) : Rs IV := match a with
  | .tup xs => .ok (.tup (cutI xs lo hi)) S
  | .ref n => match S[n]? with
    | some (.lst xs) => alloc (.lst (cutI xs lo hi)) S
    | _ => .bad
  | _ => .bad
/-- a[::-1] -/
def revI (a : IV) (S : Sto) : Rs IV := match a with
  | .tup xs => .ok (.tup xs.reverse) S
  | .ref n => match S[n]? with
    | some (.lst xs) => alloc (.lst xs.reverse) S
    | _ => .bad
  | _ => .bad
def intOf : IV → Option Int
  | .int i => some i
  | _ => none
def blOf : IV → Option Bool
  | .bl i => some i
  | _ => none
def optAll {α β : Type} (f : α → Option β) : List α → Option (List β)
  | [] => some []
  | x :: xs => match f x with
    | some y => match optAll f xs with | some ys => some (y :: ys) | none => none
    | none => none
def lenI (a : IV) (S : Sto) : Rs IV := match itemsI a S with
  | some xs => .ok (.int xs.length) S
  | none => match a with
    | .str z => if z.length ≤ 16777216 then .ok (.int z.length) S else .bad
    | _ => match dctOf a S with
      | some kvs => .ok (.int kvs.length) S
      | none => .bad
mutual
/-- there is a list in it -/
def hasL : PyData → Bool
  | .list _ => true
  | .tuple xs => hasLs xs
  | .dict kvs => hasLk kvs
  | .none => false
  | .bool _ => false
  | .int _ => false
  | .str _ => false
def hasLs : List PyData → Bool
  | [] => false
  | x :: xs => hasL x || hasLs xs
def hasLk : List (PyData × PyData) → Bool
  | [] => false
  | (k, v) :: r => hasL v || hasLk r
end
def shownOk (d : PyData) : Bool := d.showable && (!d.hasDict || !hasL d) && decide (d.shown.length ≤ 16777216) && decide (d.depth ≤ 60)
/-- ints in order -/
def sortI (ns : List Int) : List Int := ns.mergeSort fun a b => decide (a ≤ b)
def bltI (f : Bf) (vs : List IV) (S : Sto) : Rs IV := match f, vs with
  | .len, [a] => lenI a S
  | .abs, [.int i] => .ok (.int (if i < 0 then -i else i)) S
  | .max, [.int i, .int j] => .ok (.int (if j > i then j else i)) S
  | .min, [.int i, .int j] => .ok (.int (if j < i then j else i)) S
  | .repr, [a] => match toD S a with
    | some d => if shownOk d then .ok (.str d.shown) S else .bad
    | none => .bad
  | .str, [.int i] => if i.natAbs.log2 < 1920 then .ok (.str (toString i)) S else .bad
  | .int, [.int i] => .ok (.int i) S
  | .int, [.bl b] => .ok (.int (if b then 1 else 0)) S
  | .list, [a] => match itemsI a S with | some xs => alloc (.lst xs) S | none => .bad
  | .tuple, [a] => match itemsI a S with | some xs => .ok (.tup xs) S | none => .bad
  | .sum, [a] => match itemsI a S with
    | some xs => match optAll intOf xs with | some ns => .ok (.int ns.sum) S | none => .bad
    | _ => .bad
  | .all, [.ref n] => match S[n]? with
    | some (.lst xs) => match optAll blOf xs with | some bs => .ok (.bl (bs.all id)) S | none => .bad
    | _ => .bad
  | .any, [.ref n] => match S[n]? with
    | some (.lst xs) => match optAll blOf xs with | some bs => .ok (.bl (bs.any id)) S | none => .bad
    | _ => .bad
  | .max, [a] => match itemsI a S with
    | some xs => match optAll intOf xs with | some (m :: ns) => .ok (.int (ns.foldl max m)) S | _ => .bad
    | _ => .bad
  | .min, [a] => match itemsI a S with
    | some xs => match optAll intOf xs with | some (m :: ns) => .ok (.int (ns.foldl min m)) S | _ => .bad
    | _ => .bad
  | .sorted, [.ref n] => match S[n]? with
    | some (.lst xs) => match optAll intOf xs with | some ns => alloc (.lst ((sortI ns).map .int)) S | none => .bad
    | _ => .bad
  | _, _ => .bad
def isiI (a : IV) (T : Ty) (S : Sto) : Rs IV := match a, T with
  | .non, .own _ => .bad
  | .bl _, .own _ => .bad
  | .int _, .own _ => .bad
  | .str _, .own _ => .bad
  | .tup _, .own _ => .bad
  | .cls _, _ => .bad
  | .non, _ => .ok (.bl false) S
  | .bl _, T => .ok (.bl (match T with | .bool => true | .int => true | _ => false)) S
  | .int _, T => .ok (.bl (match T with | .int => true | _ => false)) S
  | .str _, T => .ok (.bl (match T with | .str => true | _ => false)) S
  | .tup _, T => .ok (.bl (match T with | .tuple => true | _ => false)) S
  | .ref n, T => match S[n]?, T with
    | some (.lst _), .own _ => .bad
    | some (.frz _), .own _ => .bad
    | some (.dct _), .own _ => .bad
    | some (.lst _), T => .ok (.bl (match T with | .list => true | _ => false)) S
    | some (.frz _), T => .ok (.bl (match T with | .list => true | _ => false)) S
    | some (.dct _), T => .ok (.bl (match T with | .dict => true | _ => false)) S
    | _, _ => .bad
def mthI (m : Str) (o : IV) (vs : List IV) (S : Sto) : Rs IV := match o with
  | .ref n => match S[n]?, vs with
    | some (.lst xs), [y] => if m = "append" then (if szOk (xs.length + 1) then .ok .non (S.set n (.lst (xs ++ [y]))) else .bad)
      else if m = "index" then (if flatI y && xs.all flatI then (match xs.findIdx? fun z => eqF z y with | some j => .ok (.int (j : Nat)) S | none => .bad) else match seqD (toD S o), toD S y with
        | some ds, some d => if SeqAt.shaped d && PyData.canLayAll0 ds then (match ds.findIdx? fun z => PyData.eqv z d with | some j => .ok (.int (j : Nat)) S | none => .bad) else .bad
        | _, _ => .bad)
      else if m = "extend" then (match y with
        | .ref b => match S[b]? with
          | some (.lst zs) => if szOk (xs.length + zs.length) then .ok .non (S.set n (.lst (xs ++ zs))) else .bad
          | _ => .bad
        | _ => .bad)
      else if m = "pop" then (match y with
        | .int i => if decide (-1000000 ≤ i) && decide (i ≤ 1000000) then (match seqIndex? i xs.length with
          | some j => match xs[j]? with | some v => .ok v (S.set n (.lst (xs.eraseIdx j))) | none => .bad
          | none => .bad) else .bad
        | _ => .bad) else .bad
    | _, _ => .bad
  | _ => .bad
/-- other receivers of methods -/
def rcv2 (m : Str) (x : IV) (_S : Sto) : Bool := match x with
  | .tup _ => decide (m = "index")
  | _ => false
def mth2 (m : Str) (o : IV) (vs : List IV) (S : Sto) : Rs IV := match o, vs with
  | .tup xs, [y] => if m = "index" then (if flatI y && xs.all flatI then (match xs.findIdx? fun z => eqF z y with | some j => .ok (.int (j : Nat)) S | none => .bad) else .bad) else .bad
  | _, _ => .bad
/-- the receiver of a method is a list -/
def rcvI (x : IV) (S : Sto) : Bool := match x with
  | .ref n => match S[n]? with | some (.lst _) => true | _ => false
  | _ => false
/-! ### targets -/
mutual
def setT : Tg → IV → Sl → Option Sl
  | .nm i, v, τ => some (τ.set i (some v))
  | .tp ts, v, τ => match v with
    | .tup xs => setTs ts xs τ
    | _ => none
def setTs : List Tg → List IV → Sl → Option Sl
  | [], [], τ => some τ
  | t :: ts, x :: xs, τ => match setT t x τ with
    | some τ' => setTs ts xs τ'
    | none => none
  | _, _, _ => none
end
def wipeI (τ : Sl) : List Nat → Sl
  | [] => τ
  | v :: vs => (wipeI τ vs).set v none
/-- {x: y}: the dict stands empty while its entry is made -/
def dc1I (n : Nat) (x y : IV) (S : Sto) : Rs IV := match S[n]?, keyOf x with
  | some (.dct []), some k => .ok (.ref n) (S.set n (.dct [(k, y)]))
  | _, _ => .bad
/-! ### what is walked -/
/-- the items; the cell that must stand still (its place) -/
structure Walk where
  items : List IV
  held : Option (Nat × Cell)
def signs (z : Str) : List IV := z.cps.toList.map fun c => IV.str ⟨#[c]⟩
def walkV (a : IV) (S : Sto) : Option Walk := match a with
  | .tup xs => some ⟨xs, none⟩
  | .str z => some ⟨signs z, none⟩
  | .ref n => match S[n]? with
    | some (.lst xs) => some ⟨xs, some (n, .lst xs)⟩
    | some (.frz xs) => some ⟨xs, some (n, .frz xs)⟩
    | _ => none
  | _ => none
def zipI (xs ys : List IV) : List IV := (xs.zip ys).map fun p => IV.tup [p.1, p.2]
def tupsOf : IV → Option (List IV)
  | .tup xs => some xs
  | _ => none
/-- the rows of so many tuples of one length -/
def rowsI (xss : List (List IV)) (n : Nat) : List IV := (List.range n).map fun i => IV.tup (xss.map fun xs => xs.getD i .non)
def sameL (xss : List (List IV)) : Bool := decide (1 ≤ xss.length) && decide (xss.length ≤ 6) && xss.all fun xs => xs.length == (xss.headD []).length
def zipsV (x : IV) : Option Walk := match x with
  | .tup ts => match optAll tupsOf ts with
    | some xss => if sameL xss then some ⟨rowsI xss (xss.headD []).length, none⟩ else none
    | none => none
  | _ => none
def enumI (xs : List IV) : List IV := xs.zipIdx.map fun p => IV.tup [.int (p.2 : Nat), p.1]
def enumV (a : IV) (S : Sto) : Option Walk := match a with
  | .tup xs => some ⟨enumI xs, none⟩
  | .ref n => match S[n]? with
    | some (.lst xs) => some ⟨enumI xs, some (n, .lst xs)⟩
    | some (.frz xs) => some ⟨enumI xs, some (n, .frz xs)⟩
    | _ => none
  | _ => none
def holds (h : Option (Nat × Cell)) (S : Sto) : Bool := match h with
  | none => true
  | some (n, c) => match S[n]? with | some d => d.eqb c | none => false
def rngI (n : Nat) : List IV := (List.range n).map fun i => IV.int (i : Nat)
/-- range(a, b) -/
def rngJ (a b : Int) : List IV := (List.range (b - a).toNat).map fun i : Nat => IV.int (a + (i : Nat))
/-- len(set(x)) of a list of ints -/
def lsetI (x : IV) (S : Sto) : Rs IV := match x with
  | .ref n => match S[n]? with
    | some (.lst xs) => match optAll intOf xs with
      | some ns => if ns.length ≤ 4000 then .ok (.int ((PyProof.Rows.firstMet (fun i => ns.getD i 0) ns.length).length : Nat)) S else .bad
      | none => .bad
    | _ => .bad
  | _ => .bad
/-- list(range(x)), tuple(range(x)) -/
def rgsI (t : Bool) (x : IV) (S : Sto) : Rs IV := match x with
  | .int n => if decide (0 ≤ n) && decide (n ≤ 1000) then (if t then .ok (.tup (rngI n.toNat)) S else alloc (.lst (rngI n.toNat)) S) else .bad
  | _ => .bad
/-! ### the environment of calls -/
/-- what a class has by a name -/
inductive At where
  | meth (q : Str) | prop (g : Str) (s : Option Str) | con (v : IV) | cmeth (q : Str)
structure Gam where
  call : Str → List IV → Sto → Rs IV
  glob : Str → Option IV
  att : Str → Str → Option At
  isub : Str → Str → Bool
/-- x.f -/
def okOnly (r : Rs IV) : Rs IV := match r with
  | .ok v S => .ok v S
  | _ => .bad
def attI (Γ : Gam) (f : Str) (x : IV) (S : Sto) : Rs IV := match x with
  | .ref n => match S[n]? with
    | some (.ins c fs) => match Γ.att c f with
      | some (.prop g _) => okOnly (Γ.call g [x] S)
      | some (.con v) => match fs.lookup f with | some _ => .bad | none => .ok v S
      | some _ => .bad
      | none => match fs.lookup f with | some w => .ok w S | none => .bad
    | _ => .bad
  | .cls c => match Γ.att c f with
    | some (.con v) => .ok v S
    | _ => .bad
  | _ => .bad
/-- the def of x.m(..) -/
def metI (Γ : Gam) (m : Str) (em : Bool) (x : IV) (S : Sto) : Option Str := match x with
  | .ref n => match S[n]? with
    | some (.ins c fs) => match Γ.att c m, fs.lookup m with
      | some (.meth q), none => some q
      | _, _ => none
    | _ => none
  | .cls c => match Γ.att c m with
    | some (.cmeth q) => if em then none else some q
    | _ => none
  | _ => none
/-- a new instance -/
def mkI (Γ : Gam) (c : Str) (xs : List IV) (S : Sto) : Rs IV := match Γ.att c "__init__" with
  | some (.meth q) => (Γ.call q (.ref S.length :: xs) (S ++ [.ins c []])).bind fun v S2 => if nonI v then .ok (.ref S.length) S2 else .bad
  | _ => .bad
def hasInit (Γ : Gam) (c : Str) : Bool := match Γ.att c "__init__" with
  | some (.meth _) => true
  | _ => false
/-- isinstance(x, c), an own class -/
def isoI (Γ : Gam) (x : IV) (c : Str) (S : Sto) : Rs IV := match x with
  | .ref n => match S[n]? with
    | some (.ins d _) => .ok (.bl (Γ.isub d c)) S
    | some _ => .ok (.bl false) S
    | none => .bad
  | .cls _ => .bad
  | _ => .ok (.bl false) S
def putI (f : Str) (v : IV) : List (Str × IV) → List (Str × IV)
  | [] => [(f, v)]
  | (g, w) :: r => if g = f then (f, v) :: r else (g, w) :: putI f v r
/-- what the callee has left is dropped where nothing points to it -/
def okOld (n : Nat) : Nat → Sto → Sto → Bool
  | 0, _, _ => true
  | i + 1, S, S' => (match S'[i]? with
    | none => false
    | some c => c.lt n || (match S[i]? with | some d => d.eqb c | none => false)) && okOld n i S S'
def settle (S : Sto) (v : IV) (S' : Sto) : Sto := if v.lt S.length && okOld S.length S.length S S' then S'.take S.length else S'
/-- .. behind an expression -/
def Rs.settle (S : Sto) (r : Rs IV) : Rs IV := match r with
  | .ok v S' => .ok v (Wg.settle S v S')
  | .exc c S' => .exc c (Wg.settle S .non S')
  | .bad => .bad
/-- the turns of a comprehension; one: a turn's tests and element -/
def lcGo (one : IV → Sto → Rs (Option IV)) (held : Option (Nat × Cell)) : List IV → List IV → Sto → Rs (List IV)
  | [], acc, S => if holds held S then .ok acc S else .bad
  | x :: xs, acc, S => if holds held S then (match one x S with
    | .ok (some y) S' => if szOk (acc.length + 1) then lcGo one held xs (acc ++ [y]) S' else .bad
    | .ok none S' => lcGo one held xs acc S'
    | _ => .bad) else .bad
def truth (r : Rs IV) (f : Bool → Sto → Rs IV) : Rs IV := r.bind fun v S => match v with
  | .bl b => f b S
  | _ => .bad
mutual
def evE (Γ : Gam) : PX → Sl → Sto → Rs IV
  | .k v, _, S => .ok v S
  | .loc i, τ, S => match τ[i]? with
    | some (some v) => .ok v S
    | _ => .bad
  | .glb x, _, S => match Γ.glob x with
    | some v => .ok v S
    | none => .bad
  | .bin o a b, τ, S => (evE Γ a τ S).bind fun x S1 => (evE Γ b τ S1).bind fun y S2 => binI o x y S2
  | .neg a, τ, S => (evE Γ a τ S).bind fun x S1 => negI x S1
  | .cmp o a b, τ, S => (evE Γ a τ S).bind fun x S1 => (evE Γ b τ S1).bind fun y S2 => cmpI o x y S2
  | .chain o o' a b c, τ, S => (evE Γ a τ S).bind fun x S1 => (evE Γ b τ S1).bind fun y S2 => truth (cmpI o x y S2) fun k S3 =>
      if k then (evE Γ c τ S3).bind fun z S4 => cmpI o' y z S4 else .ok (.bl false) S3
  | .and a b, τ, S => truth (evE Γ a τ S) fun k S1 => if k then evE Γ b τ S1 else .ok (.bl false) S1
  | .or a b, τ, S => truth (evE Γ a τ S) fun k S1 => if k then .ok (.bl true) S1 else evE Γ b τ S1
  | .not a, τ, S => truth (evE Γ a τ S) fun k S1 => .ok (.bl (!k)) S1
  | .ite c a b, τ, S => truth (evE Γ c τ S) fun k S1 => if k then evE Γ a τ S1 else evE Γ b τ S1
  | .tup es, τ, S => (evEs Γ es τ S).bind fun xs S1 => if szOk xs.length then .ok (.tup xs) S1 else .bad
  | .lst es, τ, S => (evEs Γ es τ S).bind fun xs S1 => if szOk xs.length then alloc (.lst xs) S1 else .bad
  | .dct kvs, _, S => match kvs with
    | [] => alloc (.dct []) S
    | [(.k (.int i), .k (.int j))] => alloc (.dct [(.inl i, .int j)]) S
    | _ => .bad
  | .ix a b, τ, S => (evE Γ a τ S).bind fun x S1 => (evE Γ b τ S1).bind fun y S2 => ixI x y S2
  | .sl a lo hi, τ, S => (evE Γ a τ S).bind fun x S1 => (evO Γ lo τ S1).bind fun l S2 => (evO Γ hi τ S2).bind fun h S3 => slI x l h S3
  | .rev a, τ, S => (evE Γ a τ S).bind fun x S1 => revI x S1
  | .call f es, τ, S => (evEs Γ es τ S).bind fun xs S1 => Γ.call f xs S1
  | .blt f es, τ, S => ((evEs Γ es τ S).bind fun xs S1 => bltI f xs S1).settle S
  | .mth m o es, τ, S => (evE Γ o τ S).bind fun x S1 => if rcvI x S1 then (evEs Γ es τ S1).bind fun xs S2 => mthI m x xs S2 else if rcv2 m x S1 then (evEs Γ es τ S1).bind fun xs S2 => mth2 m x xs S2 else .bad
  | .bmt m o es, τ, S => (evE Γ o τ S).bind fun x S1 => if rcv2 m x S1 then (evEs Γ es τ S1).bind fun xs S2 => mth2 m x xs S2 else .bad
  | .dc1 a b, τ, S => (evE Γ a τ (S ++ [.dct []])).bind fun x S1 => (evE Γ b τ S1).bind fun y S2 => dc1I S.length x y S2
  | .isi a T, τ, S => (evE Γ a τ S).bind fun x S1 => isiI x T S1
  | .lc own tg it ifs elt, τ, S => (evI Γ it τ S).bind fun wk S1 =>
      (lcGo (fun x S2 => match setT tg x (wipeI τ own) with
        | none => .bad
        | some τ' => (evTs Γ ifs τ' S2).bind fun k S3 => if k then (evE Γ elt τ' S3).bind fun y S4 => .ok (some y) S4 else .ok none S3) wk.held wk.items [] S1).bind fun ys S2 => alloc (.lst ys) S2
  | .att f o, τ, S => (evE Γ o τ S).bind fun x S1 => attI Γ f x S1
  | .met m o es, τ, S => (evE Γ o τ S).bind fun x S1 => match metI Γ m es.isEmpty x S1 with
    | some q => (evEs Γ es τ S1).bind fun xs S2 => Γ.call q (x :: xs) S2
    | none => .bad
  | .new f es, τ, S => (evE Γ f τ S).bind fun y S0 => match y with
    | .cls c => if hasInit Γ c then (evEs Γ es τ S0).bind fun xs S1 => mkI Γ c xs S1 else .bad
    | _ => .bad
  | .iso a c, τ, S => (evE Γ a τ S).bind fun x S1 => isoI Γ x c S1
  | .gc e, τ, S => (evE Γ e τ S).settle S
  | .calls f es e, τ, S => (evEs Γ es τ S).bind fun xs S1 => (evE Γ e τ S1).bind fun y S2 => match itemsI y S2 with
    | some ys => Γ.call f (xs ++ ys) S2
    | none => .bad
  | .news f es e, τ, S => (evE Γ f τ S).bind fun z S0 => match z with
    | .cls c => if hasInit Γ c then (evEs Γ es τ S0).bind fun xs S1 => (evE Γ e τ S1).bind fun y S2 => match itemsI y S2 with
      | some ys => mkI Γ c (xs ++ ys) S2
      | none => .bad else .bad
    | _ => .bad
  | .rgs t e, τ, S => (evE Γ e τ S).bind fun x S1 => rgsI t x S1
  | .lset e, τ, S => (evE Γ e τ S).bind fun x S1 => lsetI x S1
def evEs (Γ : Gam) : List PX → Sl → Sto → Rs (List IV)
  | [], _, S => .ok [] S
  | e :: es, τ, S => (evE Γ e τ S).bind fun x S1 => (evEs Γ es τ S1).bind fun xs S2 => .ok (x :: xs) S2
def evTs (Γ : Gam) : List PX → Sl → Sto → Rs Bool
  | [], _, S => .ok true S
  | e :: es, τ, S => (evE Γ e τ S).bind fun x S1 => match x with
    | .bl true => evTs Γ es τ S1
    | .bl false => .ok false S1
    | _ => .bad
def evO (Γ : Gam) : Option PX → Sl → Sto → Rs (Option Int)
  | none, _, S => .ok none S
  | some e, τ, S => (evE Γ e τ S).bind fun x S1 => match x with
    | .int i => .ok (some i) S1
    | _ => .bad
def evI (Γ : Gam) : PIt → Sl → Sto → Rs Walk
  | .val e, τ, S => (evE Γ e τ S).bind fun x S1 => match walkV x S1 with
    | some w => .ok w S1
    | none => .bad
  | .rng es, τ, S => (evEs Γ es τ S).bind fun xs S1 => match xs with
    | [.int n] => if decide (-(2 ^ 62) ≤ n) && decide (n < 2 ^ 62) then .ok ⟨rngI n.toNat, none⟩ S1 else .bad
    | [.int a, .int b] => if decide (-1000 ≤ a) && decide (a ≤ 1000) && decide (-1000 ≤ b) && decide (b ≤ 1000) then .ok ⟨rngJ a b, none⟩ S1 else .bad
    | _ => .bad
  | .enum e, τ, S => (evE Γ e τ S).bind fun x S1 => match enumV x S1 with
    | some w => .ok w S1
    | none => .bad
  | .zip a b, τ, S => (evE Γ a τ S).bind fun x S1 => (evE Γ b τ S1).bind fun y S2 => match x, y with
    | .tup xs, .tup ys => .ok ⟨zipI xs ys, none⟩ S2
    | _, _ => .bad
  | .zips e, τ, S => (evE Γ e τ S).bind fun x S1 => match zipsV x with
    | some w => .ok w S1
    | none => .bad
end
/-! ### statements -/
def forGo (body : Sl → Sto → Rz) (tg : Tg) (held : Option (Nat × Cell)) : List IV → Sl → Sto → Rz
  | [], τ, S => if holds held S then .next τ S else .bad
  | x :: xs, τ, S => if holds held S then (match setT tg x τ with
    | none => .bad
    | some τ1 => match body τ1 S with
      | .next τ2 S2 => forGo body tg held xs τ2 S2
      | .cnt τ2 S2 => forGo body tg held xs τ2 S2
      | .brk τ2 S2 => .next τ2 S2
      | r => r) else .bad
/-- a while's turns, at most n of them -/
def whileN (test : Sl → Sto → Rs IV) (body : Sl → Sto → Rz) : Nat → Sl → Sto → Option Rz
  | 0, _, _ => none
  | n + 1, τ, S => match test τ S with
    | .ok (.bl true) S1 => match body τ S1 with
      | .next τ2 S2 => whileN test body n τ2 S2
      | .cnt τ2 S2 => whileN test body n τ2 S2
      | .brk τ2 S2 => some (.next τ2 S2)
      | r => some r
    | .ok (.bl false) S1 => some (.next τ S1)
    | .exc c S1 => some (.exc c τ S1)
    | _ => some .bad
open Classical in
noncomputable def whileC (test : Sl → Sto → Rs IV) (body : Sl → Sto → Rz) (τ : Sl) (S : Sto) : Rz :=
  if h : ∃ n r, whileN test body n τ S = some r then h.choose_spec.choose else .bad
/-- an except suite lets nothing out -/
def quietZ (r : Rz) : Rz := match r with
  | .exc _ _ _ => .bad
  | r => r
def catchI (sub : Str → Str → Bool) (hs : List (Str × (Sl → Sto → Rz))) (c : Str) (τ : Sl) (S : Sto) : Rz := match hs with
  | [] => .exc c τ S
  | (d, f) :: r => if sub c d then quietZ (f τ S) else catchI sub r c τ S
def setN (tg : Tg) (v : IV) (τ : Sl) (S : Sto) : Rz := match setT tg v τ with
  | some τ' => .next τ' S
  | none => .bad
/-- x[y] = v -/
def subN (v x y : IV) (τ : Sl) (S : Sto) : Rz := match x with
  | .ref n => match S[n]? with
    | some (.lst xs) => match y with
      | .int k => match ixN xs.length k with
        | some j => .next τ (S.set n (.lst (xs.set j v)))
        | none => .bad
      | _ => .bad
    | some (.dct kvs) => match keyOf y with
      | some k => if szOk (kvs.length + 1) then .next τ (S.set n (.dct (dPut kvs k v))) else .bad
      | none => .bad
    | _ => .bad
  | _ => .bad
def augN (i : Nat) (o : Bop) (x y : IV) (τ : Sl) (S : Sto) : Rz := match o, x, y with
  | .add, .int p, .int q => .next (τ.set i (some (.int (p + q)))) S
  | .sub, .int p, .int q => .next (τ.set i (some (.int (p - q)))) S
  | _, _, _ => .bad
/-- x.f = v -/
def fldN (Γ : Gam) (f : Str) (v x : IV) (τ : Sl) (S : Sto) : Rz := match x with
  | .ref n => match S[n]? with
    | some (.ins c fs) => match Γ.att c f with
      | none => if fs.length < 900 then .next τ (S.set n (.ins c (putI f v fs))) else .bad
      | some (.prop _ (some q)) => (Γ.call q [x, v] S).thn τ fun _ S1 => .next τ S1
      | _ => .bad
    | _ => .bad
  | _ => .bad
def augI (o : Bop) (x y : IV) : Option IV := match o, x, y with
  | .add, .int p, .int q => some (.int (p + q))
  | .sub, .int p, .int q => some (.int (p - q))
  | _, _, _ => none
/-- the class of an instance -/
def clsOf (x : IV) (S : Sto) : Option Str := match x with
  | .ref n => match S[n]? with
    | some (.ins c _) => some c
    | _ => none
  | _ => none
/-- the field's value now -/
def fldV (Γ : Gam) (f : Str) (x : IV) (S : Sto) : Option IV := match x with
  | .ref n => match S[n]? with
    | some (.ins c fs) => match Γ.att c f with
      | none => fs.lookup f
      | _ => none
    | _ => none
  | _ => none
mutual
noncomputable def evS (Γ : Gam) (sub : Str → Str → Bool) : Sm → Sl → Sto → Rz
  | .expr e, τ, S => (evE Γ e τ S).thn τ fun _ S1 => .next τ S1
  | .ret e, τ, S => (evE Γ e τ S).thn τ fun v S1 => .ret v S1
  | .retN, _, S => .ret .non S
  | .pass, τ, S => .next τ S
  | .brk, τ, S => .brk τ S
  | .cnt, τ, S => .cnt τ S
  | .set tg e, τ, S => (evE Γ e τ S).thn τ fun v S1 => setN tg v τ S1
  | .par i j a b, τ, S => (evE Γ a τ S).thn τ fun x S1 => (evE Γ b τ S1).thn τ fun y S2 => .next ((τ.set i (some x)).set j (some y)) S2
  | .par3 i j l a b c, τ, S => (evE Γ a τ S).thn τ fun x S1 => (evE Γ b τ S1).thn τ fun y S2 => (evE Γ c τ S2).thn τ fun z S3 => .next (((τ.set i (some x)).set j (some y)).set l (some z)) S3
  | .sub o i e, τ, S => (evE Γ e τ S).thn τ fun v S1 => (evE Γ o τ S1).thn τ fun x S2 => (evE Γ i τ S2).thn τ fun y S3 => subN v x y τ S3
  | .fld o f e, τ, S => (evE Γ e τ S).thn τ fun v S1 => (evE Γ o τ S1).thn τ fun x S2 => fldN Γ f v x τ S2
  | .fldaug o f p e, τ, S => (evE Γ o τ S).thn τ fun x S1 => match fldV Γ f x S1 with
    | some u => (evE Γ e τ S1).thn τ fun y S2 => match augI p u y with
      | some z => if clsOf x S1 = clsOf x S2 then fldN Γ f z x τ S2 else .bad
      | none => .bad
    | none => .bad
  | .aug i o e, τ, S => match τ[i]? with
    | some (some x) => (evE Γ e τ S).thn τ fun y S1 => augN i o x y τ S1
    | _ => .bad
  | .cond c a b, τ, S => (evE Γ c τ S).thn τ fun v S1 => match v with
    | .bl true => evSs Γ sub a τ S1
    | .bl false => evSs Γ sub b τ S1
    | _ => .bad
  | .whil c b, τ, S => whileC (evE Γ c) (evSs Γ sub b) τ S
  | .for tg it b, τ, S => (evI Γ it τ S).thn τ fun wk S1 => forGo (evSs Γ sub b) tg wk.held wk.items τ S1
  | .raise c, τ, S => .exc c τ S
  | .tryx b hs, τ, S => match evSs Γ sub b τ S with
    | .exc c τ1 S1 => catchI sub (evHs Γ sub hs) c τ1 S1
    | r => r
noncomputable def evSs (Γ : Gam) (sub : Str → Str → Bool) : List Sm → Sl → Sto → Rz
  | [], τ, S => .next τ S
  | s :: ss, τ, S => (evS Γ sub s τ S).seq fun τ1 S1 => evSs Γ sub ss τ1 S1
noncomputable def evHs (Γ : Gam) (sub : Str → Str → Bool) : List (Str × List Sm) → List (Str × (Sl → Sto → Rz))
  | [] => []
  | (c, b) :: r => (c, fun τ S => evSs Γ sub b τ S) :: evHs Γ sub r
end
/-! ### defs and calls -/
structure PD where
  np : Nat
  ns : Nat
  body : List Sm
/-- what a star parameter behind p others takes -/
def pack (p : Nat) (vs : List IV) : List IV := vs.take p ++ [.tup (vs.drop p)]
def startI (d : PD) (vs : List IV) : Sl := vs.map some ++ List.replicate (d.ns - vs.length) none
def Rz.done (r : Rz) (S : Sto) : Rs IV := match r with
  | .next _ S' => .ok .non (settle S .non S')
  | .ret v S' => .ok v (settle S v S')
  | .exc c _ S' => .exc c (settle S .non S')
  | _ => .bad
structure Prg where
  defs : List (Str × PD)
  glob : List (Str × IV)
  sub : Str → Str → Bool
  att : Str → Str → Option At := fun _ _ => none
  isub : Str → Str → Bool := fun _ _ => false
/-- the environment of a body whose calls go k deep -/
abbrev mkGam (P : Prg) (call : Str → List IV → Sto → Rs IV) : Gam := ⟨call, fun x => P.glob.lookup x, P.att, P.isub⟩
noncomputable def run (P : Prg) : Nat → Str → List IV → Sto → Rs IV
  | 0, _, _, _ => .bad
  | k + 1, f, vs, S => match P.defs.lookup f with
    | some d => if d.np < 1000 then (if vs.length = d.np then (evSs (mkGam P (run P k)) P.sub d.body (startI d vs) S).done S else .bad)
      else (if decide (d.np - 1000 ≤ vs.length) && szOk vs.length then (evSs (mkGam P (run P k)) P.sub d.body (startI d (pack (d.np - 1000) vs)) S).done S else .bad)
    | none => .bad
end Wg
/-! WgC: how values and stores stand in the abstract heap. -/
namespace Wg
open PySem L2
/-- a tuple whose object is seen to have no dict -/
def SqN (K : PySem.W.Frag) (H : Hp) (a : Addr) (vs : List V) : Prop :=
  (∃ o : Obj, o.dict = none ∧ H a = some (.frz o (.tup vs))) ∨
    ∃ (o : Obj) (its : Array Value) (n : Nat), K.lookup a = some o ∧ o.cls = .type "tuple" ∧ o.dict = none ∧ o.data = .seq its n ∧ its.size ≤ sizeLine ∧ Vals vs its.toList
theorem SqN.toT {K : PySem.W.Frag} {H : Hp} {a : Addr} {vs : List V} (h : SqN K H a vs) : SqT K H a vs := by
  rcases h with ⟨o, _, h⟩ | ⟨o, its, n, h1, h2, _, h3, h4, h5⟩
  · exact .inl (.inr ⟨o, h⟩)
  · exact .inr ⟨o, its, n, h1, h2, h3, h4, h5⟩
theorem SqN.upd_at {K : PySem.W.Frag} {H : Hp} {a p : Addr} {u : HO} {vs : List V} (h : SqN K H a vs) (hp : ∀ o ws, H p ≠ some (.frz o (.tup ws))) : SqN K (upd H p u) a vs := by
  rcases h with ⟨o, d, h⟩ | h
  · exact .inl ⟨o, d, by rw [upd_ne (fun z => hp o vs (by rw [← z]; exact h))]; exact h⟩
  · exact .inr h
/-- its object -/
theorem SqN.ty {X : Cx} {pins : List (Addr × Obj)} {σ : L2.St} {H : Hp} {s : Shared} {a : Addr} {vs : List V} (I : L2.Inv X pins σ H s) (h : SqN X.K H a vs) :
    s.TypeIs (.ref a) "tuple" ∧ ∀ b, Value.ref a = .ref b → ∃ ob, s.heap.get? b = some ob ∧ ob.dict = none := by
  refine ⟨?_, fun b e => ?_⟩
  · obtain ⟨its, r, pl, hz⟩ := I.tuple h.toT
    exact pl.typeIs
  · cases e
    rcases h with ⟨o, d, h⟩ | ⟨o, its, n, h1, h2, d, h3, h4, h5⟩
    · exact ⟨o, (I.hok a _ h).1, d⟩
    · exact ⟨o, I.kIn a o h1, d⟩
section
variable {K : PySem.W.Frag} {ι ι' ι2 : Nat → Addr} {n n' : Nat} {H H' H2 : Hp}
mutual
def RV (K : PySem.W.Frag) (ι : Nat → Addr) (n : Nat) (H : Hp) : IV → V → Prop
  | .non, v => v = .non
  | .bl b, v => v = .bl b
  | .int i, v => v = .int i
  | .str x, v => v = .str x
  | .tup xs, v => ∃ a vs, v = .ref a ∧ SqN K H a vs ∧ RVs K ι n H xs vs
  | .ref k, v => k < n ∧ v = .ref (ι k)
  | .cls c, v => ∃ C, v = .ref C ∧ PySem.W.nsIn K mainGlobals c = some (some (.ref C))
def RVs (K : PySem.W.Frag) (ι : Nat → Addr) (n : Nat) (H : Hp) : List IV → List V → Prop
  | [], vs => vs = []
  | x :: xs, vs => ∃ v r, vs = v :: r ∧ RV K ι n H x v ∧ RVs K ι n H xs r
end
/-- where the classes stand -/
structure Cm where
  exc : Str → Option Addr
  ins : Str → Option Addr
  fn : Str → Option Addr
instance : CoeFun Cm (fun _ => Str → Option Addr) := ⟨Cm.exc⟩
def CellOk (K : PySem.W.Frag) (cm : Cm) (ι : Nat → Addr) (n : Nat) (H : Hp) (a : Addr) : Cell → Prop
  | .lst xs => ∃ vs, H a = some (.lst vs) ∧ RVs K ι n H xs vs
  | .frz xs => ∃ o vs, H a = some (.frz o (.lst vs)) ∧ RVs K ι n H xs vs
  | .dct kvs => ∃ ps, H a = some (.dK ps) ∧ ps.map (·.1) = kvs.map (·.1) ∧ RVs K ι n H (kvs.map (·.2)) (ps.map (·.2))
  | .ins c fs => ∃ C dx ps, H a = some (.ins C dx ps) ∧ cm.ins c = some C ∧ ps.map (·.1) = fs.map (·.1) ∧ RVs K ι n H (fs.map (·.2)) (ps.map (·.2))
structure Rel (K : PySem.W.Frag) (cm : Cm) (ι : Nat → Addr) (S : Sto) (H : Hp) : Prop where
  cell : ∀ i c, S[i]? = some c → CellOk K cm ι S.length H (ι i) c
  inj : ∀ i j, i < S.length → j < S.length → ι i = ι j → i = j
structure Step (ι : Nat → Addr) (S : Sto) (H : Hp) (ι' : Nat → Addr) (S' : Sto) (H' : Hp) : Prop where
  len : S.length ≤ S'.length
  ext : ∀ m, m < S.length → ι' m = ι m
  frm : ∀ a o, H a = some o → (∀ m, m < S.length → ι m ≠ a) → H' a = some o
  new : ∀ m, S.length ≤ m → m < S'.length → H (ι' m) = none
theorem CellOk.there {cm : Cm} {a : Addr} {c : Cell} (h : CellOk K cm ι n H a c) : ∃ o, H a = some o ∧ (∀ xs, o ≠ .tup xs) ∧ ∀ ob xs, o ≠ .frz ob (.tup xs) := by
  cases c with
  | lst xs => obtain ⟨vs, e, _⟩ := h; exact ⟨_, e, fun _ z => (nomatch z), fun _ _ z => (nomatch z)⟩
  | frz xs => obtain ⟨o, vs, e, _⟩ := h; exact ⟨_, e, fun _ z => (nomatch z), fun _ _ z => by cases z⟩
  | dct xs => obtain ⟨vs, e, _⟩ := h; exact ⟨_, e, fun _ z => (nomatch z), fun _ _ z => (nomatch z)⟩
  | ins c fs => obtain ⟨C, dx, vs, e, _⟩ := h; exact ⟨_, e, fun _ z => (nomatch z), fun _ _ z => (nomatch z)⟩
theorem Rel.there {cm : Cm} {S : Sto} (r : Rel K cm ι S H) {m : Nat} (hm : m < S.length) : ∃ o, H (ι m) = some o ∧ (∀ xs, o ≠ .tup xs) ∧ ∀ ob xs, o ≠ .frz ob (.tup xs) :=
  (r.cell m S[m] (by simp [hm])).there
theorem Step.refl {S : Sto} : Step ι S H ι S H := ⟨Nat.le_refl _, fun _ _ => rfl, fun _ _ e _ => e, fun m a b => absurd (Nat.lt_of_lt_of_le b a) (Nat.lt_irrefl _)⟩
theorem Step.trans {cm : Cm} {S S1 S2 : Sto} (r1 : Rel K cm ι' S1 H') (a : Step ι S H ι' S1 H') (b : Step ι' S1 H' ι2 S2 H2) : Step ι S H ι2 S2 H2 := by
  refine ⟨Nat.le_trans a.len b.len, fun m hm => ?_, fun x o e hx => ?_, fun m h1 h2 => ?_⟩
  · rw [b.ext m (Nat.lt_of_lt_of_le hm a.len), a.ext m hm]
  · refine b.frm x o (a.frm x o e hx) fun m hm => ?_
    by_cases h : m < S.length
    · rw [a.ext m h]; exact hx m h
    · intro q
      have := a.new m (Nat.le_of_not_lt h) hm
      rw [q, e] at this; cases this
  · by_cases h : m < S1.length
    · rw [b.ext m h]; exact a.new m h1 h
    · have e := b.new m (Nat.le_of_not_lt h) h2
      cases q : H (ι2 m) with
      | none => rfl
      | some o =>
        by_cases hz : ∃ i, i < S.length ∧ ι i = ι2 m
        · obtain ⟨i, hi, ei⟩ := hz
          obtain ⟨o', eo, _⟩ := r1.there (Nat.lt_of_lt_of_le hi a.len)
          rw [a.ext i hi, ei, e] at eo
          cases eo
        · have := a.frm _ o q fun i hi ei => hz ⟨i, hi, ei⟩
          rw [e] at this; cases this
/-! ### what stands keeps its meaning -/
/-- a tuple is kept -/
theorem SqN.step {cm : Cm} {S S' : Sto} (r : Rel K cm ι S H) (st : Step ι S H ι' S' H') {a : Addr} {vs : List V} (h : SqN K H a vs) : SqN K H' a vs := by
  rcases h with ⟨o, d, h⟩ | h
  · refine .inl ⟨o, d, st.frm a _ h fun m hm q => ?_⟩
    obtain ⟨o', eo, n1, n2⟩ := r.there hm
    rw [q, h] at eo
    cases eo
    exact n2 _ _ rfl
  · exact .inr h
theorem SqT.step {cm : Cm} {S S' : Sto} (r : Rel K cm ι S H) (st : Step ι S H ι' S' H') {a : Addr} {vs : List V} (h : SqT K H a vs) : SqT K H' a vs := by
  have key : ∀ o, H a = some o → ((∃ xs, o = .tup xs) ∨ ∃ ob xs, o = .frz ob (.tup xs)) → H' a = some o := fun o e k => by
    refine st.frm a o e fun m hm q => ?_
    obtain ⟨o', eo, n1, n2⟩ := r.there hm
    rw [q, e] at eo
    cases eo
    rcases k with ⟨xs, k⟩ | ⟨ob, xs, k⟩
    · exact n1 xs k
    · exact n2 ob xs k
  rcases h with (h | ⟨o, h⟩) | h
  · exact .inl (.inl (key _ h (.inl ⟨_, rfl⟩)))
  · exact .inl (.inr ⟨o, key _ h (.inr ⟨_, _, rfl⟩)⟩)
  · exact .inr h
mutual
theorem RV.map {iv : IV} (ht : ∀ a vs, SqN K H a vs → SqN K H' a vs) (hi : ∀ m, m < n → ι' m = ι m) (hn : n ≤ n') : ∀ {v : V}, RV K ι n H iv v → RV K ι' n' H' iv v := by
  intro v h
  match iv, h with
  | .non, h => simpa only [RV] using h
  | .bl b, h => simpa only [RV] using h
  | .int b, h => simpa only [RV] using h
  | .str b, h => simpa only [RV] using h
  | .tup xs, h =>
    simp only [RV] at h ⊢
    obtain ⟨a, vs, e, q, r⟩ := h
    exact ⟨a, vs, e, ht a vs q, RVs.map ht hi hn r⟩
  | .cls b, h => simpa only [RV] using h
  | .ref k, h =>
    simp only [RV] at h ⊢
    exact ⟨Nat.lt_of_lt_of_le h.1 hn, by rw [hi k h.1]; exact h.2⟩
theorem RVs.map {xs : List IV} (ht : ∀ a vs, SqN K H a vs → SqN K H' a vs) (hi : ∀ m, m < n → ι' m = ι m) (hn : n ≤ n') : ∀ {vs : List V}, RVs K ι n H xs vs → RVs K ι' n' H' xs vs := by
  intro vs h
  match xs, h with
  | [], h => simpa only [RVs] using h
  | x :: xs, h =>
    simp only [RVs] at h ⊢
    obtain ⟨v, r, e, h1, h2⟩ := h
    exact ⟨v, r, e, RV.map ht hi hn h1, RVs.map ht hi hn h2⟩
end
theorem RV.step {cm : Cm} {S S' : Sto} {iv : IV} {v : V} (h : RV K ι S.length H iv v) (r : Rel K cm ι S H) (st : Step ι S H ι' S' H') : RV K ι' S'.length H' iv v :=
  h.map (fun _ _ q => SqN.step r st q) st.ext st.len
theorem RVs.step {cm : Cm} {S S' : Sto} {xs : List IV} {vs : List V} (h : RVs K ι S.length H xs vs) (r : Rel K cm ι S H) (st : Step ι S H ι' S' H') : RVs K ι' S'.length H' xs vs :=
  h.map (fun _ _ q => SqN.step r st q) st.ext st.len
/-! ### lists of related values -/
theorem RVs.length : ∀ {xs : List IV} {vs : List V}, RVs K ι n H xs vs → vs.length = xs.length
  | [], vs, h => by simp only [RVs] at h; subst h; rfl
  | x :: xs, vs, h => by
    simp only [RVs] at h
    obtain ⟨v, r, rfl, _, h2⟩ := h
    simp [RVs.length h2]
theorem RVs.nil : RVs K ι n H [] [] := by simp only [RVs]
theorem RVs.cons {x : IV} {v : V} {xs : List IV} {vs : List V} (h : RV K ι n H x v) (t : RVs K ι n H xs vs) : RVs K ι n H (x :: xs) (v :: vs) := by
  simp only [RVs]; exact ⟨v, vs, rfl, h, t⟩
theorem RVs.uncons {x : IV} {xs : List IV} {vs : List V} (h : RVs K ι n H (x :: xs) vs) : ∃ v r, vs = v :: r ∧ RV K ι n H x v ∧ RVs K ι n H xs r := by simpa only [RVs] using h
theorem RVs.append : ∀ {xs ys : List IV} {vs ws : List V}, RVs K ι n H xs vs → RVs K ι n H ys ws → RVs K ι n H (xs ++ ys) (vs ++ ws)
  | [], ys, vs, ws, h, t => by simp only [RVs] at h; subst h; exact t
  | x :: xs, ys, vs, ws, h, t => by
    obtain ⟨v, r, rfl, h1, h2⟩ := h.uncons
    exact .cons h1 (h2.append t)
theorem RVs.drop : ∀ (k : Nat) {xs : List IV} {vs : List V}, RVs K ι n H xs vs → RVs K ι n H (xs.drop k) (vs.drop k)
  | 0, _, _, h => h
  | k + 1, [], vs, h => by simp only [RVs] at h; subst h; exact .nil
  | k + 1, x :: xs, vs, h => by
    obtain ⟨v, r, rfl, h1, h2⟩ := h.uncons
    exact h2.drop k
theorem RVs.take : ∀ (k : Nat) {xs : List IV} {vs : List V}, RVs K ι n H xs vs → RVs K ι n H (xs.take k) (vs.take k)
  | 0, _, _, _ => .nil
  | k + 1, [], vs, h => by simp only [RVs] at h; subst h; exact .nil
  | k + 1, x :: xs, vs, h => by
    obtain ⟨v, r, rfl, h1, h2⟩ := h.uncons
    exact .cons h1 (h2.take k)
theorem RVs.get : ∀ {xs : List IV} {vs : List V} {i : Nat} {x : IV}, RVs K ι n H xs vs → xs[i]? = some x → ∃ v, vs[i]? = some v ∧ RV K ι n H x v
  | [], _, _, _, _, e => by simp at e
  | y :: ys, vs, 0, x, h, e => by
    obtain ⟨v, r, rfl, h1, h2⟩ := h.uncons
    simp at e; subst e
    exact ⟨v, rfl, h1⟩
  | y :: ys, vs, i + 1, x, h, e => by
    obtain ⟨v, r, rfl, h1, h2⟩ := h.uncons
    simpa using h2.get (i := i) (x := x) (by simpa using e)
theorem RVs.set {x : IV} {v : V} (hx : RV K ι n H x v) : ∀ (i : Nat) {xs : List IV} {vs : List V}, RVs K ι n H xs vs → RVs K ι n H (xs.set i x) (vs.set i v)
  | _, [], vs, h => by simp only [RVs] at h; subst h; exact .nil
  | 0, y :: ys, vs, h => by
    obtain ⟨w, r, rfl, h1, h2⟩ := h.uncons
    exact .cons hx h2
  | i + 1, y :: ys, vs, h => by
    obtain ⟨w, r, rfl, h1, h2⟩ := h.uncons
    exact .cons h1 (h2.set hx i)
theorem RVs.atI {xs : List IV} {vs : List V} {i : Int} {x : IV} (h : RVs K ι n H xs vs) (e : atI xs i = some x) : ∃ v, L2.atI vs i = some v ∧ RV K ι n H x v := by
  unfold L2.atI at e ⊢
  rw [h.length]
  cases q : ixN xs.length i with
  | none => rw [q] at e; cases e
  | some j =>
    rw [q] at e
    exact h.get e
theorem RVs.cut {xs : List IV} {vs : List V} (h : RVs K ι n H xs vs) (lo hi : Option Int) : RVs K ι n H (cutI xs lo hi) (cutV vs lo hi) := by
  unfold cutI cutV
  rw [h.length]
  exact (h.drop _).take _
/-! ### the store grows, changes -/
theorem CellOk.map {cm : Cm} {a : Addr} {c : Cell} (h : CellOk K cm ι n H a c) (hH : H' a = H a) (ht : ∀ a vs, SqN K H a vs → SqN K H' a vs) (hi : ∀ m, m < n → ι' m = ι m) (hn : n ≤ n') : CellOk K cm ι' n' H' a c := by
  cases c with
  | lst xs => obtain ⟨vs, e, r⟩ := h; exact ⟨vs, hH.trans e, r.map ht hi hn⟩
  | frz xs => obtain ⟨o, vs, e, r⟩ := h; exact ⟨o, vs, hH.trans e, r.map ht hi hn⟩
  | dct kvs => obtain ⟨ps, e, k, r⟩ := h; exact ⟨ps, hH.trans e, k, r.map ht hi hn⟩
  | ins c fs => obtain ⟨C, dx, ps, e, q, k, r⟩ := h; exact ⟨C, dx, ps, hH.trans e, q, k, r.map ht hi hn⟩
theorem SqN.upd_new {p : Addr} {o : HO} (hp : H p = none) {a : Addr} {vs : List V} (h : SqN K H a vs) : SqN K (upd H p o) a vs :=
  h.upd_at fun _ _ z => by rw [hp] at z; cases z
theorem SqT.upd_new {p : Addr} {o : HO} (hp : H p = none) {a : Addr} {vs : List V} (h : SqT K H a vs) : SqT K (upd H p o) a vs := by
  rcases h with (h | ⟨ob, h⟩) | h
  · exact .inl (.inl (by rw [upd_ne (ne_of_none h hp)]; exact h))
  · exact .inl (.inr ⟨ob, by rw [upd_ne (ne_of_none h hp)]; exact h⟩)
  · exact .inr h
/-- a new thing that is not a cell -/
theorem Rel.upd_new {cm : Cm} {S : Sto} (r : Rel K cm ι S H) {p : Addr} {o : HO} (hp : H p = none) : Rel K cm ι S (upd H p o) ∧ Step ι S H ι S (upd H p o) := by
  refine ⟨⟨fun i c e => ?_, r.inj⟩, Nat.le_refl _, fun _ _ => rfl, fun a u e _ => by rw [upd_ne (ne_of_none e hp)]; exact e, fun m a b => absurd (Nat.lt_of_lt_of_le b a) (Nat.lt_irrefl _)⟩
  have h := r.cell i c e
  obtain ⟨u, eu, _⟩ := h.there
  exact h.map (by rw [upd_ne (ne_of_none eu hp)]) (fun a vs q => SqN.upd_new hp q) (fun _ _ => rfl) (Nat.le_refl _)
/-- the places with one more -/
def more (ι : Nat → Addr) (n : Nat) (p : Addr) : Nat → Addr := fun m => if m = n then p else ι m
theorem more_lt {p : Addr} {m : Nat} (h : m < n) : more ι n p m = ι m := by unfold more; rw [if_neg (by omega)]
theorem more_eq {p : Addr} : more ι n p n = p := by unfold more; rw [if_pos rfl]
/-- a new cell, its object known -/
theorem Rel.add {cm : Cm} {S : Sto} (r : Rel K cm ι S H) {p : Addr} (hp : H p = none) {o : HO} {c : Cell} (hc : CellOk K cm (more ι S.length p) (S.length + 1) (upd H p o) p c) :
    Rel K cm (more ι S.length p) (S ++ [c]) (upd H p o) ∧ Step ι S H (more ι S.length p) (S ++ [c]) (upd H p o) := by
  have hl : (S ++ [c]).length = S.length + 1 := by simp
  refine ⟨⟨fun i d e => ?_, fun i j hi hj q => ?_⟩, by rw [hl]; exact Nat.le_succ _, fun m hm => more_lt hm, fun a u e _ => by rw [upd_ne (ne_of_none e hp)]; exact e, fun m a b => ?_⟩
  · rw [hl]
    by_cases hi : i < S.length
    · rw [List.getElem?_append_left hi] at e
      have h := r.cell i d e
      obtain ⟨u, eu, _⟩ := h.there
      rw [more_lt hi]
      exact h.map (by rw [upd_ne (ne_of_none eu hp)]) (fun a vs q => SqN.upd_new hp q) (fun m hm => more_lt hm) (Nat.le_succ _)
    · have hi2 : i = S.length := by
        have := (List.getElem?_eq_some_iff.mp e).1
        rw [hl] at this; omega
      subst hi2
      rw [List.getElem?_append_right (Nat.le_refl _), Nat.sub_self] at e
      cases e
      rw [more_eq]
      exact hc
  · rw [hl] at hi hj
    have fr : ∀ m, m < S.length → ι m ≠ p := fun m hm e => by
      obtain ⟨u, eu, _⟩ := r.there hm
      rw [e, hp] at eu; cases eu
    by_cases h1 : i < S.length
    · by_cases h2 : j < S.length
      · rw [more_lt h1, more_lt h2] at q; exact r.inj i j h1 h2 q
      · have : j = S.length := by omega
        subst this
        rw [more_lt h1, more_eq] at q
        exact absurd q (fr i h1)
    · have : i = S.length := by omega
      subst this
      by_cases h2 : j < S.length
      · rw [more_lt h2, more_eq] at q
        exact absurd q.symm (fr j h2)
      · omega
  · have : m = S.length := by rw [hl] at b; omega
    subst this
    rw [more_eq]; exact hp
/-- the cell at n is changed -/
theorem Rel.put {cm : Cm} {S : Sto} (r : Rel K cm ι S H) {k : Nat} (hk : k < S.length) {o : HO} {c : Cell} (hc : CellOk K cm ι S.length (upd H (ι k) o) (ι k) c) :
    Rel K cm ι (S.set k c) (upd H (ι k) o) ∧ Step ι S H ι (S.set k c) (upd H (ι k) o) := by
  have hl : (S.set k c).length = S.length := by simp
  obtain ⟨u0, e0, n1, n2⟩ := r.there hk
  have ht : ∀ a vs, SqN K H a vs → SqN K (upd H (ι k) o) a vs := fun a vs h => h.upd_at fun ob ws z => by
    rw [e0] at z; cases z
    exact n2 _ _ rfl
  refine ⟨⟨fun i d e => ?_, fun i j hi hj q => r.inj i j (by rw [← hl]; exact hi) (by rw [← hl]; exact hj) q⟩, by rw [hl]; exact Nat.le_refl _, fun _ _ => rfl, fun a u e h => by rw [upd_ne (fun z => h k hk z.symm)]; exact e, fun m a b => ?_⟩
  · rw [hl]
    by_cases hi : i = k
    · subst hi
      rw [List.getElem?_set_self hk] at e
      cases e
      exact hc
    · rw [List.getElem?_set_ne (Ne.symm hi)] at e
      have hi2 : i < S.length := (List.getElem?_eq_some_iff.mp e).1
      exact (r.cell i d e).map (by rw [upd_ne fun z => hi (r.inj i k hi2 hk z)]) ht (fun _ _ => rfl) (Nat.le_refl _)
  · rw [hl] at b
    exact absurd (Nat.lt_of_lt_of_le b a) (Nat.lt_irrefl _)
/-! ### slots -/
def RSl (K : PySem.W.Frag) (ι : Nat → Addr) (n : Nat) (H : Hp) (τ : Sl) (σ : St) : Prop := τ.length = σ.length ∧ ∀ (i : Nat) (iv : IV), τ[i]? = some (some iv) → ∃ v, σ[i]? = some (some v) ∧ RV K ι n H iv v
theorem RSl.step {cm : Cm} {S S' : Sto} {τ : Sl} {σ : St} (h : RSl K ι S.length H τ σ) (r : Rel K cm ι S H) (st : Step ι S H ι' S' H') : RSl K ι' S'.length H' τ σ :=
  ⟨h.1, fun i iv e => by
    obtain ⟨v, q, rv⟩ := h.2 i iv e
    exact ⟨v, q, rv.step r st⟩⟩
theorem RSl.set {τ : Sl} {σ : St} (h : RSl K ι n H τ σ) {iv : IV} {v : V} (i : Nat) (rv : RV K ι n H iv v) : RSl K ι n H (τ.set i (some iv)) (σ.set i (some v)) := by
  refine ⟨by simp [h.1], fun j jv e => ?_⟩
  by_cases hj : i = j
  · subst hj
    by_cases hl : i < τ.length
    · rw [List.getElem?_set_self hl] at e
      cases e
      exact ⟨v, List.getElem?_set_self (by rw [← h.1]; exact hl), rv⟩
    · rw [List.getElem?_eq_none (by simpa using hl)] at e
      cases e
  · rw [List.getElem?_set_ne hj] at e ⊢
    exact h.2 j jv e
theorem RSl.wipe {τ : Sl} {σ : St} (h : RSl K ι n H τ σ) : ∀ vs : List Nat, RSl K ι n H (wipeI τ vs) (L2.wipe σ vs)
  | [] => h
  | v :: vs => by
    have ih := RSl.wipe h vs
    refine ⟨by simp [wipeI, L2.wipe, ih.1], fun j jv e => ?_⟩
    simp only [wipeI, L2.wipe] at e ⊢
    by_cases hj : v = j
    · subst hj
      by_cases hl : v < (wipeI τ vs).length
      · rw [List.getElem?_set_self hl] at e; cases e
      · rw [List.getElem?_eq_none (by simpa using hl)] at e; cases e
    · rw [List.getElem?_set_ne hj] at e ⊢
      exact ih.2 j jv e
end
end Wg
/-! WgD: the readings of evaluation, the operators. -/
namespace Wg
open PySem PySem.Spec PyProof.Rows L2
/-! ### what a result promises -/
section
variable {α β : Type} (K : PySem.W.Frag) (cm : Cm)
/-- RA: how the result's value stands in the heap; W: the wish about exceptions at the slots σ -/
def Out (W : WX) (ι : Nat → Addr) (S : Sto) (H : Hp) (σ : L2.St) (RA : (Nat → Addr) → Sto → Hp → α → β → Prop) (r : Rs α) (Q : β → Hp → Prop) : Prop := match r with
  | .ok a S' => ∀ ι' H' v, Step ι S H ι' S' H' → Rel K cm ι' S' H' → RA ι' S' H' a v → Q v H'
  | .exc c S' => ∀ ι' H', Step ι S H ι' S' H' → Rel K cm ι' S' H' → ∀ C, cm c = some C → W (.ref C) none σ H'
  | .bad => False
def tG (W : WX) (RA : (Nat → Addr) → Sto → Hp → α → β → Prop) (m : Sl → Sto → Rs α) : L2.St → Hp → (β → Hp → Prop) → Prop := fun σ H Q =>
  ∃ ι S τ, Rel K cm ι S H ∧ RSl K ι S.length H τ σ ∧ Out K cm W ι S H σ RA (m τ S) Q
/-- a value; several -/
def RVS : (Nat → Addr) → Sto → Hp → IV → V → Prop := fun ι S H => RV K ι S.length H
def RVSs : (Nat → Addr) → Sto → Hp → List IV → List V → Prop := fun ι S H => RVs K ι S.length H
abbrev tI (W : WX) (m : Sl → Sto → Rs IV) : TE := tG K cm W (RVS K) m
abbrev tIs (W : WX) (m : Sl → Sto → Rs (List IV)) : TA := tG K cm W (RVSs K) m
def RId {α : Type} : (Nat → Addr) → Sto → Hp → α → α → Prop := fun _ _ _ a b => a = b
abbrev tIO (W : WX) (m : Sl → Sto → Rs (Option Int)) : TO := tG K cm W RId m
end
section
variable {α β γ δ : Type} {K : PySem.W.Frag} {cm : Cm} {W : WX} {ι ι1 : Nat → Addr} {S S1 : Sto} {H H1 : Hp} {σ : L2.St} {RA : (Nat → Addr) → Sto → Hp → α → β → Prop} {RC : (Nat → Addr) → Sto → Hp → γ → δ → Prop}
theorem Out.shift {r : Rs α} {Q : β → Hp → Prop} (h : Out K cm W ι S H σ RA r Q) (r1 : Rel K cm ι1 S1 H1) (st : Step ι S H ι1 S1 H1) : Out K cm W ι1 S1 H1 σ RA r Q := by
  cases r with
  | ok a S' => exact fun ι' H' v st' => h ι' H' v (Step.trans r1 st st')
  | exc c S' => exact fun ι' H' st' => h ι' H' (Step.trans r1 st st')
  | bad => exact h
theorem Out.bindR {r : Rs α} {f : α → Sto → Rs γ} {Q : δ → Hp → Prop} {R : β → Hp → Prop} (h : Out K cm W ι S H σ RC (r.bind f) Q)
    (go : ∀ a S1 ι1 H1 v, r = .ok a S1 → Step ι S H ι1 S1 H1 → Rel K cm ι1 S1 H1 → RA ι1 S1 H1 a v → Out K cm W ι1 S1 H1 σ RC (f a S1) Q → R v H1) : Out K cm W ι S H σ RA r R := by
  cases r with
  | ok a S1 => exact fun ι1 H1 v st rl ra => go a S1 ι1 H1 v rfl st rl ra (Out.shift h rl st)
  | exc c S1 => exact h
  | bad => exact h
theorem Out.imp {r : Rs α} {Q Q' : β → Hp → Prop} (h : Out K cm W ι S H σ RA r Q) (g : ∀ v H, Q v H → Q' v H) : Out K cm W ι S H σ RA r Q' := by
  cases r with
  | ok a S1 => exact fun ι1 H1 v st rl ra => g _ _ (h ι1 H1 v st rl ra)
  | exc c S1 => exact h
  | bad => exact h
/-- one after the other -/
theorem tG.bind {m : Sl → Sto → Rs α} {f : Sl → α → Sto → Rs γ} {Q : δ → Hp → Prop} {R : β → Hp → Prop} (h : tG K cm W RC (fun τ S => (m τ S).bind (f τ)) σ H Q)
    (go : ∀ ι1 S1 H1 τ a v, Rel K cm ι1 S1 H1 → RSl K ι1 S1.length H1 τ σ → RA ι1 S1 H1 a v → Out K cm W ι1 S1 H1 σ RC (f τ a S1) Q → R v H1) : tG K cm W RA m σ H R := by
  obtain ⟨ι, S, τ, rl, rs, o⟩ := h
  exact ⟨ι, S, τ, rl, rs, Out.bindR o fun a S1 ι1 H1 v _ st r1 ra o1 => go ι1 S1 H1 τ a v r1 (rs.step rl st) ra o1⟩
end
theorem PE.weak {X : Cx} {e : Expr} {t t' : TE} (h : PE X e t) (g : ∀ σ H Q, t' σ H Q → t σ H Q) : PE X e t' := ⟨fun pins s σ H Q I q => h.run pins s σ H Q I (g σ H Q q)⟩
theorem PT.weak {X : Cx} {e : Expr} {t t' : TT} (h : PT X e t) (g : ∀ σ H Q, t' σ H Q → t σ H Q) : PT X e t' := ⟨fun pins s σ H Q I q => h.run pins s σ H Q I (g σ H Q q)⟩
theorem PA.weak {X : Cx} {e : List Expr} {t t' : TA} (h : PA X e t) (g : ∀ σ H Q, t' σ H Q → t σ H Q) : PA X e t' := ⟨fun pos pins s σ H Q I q => h.run pos pins s σ H Q I (g σ H Q q)⟩
theorem PO.weak {X : Cx} {e : Option Expr} {t t' : TO} (h : PO X e t) (g : ∀ σ H Q, t' σ H Q → t σ H Q) : PO X e t' := ⟨fun pins s σ H Q I q => h.run pins s σ H Q I (g σ H Q q)⟩
theorem PS.weak {X : Cx} {e : Stmt} {t t' : TS} (h : PS X e t) (g : ∀ D σ H, t' D σ H → t D σ H) : PS X e t' := ⟨fun pins s σ H D I q => h.run pins s σ H D I (g D σ H q)⟩
theorem PSs.weak {X : Cx} {e : List Stmt} {t t' : TS} (h : PSs X e t) (g : ∀ D σ H, t' D σ H → t D σ H) : PSs X e t' := ⟨fun pins s σ H D I q => h.run pins s σ H D I (g D σ H q)⟩
/-! ### operators by values -/
section
variable (K : PySem.W.Frag) (cm : Cm)
/-- no exception: the value, or nothing -/
def OutV (ι : Nat → Addr) (S : Sto) (H : Hp) (r : Rs IV) (Q : VK) : Prop := match r with
  | .ok a S' => ∀ ι' H' v, Step ι S H ι' S' H' → Rel K cm ι' S' H' → RV K ι' S'.length H' a v → Q v H'
  | _ => False
def rI2 (f : IV → IV → Sto → Rs IV) : R2 := fun x y H Q => ∃ ι S a b, Rel K cm ι S H ∧ RV K ι S.length H a x ∧ RV K ι S.length H b y ∧ OutV K cm ι S H (f a b S) Q
def rI1 (f : IV → Sto → Rs IV) : V → Hp → VK → Prop := fun x H Q => ∃ ι S a, Rel K cm ι S H ∧ RV K ι S.length H a x ∧ OutV K cm ι S H (f a S) Q
def rIl (f : List IV → Sto → Rs IV) : List V → Hp → VK → Prop := fun xs H Q => ∃ ι S a, Rel K cm ι S H ∧ RVs K ι S.length H a xs ∧ OutV K cm ι S H (f a S) Q
end
section
variable {K : PySem.W.Frag} {cm : Cm} {W : WX} {ι : Nat → Addr} {S : Sto} {H : Hp} {σ : L2.St} {Q : VK}
theorem OutV.of {r : Rs IV} (h : Out K cm W ι S H σ (RVS K) r Q) (n : ∀ c S', r ≠ .exc c S') : OutV K cm ι S H r Q := by
  cases r with
  | ok a S1 => exact h
  | exc c S1 => exact absurd rfl (n c S1)
  | bad => exact h
/-- the value as it stands -/
theorem OutV.here {a : IV} {v : V} (h : OutV K cm ι S H (.ok a S) Q) (r : Rel K cm ι S H) (rv : RV K ι S.length H a v) : Q v H := h ι H v Step.refl r rv
/-- a tuple just laid -/
theorem OutV.tup {xs : List IV} {vs : List V} (h : OutV K cm ι S H (.ok (.tup xs) S) Q) (r : Rel K cm ι S H) (rv : RVs K ι S.length H xs vs) : ∀ (p : Addr) (o : Obj), H p = none → o.dict = none → Q (.ref p) (upd H p (.frz o (.tup vs))) := fun p o hp hd => by
  obtain ⟨r1, st⟩ := r.upd_new (o := .frz o (.tup vs)) hp
  refine h ι _ _ st r1 ?_
  simp only [RV]
  exact ⟨p, vs, rfl, .inl ⟨o, hd, upd_same⟩, rv.step r st⟩
/-- a list just laid -/
theorem OutV.lst {xs : List IV} {vs : List V} (h : OutV K cm ι S H (alloc (.lst xs) S) Q) (r : Rel K cm ι S H) (rv : RVs K ι S.length H xs vs) : ∀ p, H p = none → Q (.ref p) (upd H p (.lst vs)) := fun p hp => by
  have rv2 : RVs K (more ι S.length p) (S.length + 1) (upd H p (.lst vs)) xs vs := rv.map (fun a vs q => SqN.upd_new hp q) (fun m hm => more_lt hm) (Nat.le_succ _)
  obtain ⟨r1, st⟩ := r.add (o := .lst vs) (c := .lst xs) hp ⟨vs, upd_same, rv2⟩
  refine h _ _ _ st r1 ?_
  simp only [RV]
  exact ⟨by simp, by rw [more_eq]⟩
/-- the items of a list or tuple that is read -/
theorem items_okN {a : IV} {x : V} {xs : List IV} (r : Rel K cm ι S H) (rv : RV K ι S.length H a x) (e : itemsI a S = some xs) : ∃ p vs, x = .ref p ∧ (SqL K H p vs ∨ SqN K H p vs) ∧ RVs K ι S.length H xs vs := by
  cases a with
  | tup ys =>
    simp only [itemsI, Option.some.injEq] at e
    subst e
    simp only [RV] at rv
    obtain ⟨p, vs, e1, e2, e3⟩ := rv
    exact ⟨p, vs, e1, .inr e2, e3⟩
  | ref k =>
    simp only [RV] at rv
    obtain ⟨hk, rfl⟩ := rv
    simp only [itemsI] at e
    cases q : S[k]? with
    | none => rw [q] at e; cases e
    | some c =>
      rw [q] at e
      have hc := r.cell k c q
      cases c with
      | lst ys => cases e; obtain ⟨vs, e1, e2⟩ := hc; exact ⟨_, vs, rfl, .inl (.inl (.inl e1)), e2⟩
      | frz ys => cases e; obtain ⟨o, vs, e1, e2⟩ := hc; exact ⟨_, vs, rfl, .inl (.inl (.inr ⟨o, e1⟩)), e2⟩
      | dct kvs => cases e
      | ins c fs => cases e
  | non => cases e
  | bl b => cases e
  | int i => cases e
  | str z => cases e
  | cls z => cases e
theorem items_ok {a : IV} {x : V} {xs : List IV} (r : Rel K cm ι S H) (rv : RV K ι S.length H a x) (e : itemsI a S = some xs) : ∃ p vs, x = .ref p ∧ (SqL K H p vs ∨ SqT K H p vs) ∧ RVs K ι S.length H xs vs := by
  obtain ⟨p, vs, h1, h2, h3⟩ := items_okN r rv e
  exact ⟨p, vs, h1, h2.imp id SqN.toT, h3⟩
theorem lst_ok {k : Nat} {x : V} {xs : List IV} (r : Rel K cm ι S H) (rv : RV K ι S.length H (.ref k) x) (e : S[k]? = some (.lst xs)) : ∃ vs, x = .ref (ι k) ∧ H (ι k) = some (.lst vs) ∧ RVs K ι S.length H xs vs := by
  simp only [RV] at rv
  obtain ⟨hk, rfl⟩ := rv
  obtain ⟨vs, e1, e2⟩ := r.cell k _ e
  exact ⟨vs, rfl, e1, e2⟩
end
def bOp : Bop → Operator
  | .add => .Add
  | .sub => .Sub
  | .mul => .Mult
  | .fdiv => .FloorDiv
  | .mod => .Mod
  | .pow => .Pow
theorem sz_le {n : Nat} (h : szOk n = true) : n ≤ sizeLine := by
  have : n ≤ 16777216 := by simpa [szOk] using h
  rw [sizeLine_eq]; omega
section
variable {X : Cx} {cm : Cm}
theorem op_fdivA : OpR X (binaryOp .FloorDiv) (rI (fun _ j => j ≠ 0 ∧ j.natAbs.log2 < 9000) fun i j => .int (i.fdiv j)) :=
  opI fun i j _ _ _ _ _ hc q => floordiv_int hc.1 q (.inl (PyProof.noPylong_of_log2 hc.2))
theorem RVs.rep {K : PySem.W.Frag} {ι : Nat → Addr} {n : Nat} {H : Hp} {xs : List IV} {vs : List V} (h : RVs K ι n H xs vs) : ∀ k : Nat, RVs K ι n H (repL xs k) (List.replicate k vs).flatten
  | 0 => .nil
  | k + 1 => by
    unfold repL
    rw [List.replicate_succ, List.replicate_succ, List.flatten_cons, List.flatten_cons]
    exact h.append (RVs.rep h k)
set_option maxRecDepth 100000 in
set_option maxHeartbeats 4000000 in
theorem tuple_mul1 (l : Addr) (items : Array Value) (n : Nat) (dd : Option Addr) (sl : Array (Option Value)) (u : Tok) :
    Meets (Builtin.«tuple.__mul__» ⟨[.ref l, .int 1 u], []⟩) (fun _ R s => s.heap.get? l = some { cls := .type "tuple", dict := dd, data := .seq items n, slots := sl } ∧ R (.ok (.ret (Value.ref l))) s) :=
  .of_wp fun prog w A R s h => by
    obtain ⟨hp, g, d, tk, os⟩ := s
    obtain ⟨hl, h⟩ := h
    have f1 := AutoSeq1.idx_int
    wp_walk using wpAny_loadPart' hl
    exact ⟨_, rfl, h⟩
def rRep1 (K : PySem.W.Frag) : R2 := fun x y H Q => ∃ l xs, x = .ref l ∧ y = .int 1 ∧ SqT K H l xs ∧ Q (.ref l) H
theorem op_rep1 : OpR X (binaryOp .Mult) (rRep1 X.K) := by
  intro pins s σ H x y v u Q I rx ry h
  obtain ⟨l, xs, rfl, rfl, hT, q⟩ := h
  cases rx
  obtain ⟨t, rfl⟩ := ry
  obtain ⟨its, r, ⟨⟨cls, dd, data, sl⟩, ho, hc, n, hd⟩, hs⟩ := I.tuple hT
  simp only at hc hd
  subst hc hd
  refine wpAny_binaryOp_repeat_ref (T := "tuple") (U := "int") (by decide) ⟨_, ho, rfl⟩ (fun s' => typeIs_int s' 1 t) noFill_tuple_mul F.fills_int_mul F.slot_int_rmul repeat_tuple F.slot_int_index.lookup
    (call_meets F.slot_int_rmul (typeIs_int s 1 t) F.entry_int_rmul (F.args_int_rmul_2 _ _) (int_rmul_tuple 1 t l its.toArray n dd sl)
      ⟨ho, rfl, ⟨_, ho, rfl⟩, call_meets F.slot_tuple_mul ⟨_, ho, rfl⟩ F.entry_tuple_mul (F.args_tuple_mul_2 _ _) (tuple_mul1 l its.toArray n dd sl t) ⟨ho, ?_⟩⟩)
  exact ⟨.ref l, H, I, rfl, q⟩
/-- a tuple's new object, seen whole -/
def tObj (us : List Value) : Obj := { cls := .type "tuple", data := .seq us.toArray }
theorem tNew {pins : List (Addr × Obj)} {σ : L2.St} {H : Hp} {s : Shared} {us : List Value} {vs : List V} (I : L2.Inv X pins σ H s) (r : Vals vs us) (hz : vs.length ≤ sizeLine) :
    L2.Inv X pins σ (upd H s.heap.objs.size (.frz (tObj us) (.tup vs))) { s with heap := s.heap.push (tObj us) } ∧ H s.heap.objs.size = none := by
  have hg : (s.heap.push (tObj us)).get? s.heap.objs.size = some (tObj us) := Heap.get?_push_size _ rfl
  refine ⟨I.laid (t' := s.toks) (fun b ob q => Heap.get?_push_of_some _ q) (Nat.le_refl _) ⟨hg, hz, us, r, ⟨_, hg, rfl, _, rfl⟩⟩, I.hok.fresh (Nat.le_refl _)⟩
def rCatN (K : PySem.W.Frag) : R2 := fun x y H Q => ∃ a b xs ys, x = .ref a ∧ y = .ref b ∧ SqT K H a xs ∧ SqT K H b ys ∧ xs.length + ys.length ≤ sizeLine ∧
  (xs = [] → Q (.ref b) H) ∧ (xs ≠ [] → ys = [] → Q (.ref a) H) ∧ ∀ (p : Addr) (o : Obj), H p = none → o.dict = none → Q (.ref p) (upd H p (.frz o (.tup (xs ++ ys))))
theorem op_catN : OpR X (binaryOp .Add) (rCatN X.K) := by
  intro pins s σ H x y v u Q I rx ry ⟨a, b, xs, ys, ex, ey, ha, hb, hz, q0, q1, q2⟩
  subst ex ey
  cases rx; cases ry
  obtain ⟨its, w1, p1, _⟩ := I.tuple ha
  obtain ⟨its2, w2, p2, _⟩ := I.tuple hb
  by_cases hx : xs = []
  · subst hx
    cases w1
    exact cat_tup0 p1 p2 ⟨.ref b, H, I, rfl, q0 rfl⟩
  · refine HT.cat_tup p1 p2 (fun z => hx (w1.nil_iff.mp z)) (fun z => ⟨.ref a, H, I, rfl, q1 hx (w2.nil_iff.mp z)⟩) (fun z => ?_) (by rw [← w1.length, ← w2.length]; exact hz)
    obtain ⟨I2, hf⟩ := tNew I (w1.append w2) (by rw [List.length_append]; exact hz)
    exact ⟨.ref _, _, I2, rfl, q2 _ _ hf rfl⟩
def rRepN (K : PySem.W.Frag) : R2 := fun x y H Q => ∃ l k xs, x = .ref l ∧ y = .int k ∧ SqT K H l xs ∧ xs ≠ [] ∧ 2 ≤ k ∧ k ≤ 1000 ∧ xs.length ≤ 1000 ∧
  ∀ (p : Addr) (o : Obj), H p = none → o.dict = none → Q (.ref p) (upd H p (.frz o (.tup (List.replicate k.toNat xs).flatten)))
theorem op_repN : OpR X (binaryOp .Mult) (rRepN X.K) := by
  intro pins s σ H x y v u Q I rx ry ⟨l, k, xs, ex, ey, hT, hne, k1, k2, hz, q⟩
  subst ex ey
  cases rx
  obtain ⟨t, rfl⟩ := ry
  obtain ⟨its, w, ⟨⟨cls, dd, data, sl⟩, ho, hc, n, hd⟩, hs⟩ := I.tuple hT
  simp only at hc hd
  subst hc hd
  have hle := w.length
  have ie : its.toArray.isEmpty = false := by
    cases its with
    | nil => exact absurd (List.eq_nil_of_length_eq_zero hle) hne
    | cons a b => rfl
  have kp : k.toNat * xs.length ≤ 1000 * 1000 := Nat.mul_le_mul (by omega) hz
  have fl : (List.replicate k.toNat its).flatten.length ≤ sizeLine := by rw [PyProof.Rows.lm_len_rep_flat, ← hle, sizeLine_eq]; omega
  have sz : ((its.toArray.size : Nat) : Int) * k ≤ 1000000 := by
    rw [List.size_toArray, ← hle]
    have : ((xs.length : Nat) : Int) * k ≤ 1000 * k := Int.mul_le_mul_of_nonneg_right (by omega) (by omega)
    omega
  have d0 : (decide (k < -(2 ^ 63)) || decide (k ≥ 2 ^ 63)) = false := by simp only [Bool.or_eq_false_iff, decide_eq_false_iff_not]; omega
  have d1 : (its.toArray.isEmpty || k == 1) = false := by rw [ie]; exact beq_eq_false_iff_ne.mpr (by omega)
  have d2 : (decide (k ≤ 0) || its.toArray.isEmpty) = false := by rw [ie, Bool.or_false]; exact decide_eq_false (by omega)
  have d4 : Builtin.Tuple.tupleTooMany (((its.toArray.size : Nat) : Int) * k) = false := by
    unfold Builtin.Tuple.tupleTooMany
    rw [sizeLine_eq]; exact decide_eq_false (by omega)
  have mw := tuple_mulW l its.toArray n dd sl k t d0 d1 d2 (by omega) d4 (by rw [size_rep, List.size_toArray]; exact fl)
  refine wpAny_binaryOp_repeat_ref (T := "tuple") (U := "int") (by decide) ⟨_, ho, rfl⟩ (fun s' => typeIs_int s' k t) noFill_tuple_mul F.fills_int_mul F.slot_int_rmul repeat_tuple F.slot_int_index.lookup
    (call_meets F.slot_int_rmul (typeIs_int s k t) F.entry_int_rmul (F.args_int_rmul_2 _ _) (int_rmul_tuple k t l its.toArray n dd sl)
      ⟨ho, rfl, ⟨_, ho, rfl⟩, call_meets F.slot_tuple_mul ⟨_, ho, rfl⟩ F.entry_tuple_mul (F.args_tuple_mul_2 _ _) mw ⟨ho, ?_⟩⟩)
  rw [size_rep]
  obtain ⟨I2, hf⟩ := tNew I (w.rep k.toNat) (by rw [PyProof.Rows.lm_len_rep_flat, sizeLine_eq]; omega)
  exact ⟨.ref _, _, I2, rfl, q _ _ hf rfl⟩
/-- all binary operators -/
theorem op_bin (o : Bop) : OpR X (binaryOp (bOp o)) (rI2 X.K cm (binI o)) := by
  intro pins s σ H x y v u Q I rx ry h
  obtain ⟨ι, S, a, b, rl, ra, rb, q⟩ := h
  unfold binI at q
  split at q
  · simp only [RV] at ra rb; subst ra rb
    exact op_add pins s σ H _ _ v u Q I rx ry ⟨_, _, rfl, rfl, q.here rl (by simp only [RV])⟩
  · simp only [RV] at ra rb; subst ra rb
    exact op_sub pins s σ H _ _ v u Q I rx ry ⟨_, _, rfl, rfl, q.here rl (by simp only [RV])⟩
  · simp only [RV] at ra rb; subst ra rb
    split at q
    · rename_i hm
      simp only [mulOk, Bool.or_eq_true, decide_eq_true_eq] at hm
      rcases hm with (hm | hm) | hm
      · exact op_mulW pins s σ H _ _ v u Q I rx ry ⟨_, _, rfl, rfl, by simpa [CMulW] using hm, q.here rl (by simp only [RV])⟩
      · exact op_mul pins s σ H _ _ v u Q I rx ry ⟨_, _, rfl, rfl, .inl ⟨by omega, by omega⟩, q.here rl (by simp only [RV])⟩
      · exact op_mul pins s σ H _ _ v u Q I rx ry ⟨_, _, rfl, rfl, .inr ⟨by omega, by omega⟩, q.here rl (by simp only [RV])⟩
    · exact q.elim
  · simp only [RV] at ra rb; subst ra rb
    split at q
    · rename_i hm
      exact op_fdivA pins s σ H _ _ v u Q I rx ry ⟨_, _, rfl, rfl, by simpa [divOk] using hm, q.here rl (by simp only [RV])⟩
    · exact q.elim
  · simp only [RV] at ra rb; subst ra rb
    split at q
    · exact q.elim
    · rename_i hm
      exact op_modN pins s σ H _ _ v u Q I rx ry ⟨_, _, rfl, rfl, hm, q.here rl (by simp only [RV])⟩
  · simp only [RV] at ra rb; subst ra rb
    split at q
    · rename_i hm
      exact op_pow pins s σ H _ _ v u Q I rx ry ⟨_, _, rfl, rfl, by simpa [powOk, CPow, and_assoc] using hm, q.here rl (by simp only [RV])⟩
    · exact q.elim
  · simp only [RV] at ra rb; subst ra rb
    split at q
    · rename_i hm
      exact op_add_str pins s σ H _ _ v u Q I rx ry ⟨_, _, rfl, rfl, sz_le hm, q.here rl (by simp only [RV])⟩
    · exact q.elim
  · simp only [RV] at ra rb
    obtain ⟨p, vs, rfl, h1, h2⟩ := ra
    obtain ⟨p', ws, rfl, h3, h4⟩ := rb
    split at q
    · rename_i x1 y1 hm
      refine op_catN pins s σ H _ _ v u Q I rx ry ⟨_, _, vs, ws, rfl, rfl, h1.toT, h3.toT, by rw [h2.length, h4.length]; exact sz_le hm, fun e => ?_, fun e e' => ?_, q.tup rl (h2.append h4)⟩
      · have : x1 = [] := List.length_eq_zero_iff.mp (by rw [← h2.length, e]; rfl)
        subst this
        exact q.here rl (by simp only [RV, List.nil_append]; exact ⟨_, _, rfl, h3, h4⟩)
      · have : y1 = [] := List.length_eq_zero_iff.mp (by rw [← h4.length, e']; rfl)
        subst this
        exact q.here rl (by simp only [RV, List.append_nil]; exact ⟨_, _, rfl, h1, h2⟩)
    · exact q.elim
  · split at q
    · rename_i m n x1 y1 e1 e2
      obtain ⟨vs, rfl, h1, h2⟩ := lst_ok rl ra e1
      obtain ⟨ws, rfl, h3, h4⟩ := lst_ok rl rb e2
      split at q
      · rename_i hm
        exact op_cat pins s σ H _ _ v u Q I rx ry ⟨_, _, vs, ws, rfl, rfl, h1, h3, by rw [h2.length, h4.length]; exact sz_le hm, q.lst rl (h2.append h4)⟩
      · exact q.elim
    · exact q.elim
  · split at q
    · rename_i m j x1 e1
      obtain ⟨vs, rfl, h1, h2⟩ := lst_ok rl ra e1
      simp only [RV] at rb; subst rb
      split at q
      · rename_i hm
        simp only [Bool.and_eq_true, decide_eq_true_eq] at hm
        obtain ⟨⟨hm1, hm2⟩, hm3⟩ := hm
        exact op_rep pins s σ H _ _ v u Q I rx ry ⟨_, _, vs, rfl, rfl, h1, by omega, by omega, by rw [h2.length]; exact sz_le hm3, q.lst rl (h2.rep _)⟩
      · exact q.elim
    · exact q.elim
  · rename_i xs j
    split at q
    · rename_i hm
      simp only [Bool.and_eq_true, decide_eq_true_eq, Bool.not_eq_true'] at hm
      obtain ⟨⟨⟨hm1, hm2⟩, hm3⟩, hm4⟩ := hm
      simp only [RV] at ra rb
      subst rb
      obtain ⟨p, vs, rfl, h1, h2⟩ := ra
      by_cases hj : j = 1
      · subst hj
        refine op_rep1 pins s σ H _ _ v u Q I rx ry ⟨p, vs, rfl, rfl, h1.toT, q.here rl ?_⟩
        have : repL xs (1 : Int).toNat = xs := by simp [repL]
        rw [this]
        simp only [RV]
        exact ⟨p, vs, rfl, h1, h2⟩
      · refine op_repN pins s σ H _ _ v u Q I rx ry ⟨p, j, vs, rfl, rfl, h1.toT, fun e => ?_, by omega, hm2, by rw [h2.length]; exact hm3, q.tup rl (h2.rep _)⟩
        have := h2.length
        rw [e] at this
        cases xs with
        | nil => simp at hm4
        | cons => simp at this
    · exact q.elim
  · exact q.elim
theorem op_neg : UnR X (unaryOp .USub) (rI1 X.K cm negI) := by
  intro pins s σ H x v Q I rx h
  obtain ⟨ι, S, a, rl, ra, q⟩ := h
  unfold negI at q
  split at q
  · simp only [RV] at ra; subst ra
    exact un_neg pins s σ H _ v Q I rx ⟨_, rfl, q.here rl (by simp only [RV])⟩
  · exact q.elim
end
end Wg
/-! WgE: data that is read whole; comparisons, subscripts, built-ins by values. -/
namespace Wg
open PySem PySem.Spec PyProof.Rows L2
/-! ### a value as data of the heap -/
section
variable {X : Cx} {cm : Cm} {pins : List (Addr × Obj)} {σ : L2.St} {H : Hp} {s : Shared} {ι : Nat → Addr} {S : Sto}
/-- what a reference gives -/
def RefOk (s : Shared) (ι : Nat → Addr) (n : Nat) (r : Nat → Option PyData) : Prop := ∀ k d, k < n → r k = some d → ∃ as, Reads s.heap (.ref (ι k)) d as ∧ (hasL d = false → sysModules ∉ as)
mutual
theorem goD_reads (I : Inv X pins σ H s) {r : Nat → Option PyData} (hr : RefOk s ι S.length r) : ∀ (a : IV) (x : V) (u : Value) (d : PyData), RV X.K ι S.length H a x → RelV x u → goD r a = some d → ∃ as, Reads s.heap u d as ∧ (hasL d = false → sysModules ∉ as)
  | .non, x, u, d, h, q, e => by
    simp only [RV] at h; subst h; simp only [goD, Option.some.injEq] at e; subst e
    cases (show u = Value.none from q)
    exact ⟨_, Reads.none, by simp⟩
  | .bl b, x, u, d, h, q, e => by
    simp only [RV] at h; subst h; simp only [goD, Option.some.injEq] at e; subst e
    cases (show u = Value.bool b from q)
    exact ⟨_, Reads.bool b, by simp⟩
  | .int i, x, u, d, h, q, e => by
    simp only [RV] at h; subst h; simp only [goD, Option.some.injEq] at e; subst e
    obtain ⟨t, rfl⟩ := (show ∃ t, u = Value.int i t from q)
    exact ⟨_, Reads.int i t, by simp⟩
  | .str z, x, u, d, h, q, e => by
    simp only [RV] at h; subst h; simp only [goD, Option.some.injEq] at e; subst e
    obtain ⟨t, rfl⟩ := (show ∃ t, u = Value.str z t from q)
    exact ⟨_, Reads.str z t, by simp⟩
  | .tup xs, x, u, d, h, q, e => by
    simp only [RV] at h
    obtain ⟨p, vs, rfl, h1, h2⟩ := h
    cases (show u = Value.ref p from q)
    simp only [goD] at e
    cases q2 : goDs r xs with
    | none => rw [q2] at e; cases e
    | some ds =>
      rw [q2] at e; cases e
      obtain ⟨its, rv, ⟨o, ho, hc, n, hd⟩, _⟩ := I.tuple h1.toT
      obtain ⟨as, hr2, hn⟩ := goDs_reads I hr xs vs its ds h2 rv q2
      exact ⟨as, Reads.tuple ho hc hd hr2, fun z => hn (by simpa only [hasL] using z)⟩
  | .cls k, x, u, d, h, q, e => by simp [goD] at e
  | .ref k, x, u, d, h, q, e => by
    simp only [RV] at h
    obtain ⟨hk, rfl⟩ := h
    cases (show u = Value.ref (ι k) from q)
    exact hr k d hk (by simpa only [goD] using e)
theorem goDs_reads (I : Inv X pins σ H s) {r : Nat → Option PyData} (hr : RefOk s ι S.length r) : ∀ (xs : List IV) (vs : List V) (us : List Value) (ds : List PyData), RVs X.K ι S.length H xs vs → Vals vs us → goDs r xs = some ds → ∃ as, ReadsAll s.heap us ds as ∧ (hasLs ds = false → sysModules ∉ as)
  | [], vs, us, ds, h, q, e => by
    simp only [RVs] at h; subst h
    cases q
    simp only [goDs, Option.some.injEq] at e; subst e
    exact ⟨_, ReadsAll.nil, by simp⟩
  | x :: xs, vs, us, ds, h, q, e => by
    obtain ⟨v, w, rfl, h1, h2⟩ := h.uncons
    cases q with
    | cons q1 q2 =>
      simp only [goDs] at e
      cases e1 : goD r x with
      | none => rw [e1] at e; cases e
      | some d =>
        rw [e1] at e
        cases e2 : goDs r xs with
        | none => rw [e2] at e; cases e
        | some es =>
          rw [e2] at e; cases e
          obtain ⟨as, r1, n1⟩ := goD_reads I hr x v _ d h1 q1 e1
          obtain ⟨bs, r2, n2⟩ := goDs_reads I hr xs w _ es h2 q2 e2
          refine ⟨_, ReadsAll.cons r1 r2, fun z => ?_⟩
          simp only [hasLs, Bool.or_eq_false_iff] at z
          rw [List.mem_append]; exact fun y => y.elim (n1 z.1) (n2 z.2)
end
theorem keys_reads {P : Program} {w : World} {h : Heap} : ∀ {es : List DictEntry} {ps : List (Key × Value)}, Pairs (mixKind P w) es ps → ReadsAll h (es.map (·.key)) (ps.map fun p => kD p.1) [] ∧ es.map (·.val) = ps.map (·.2)
  | [], [], .nil => ⟨ReadsAll.nil, rfl⟩
  | e :: es, p :: ps, .cons h1 h2 h3 => by
    obtain ⟨r, q⟩ := keys_reads (h := h) h3
    refine ⟨?_, by simp [h2, q]⟩
    rcases keyIs_shape (k := p.1) (v := e.key) h1 with ⟨i, t, e1, e2⟩ | ⟨x, t, e1, e2⟩
    · simp only [List.map_cons, e1, e2, kD]
      exact ReadsAll.cons (as := []) (bs := []) (Reads.int i t) r
    · simp only [List.map_cons, e1, e2, kD]
      exact ReadsAll.cons (as := []) (bs := []) (Reads.str x t) r
theorem kv_vals : ∀ {kvs : List (Key × V)} {ws : List (Key × Value)}, KV kvs ws → Vals (kvs.map (·.2)) (ws.map (·.2)) ∧ ws.map (·.1) = kvs.map (·.1)
  | [], [], .nil => ⟨.nil, rfl⟩
  | p :: kvs, q :: ws, .cons h t => by
    obtain ⟨a, b⟩ := kv_vals t
    exact ⟨.cons h.2 a, by simp [h.1, b]⟩
theorem zip_two {α β : Type} : ∀ (a : List α) (b : List β), a.length = b.length → (a.zip b).map (·.1) = a ∧ (a.zip b).map (·.2) = b
  | [], [], _ => ⟨rfl, rfl⟩
  | x :: a, y :: b, h => by
    obtain ⟨h1, h2⟩ := zip_two a b (by simpa using h)
    exact ⟨by simp [h1], by simp [h2]⟩
theorem goDs_length {r : Nat → Option PyData} : ∀ {xs : List IV} {ds : List PyData}, goDs r xs = some ds → ds.length = xs.length
  | [], ds, e => by simp only [goDs, Option.some.injEq] at e; subst e; rfl
  | x :: xs, ds, e => by
    simp only [goDs] at e
    cases e1 : goD r x with
    | none => rw [e1] at e; cases e
    | some d =>
      rw [e1] at e
      cases e2 : goDs r xs with
      | none => rw [e2] at e; cases e
      | some es => rw [e2] at e; cases e; simp [goDs_length e2]
theorem hasLk_eq : ∀ kvs : List (PyData × PyData), hasLk kvs = hasLs (kvs.map (·.2))
  | [] => rfl
  | (k, v) :: r => by simp only [hasLk, List.map_cons, hasLs, hasLk_eq r]
theorem refs_ok (I : Inv X pins σ H s) (rl : Rel X.K cm ι S H) : ∀ d : Nat, RefOk s ι S.length (refs d S)
  | 0 => fun k e _ q => by simp [refs] at q
  | d + 1 => fun k e hk q => by
    have ih := refs_ok I rl d
    simp only [refs, refD] at q
    split at q
    · rename_i xs hc
      obtain ⟨vs, e1, e2⟩ := rl.cell k _ hc
      cases q2 : goDs (refs d S) xs with
      | none => rw [q2] at q; cases q
      | some ds =>
        rw [q2] at q; cases q
        obtain ⟨its, rv, ⟨o, n, ho, hcl, _, hd⟩, _⟩ := I.list (.inl (.inl e1))
        obtain ⟨as, hr2, hn⟩ := goDs_reads I ih xs vs its ds e2 rv q2
        exact ⟨_, Reads.list ho hcl hd hr2, fun z => by simp [hasL] at z⟩
    · rename_i xs hc
      obtain ⟨ob, vs, e1, e2⟩ := rl.cell k _ hc
      cases q2 : goDs (refs d S) xs with
      | none => rw [q2] at q; cases q
      | some ds =>
        rw [q2] at q; cases q
        obtain ⟨its, rv, ⟨o, n, ho, hcl, _, hd⟩, _⟩ := I.list (.inl (.inr ⟨ob, e1⟩))
        obtain ⟨as, hr2, hn⟩ := goDs_reads I ih xs vs its ds e2 rv q2
        exact ⟨_, Reads.list ho hcl hd hr2, fun z => by simp [hasL] at z⟩
    · rename_i kvs hc
      obtain ⟨ps, e1, ek, e2⟩ := rl.cell k _ hc
      cases q2 : goDs (refs d S) (kvs.map (·.2)) with
      | none => rw [q2] at q; cases q
      | some ds =>
        rw [q2] at q; cases q
        obtain ⟨_, ns, ws, kv, o, es, ep, ho, hx, hd, _, hp, _⟩ := (show ObjOk X.prog X.w H s.heap (ι k) (.dK ps) from I.hok _ _ e1)
        obtain ⟨vv, kk⟩ := kv_vals kv
        obtain ⟨kr, vr⟩ := keys_reads (h := s.heap) hp
        obtain ⟨bs, hr2, hn⟩ := goDs_reads I ih _ _ _ ds e2 vv q2
        have el : (kvs.map fun p => kD p.1).length = ds.length := by rw [goDs_length q2]; simp
        obtain ⟨z1, z2⟩ := zip_two _ _ el
        have ke : ws.map (fun p => kD p.1) = kvs.map fun p => kD p.1 := by
          have : ws.map (fun p => kD p.1) = (ws.map (·.1)).map kD := by simp
          rw [this, kk, ek]; simp
        refine ⟨_, Reads.dict (as := []) (bs := bs) ho hx.1 hd (by rw [z1, ← ke]; exact kr) (by rw [z2, vr]; exact hr2), fun z => ?_⟩
        simp only [hasL, hasLk_eq] at z
        rw [z2] at z
        simp only [List.append_nil, List.mem_append, List.mem_cons, not_or, List.cons_append]
        exact ⟨fun y => by rw [← y] at ns; simp at ns, by simpa using hn z⟩
    · cases q
theorem toD_reads (I : Inv X pins σ H s) (rl : Rel X.K cm ι S H) {a : IV} {x : V} {u : Value} {d : PyData} (rv : RV X.K ι S.length H a x) (r : RelV x u) (e : toD S a = some d) : ∃ as, Reads s.heap u d as ∧ (hasL d = false → sysModules ∉ as) :=
  goD_reads I (refs_ok I rl 6) a x u d rv r e
end
end Wg
/-! WgEq: an instance of a class without __eq__ against a text. -/
namespace HT
open PySem PySem.Spec PyProof.Rows PySem.SeqAt HN
theorem str_eq_inst (b : Str) (u : Tok) (l : Addr) (C dx : Addr) :
    Meets (Builtin.«str.__eq__» ⟨[.str b u, .ref l], []⟩) (fun _ R s => s.heap.get? l = some (PySem.W.instObj C dx) ∧ R (.ok (.ret .notImplemented)) s) :=
  .of_wp fun prog w A R s h => by obtain ⟨hp, g, d, tk, os⟩ := s; obtain ⟨hl, h⟩ := h; wp_walk using wpAny_loadPart' hl, wpAny_load hl; exact ⟨_, rfl, h⟩
theorem str_ne_inst (b : Str) (u : Tok) (l : Addr) (C dx : Addr) :
    Meets (Builtin.«str.__ne__» ⟨[.str b u, .ref l], []⟩) (fun _ R s => s.heap.get? l = some (PySem.W.instObj C dx) ∧ R (.ok (.ret .notImplemented)) s) :=
  .of_wp fun prog w A R s h => by obtain ⟨hp, g, d, tk, os⟩ := s; obtain ⟨hl, h⟩ := h; wp_walk using wpAny_loadPart' hl, wpAny_load hl; exact ⟨_, rfl, h⟩
section
variable {M : Model} {prog : Program} {w : World} {A : Around} {E : Value → Shared → Prop} {s : Shared} {K : PySem.W.Frag} {x C dx : Addr} {od : Option Obj} {b : Str} {u : Tok}
theorem isSame_str {R : Bool → Shared → Prop} (h : R false s) : wpAny M A (isSame (.ref x) (.str b u)) R E s := wpAny_of_eq (rfl : isSame (.ref x) (.str b u) = pure false) h
theorem entry_str {Q : Fin → Shared → Prop} (hq : Q (.done (.ret .notImplemented)) s) : wpAny M A (Builtin.«object.__eq__» ⟨[.ref x, .str b u], []⟩) Q E s := by
  unfold Builtin.«object.__eq__»
  repeat (first | with_reducible refine isSame_str ?_ | wp_step)
  exact hq
theorem call_str {Q : Value → Shared → Prop} (X : K.In s.heap) (I : PySem.W.InstAt s.heap x (PySem.W.instObj C dx) C od) (hm : PySem.W.mroIn K C (.type "object") = some true) (hq : Q .notImplemented s) :
    wpAny (model prog w) A (call (.builtin "object.__eq__") [.ref x, .str b u]) Q E s :=
  wpAny_call (codeAny_call_builtin F.cmp_object.eq.plain F.cmpEntry_eq (PySem.W.check_slot F.cmpKind_eq F.cmpSplit_eq (I.type.andThen (PySem.W.looks_mroIn X hm)) (F.cmpArgs_eq _ _) (entry_str hq)))
theorem ifBound_ne {args : List Value} {Q : Option Value → Shared → Prop} (X : K.In s.heap) (I : PySem.W.InstAt s.heap x (PySem.W.instObj C dx) C od) (hs : PySem.W.findIn K (.ref C) "__ne__" = some (some (.builtin "object.__ne__")))
    (h : wpAny M A (call (.builtin "object.__ne__") (.ref x :: args)) (fun v => Q (some v)) E s) : wpAny M A (callSpecialIfBound? (.ref x) "__ne__" args) Q E s := by
  simp only [callSpecialIfBound?, bindSpecialIfBound?]
  refine wpAny_holding (wpAny_bind (wpAny_bind (wpAny_bind (I.type.here ((PySem.W.looks_findIn X hs).here ?_)))))
  refine wpAny_bind (wpAny_askSetting (wpAny_ite ?_))
  have fin : wpAny M A (call (.builtin "object.__ne__") ([.ref x] ++ args) >>= fun v => pure (some v)) Q E s := wpAny_bind (wpAny_mono h (fun v s' h' => wpAny_pure h') fun _ _ h' => h')
  split
  · exact wpAny_bind (wpAny_of_eq (F.cmp_object.ne.bind _) (wpAny_pure (by exact fin)))
  · exact wpAny_tryCatch (wpAny_bind (wpAny_of_eq (F.cmp_object.ne.bind _) (wpAny_pure (by exact fin))))
theorem special_str {Q : Option Value → Shared → Prop} (X : K.In s.heap) (I : PySem.W.InstAt s.heap x (PySem.W.instObj C dx) C od) (hm : PySem.W.mroIn K C (.type "object") = some true) (hs : PySem.W.findIn K (.ref C) "__eq__" = some (some (.builtin "object.__eq__"))) (hq : Q (some .notImplemented) s) :
    wpAny (model prog w) A (callSpecialIfBound? (.ref x) "__eq__" [.str b u]) Q E s := ifBound_objEq X I hs (call_str X I hm hq)
theorem entryN_str (hu : A.units < cLine) {Q : Fin → Shared → Prop} (X : K.In s.heap) (I : PySem.W.InstAt s.heap x (PySem.W.instObj C dx) C od) (hm : PySem.W.mroIn K C (.type "object") = some true) (hs : PySem.W.findIn K (.ref C) "__eq__" = some (some (.builtin "object.__eq__"))) (hq : Q (.done (.ret .notImplemented)) s) : wpAny (model prog w) A (Builtin.«object.__ne__» ⟨[.ref x, .str b u], []⟩) Q E s := by
  unfold Builtin.«object.__ne__»
  repeat (first | with_reducible refine wpAny_cRoomFor hu ?_ | with_reducible refine special_str X I hm hs ?_ | wp_step)
  exact hq
theorem callN_str (hu : A.units + 1 < cLine) {Q : Value → Shared → Prop} (X : K.In s.heap) (I : PySem.W.InstAt s.heap x (PySem.W.instObj C dx) C od) (hm : PySem.W.mroIn K C (.type "object") = some true) (hs : PySem.W.findIn K (.ref C) "__eq__" = some (some (.builtin "object.__eq__"))) (hq : Q .notImplemented s) :
    wpAny (model prog w) A (call (.builtin "object.__ne__") [.ref x, .str b u]) Q E s :=
  wpAny_call (codeAny_call_builtin F.cmp_object.ne.plain F.cmpEntry_ne (PySem.W.check_slot F.cmpKind_ne F.cmpSplit_ne (I.type.andThen (PySem.W.looks_mroIn X hm)) (F.cmpArgs_ne _ _) (entryN_str (A := A.in1) hu X I hm hs hq)))
theorem sub_str : PySem.W.subIn K (.type "str") (.ref C) = some false := by
  have e : fastBuiltinMro "str" = some [.type "str", .type "object"] := by decide +kernel
  show (fastBuiltinMro "str").map (·.contains (.ref C)) = some false
  rw [e]
  first
    | rfl
    | simp
theorem eq_str (hu : A.units < cLine) (X : K.In s.heap) (I : PySem.W.InstAt s.heap x (PySem.W.instObj C dx) C od) (hm : PySem.W.mroIn K C (.type "object") = some true) (hs : PySem.W.findIn K (.ref C) "__eq__" = some (some (.builtin "object.__eq__"))) {Q : Value → Shared → Prop} (h : Q (.bool false) s) :
    wpAny (model prog w) A (compareOp .Eq (.ref x) (.str b u)) Q E s := by
  have one : wpAny (model prog w) A (tryCompare (.ref x) "__eq__" (.str b u)) (fun r s' => r = none ∧ s' = s) E s := by
    unfold tryCompare
    exact wpAny_bind (special_str X I hm hs (wpAny_pure ⟨rfl, rfl⟩))
  have two : wpAny (model prog w) A (tryCompare (.str b u) "__eq__" (.ref x)) (fun r s' => r = none ∧ s' = s) E s :=
    wpAny_tryCompare_declines (typeIs_str s b u) F.slot_str_eq_refl (call_meets F.slot_str_eq_refl (typeIs_str s b u) F.entry_str_eq (F.args_str_eq_2 _ _) (str_eq_inst b u x C dx) ⟨I.at_, rfl, rfl, rfl⟩)
  show wpAny _ A (richCompare .Eq _ _) Q E s
  simp only [richCompare, cmpInfo_Eq, oneThing_ref]
  refine wpAny_holding (wpAny_bind (wpAny_cRoomFor hu ?_))
  refine wpAny_bind (I.type.here ?_)
  refine wpAny_bind (wpAny_typeOf (typeIs_str s b u) ?_)
  split
  · refine wpAny_bind ((PySem.W.looks_subIn X sub_str).here ?_)
    simp only [Bool.false_eq_true, if_false, Bool.not_false, if_true]
    refine wpAny_bind (m := tryCompare (.ref x) _ (.str b u)) (wpAny_mono one (fun r s1 z => ?_) fun _ _ e => e)
    obtain ⟨z1, z2⟩ := z
    subst z1
    subst z2
    refine wpAny_bind (m := tryCompare (.str b u) _ (.ref x)) (wpAny_mono two (fun r s2 z => ?_) fun _ _ e => e)
    obtain ⟨z1, z2⟩ := z
    subst z1
    subst z2
    exact wpAny_bind (wpAny_rule (wpAny_bind (wpAny_of_eq (rfl : isSame (.ref x) (.str b u) = pure false) (wpAny_pure h))))
  · rename_i q
    exact absurd (by simp) q
theorem ne_str (hu : A.units + 1 < cLine) (X : K.In s.heap) (I : PySem.W.InstAt s.heap x (PySem.W.instObj C dx) C od) (hm : PySem.W.mroIn K C (.type "object") = some true) (hs : PySem.W.findIn K (.ref C) "__eq__" = some (some (.builtin "object.__eq__"))) (hn : PySem.W.findIn K (.ref C) "__ne__" = some (some (.builtin "object.__ne__"))) {Q : Value → Shared → Prop} (h : Q (.bool true) s) :
    wpAny (model prog w) A (compareOp .NotEq (.ref x) (.str b u)) Q E s := by
  have one : wpAny (model prog w) A (tryCompare (.ref x) "__ne__" (.str b u)) (fun r s' => r = none ∧ s' = s) E s := by
    unfold tryCompare
    exact wpAny_bind (ifBound_ne X I hn (callN_str hu X I hm hs (wpAny_pure ⟨rfl, rfl⟩)))
  have two : wpAny (model prog w) A (tryCompare (.str b u) "__ne__" (.ref x)) (fun r s' => r = none ∧ s' = s) E s :=
    wpAny_tryCompare_declines (typeIs_str s b u) F.slot_str_ne_refl (call_meets F.slot_str_ne_refl (typeIs_str s b u) F.entry_str_ne (F.args_str_ne_2 _ _) (str_ne_inst b u x C dx) ⟨I.at_, rfl, rfl, rfl⟩)
  show wpAny _ A (richCompare .NotEq _ _) Q E s
  simp only [richCompare, cmpInfo_NotEq, oneThing_ref]
  refine wpAny_holding (wpAny_bind (wpAny_cRoomFor (by omega) ?_))
  refine wpAny_bind (I.type.here ?_)
  refine wpAny_bind (wpAny_typeOf (typeIs_str s b u) ?_)
  split
  · refine wpAny_bind ((PySem.W.looks_subIn X sub_str).here ?_)
    simp only [Bool.false_eq_true, if_false, Bool.not_false, if_true]
    refine wpAny_bind (m := tryCompare (.ref x) _ (.str b u)) (wpAny_mono one (fun r s1 z => ?_) fun _ _ e => e)
    obtain ⟨z1, z2⟩ := z
    subst z1
    subst z2
    refine wpAny_bind (m := tryCompare (.str b u) _ (.ref x)) (wpAny_mono two (fun r s2 z => ?_) fun _ _ e => e)
    obtain ⟨z1, z2⟩ := z
    subst z1
    subst z2
    exact wpAny_bind (wpAny_rule (wpAny_bind (wpAny_of_eq (rfl : isSame (.ref x) (.str b u) = pure false) (wpAny_pure h))))
  · rename_i q
    exact absurd (by simp) q
end
end HT
/-! WgF: comparisons, subscripts, built-ins by values. -/
namespace Wg
open PySem PySem.Spec PyProof.Rows L2
def cOp : Cop → CmpOp
  | .eq => .Eq
  | .ne => .NotEq
  | .lt => .Lt
  | .le => .LtE
  | .gt => .Gt
  | .ge => .GtE
  | .isin => .In
  | .notin => .NotIn
  | .is => .Is
  | .isnot => .IsNot
section
variable {X : Cx} {cm : Cm} {pins : List (Addr × Obj)} {σ : L2.St} {H : Hp} {s : Shared} {ι : Nat → Addr} {S : Sto}
theorem scal_eq {a b : IV} {x y : V} {k : Bool} (e : eqS a b = some k) (ra : RV X.K ι S.length H a x) (rb : RV X.K ι S.length H b y) : scal x y = true ∧ decide (x = y) = k := by
  unfold eqS at e
  split at e
  · simp only [RV] at ra rb; subst ra rb; cases e; exact ⟨rfl, by simp⟩
  · simp only [RV] at ra rb; subst ra rb; cases e; exact ⟨rfl, by simp⟩
  · simp only [RV] at ra rb; subst ra rb; cases e; exact ⟨rfl, by simp⟩
  · cases e
theorem flat_ok {a : IV} {x : V} (h : flatI a = true) (ra : RV X.K ι S.length H a x) : flatV x = true := by
  cases a with
  | non => simp only [RV] at ra; subst ra; rfl
  | bl b => simp only [RV] at ra; subst ra; rfl
  | int b => simp only [RV] at ra; subst ra; rfl
  | str b => simp only [RV] at ra; subst ra; rfl
  | tup xs => simp [flatI] at h
  | ref k => simp [flatI] at h
  | cls k => simp [flatI] at h
theorem eqF_ok {a b : IV} {x y : V} (h : flatI a = true) (h' : flatI b = true) (ra : RV X.K ι S.length H a x) (rb : RV X.K ι S.length H b y) : eqV x y = eqF a b := by
  cases a <;> cases b <;> first | (simp [flatI] at h; done) | (simp [flatI] at h'; done) | (simp only [RV] at ra rb; subst ra rb; first | rfl | simp [eqV, eqF])
theorem flats_ok : ∀ {xs : List IV} {vs : List V}, xs.all flatI = true → RVs X.K ι S.length H xs vs → vs.all flatV = true
  | [], vs, _, h => by simp only [RVs] at h; subst h; rfl
  | x :: xs, vs, e, h => by
    obtain ⟨v, r, rfl, h1, h2⟩ := h.uncons
    simp only [List.all_cons, Bool.and_eq_true] at e ⊢
    exact ⟨flat_ok e.1 h1, flats_ok e.2 h2⟩
theorem any_ok {a : IV} {x : V} (ha : flatI a = true) (ra : RV X.K ι S.length H a x) : ∀ {xs : List IV} {vs : List V}, xs.all flatI = true → RVs X.K ι S.length H xs vs → inV x vs = xs.any fun z => eqF z a
  | [], vs, _, h => by simp only [RVs] at h; subst h; rfl
  | z :: xs, vs, e, h => by
    obtain ⟨v, r, rfl, h1, h2⟩ := h.uncons
    simp only [List.all_cons, Bool.and_eq_true] at e
    have ih := any_ok ha ra e.2 h2
    unfold inV at ih ⊢
    rw [List.any_cons, List.any_cons, ih, eqF_ok e.1 ha h1 ra]
end
section
variable {X : Cx} {cm : Cm}
theorem seqD_cases {o : Option PyData} {ds : List PyData} (h : seqD o = some ds) : o = some (.list ds) ∨ o = some (.tuple ds) := by
  unfold seqD at h
  split at h
  · cases h; exact .inl rfl
  · cases h; exact .inr rfl
  · cases h
theorem room_in {A : Around} {d : PyData} {ds : List PyData} (hd : SeqAt.shaped d = true) (hu : A.units + 70 < cLine) : A.units + 1 + min (PyData.depthAll ds) d.depth < cLine := by
  have h : d.depth ≤ 64 := by
    unfold SeqAt.shaped at hd
    rw [Bool.and_eq_true] at hd
    simpa using hd.2
  have := Nat.min_le_right (PyData.depthAll ds) d.depth
  omega
/-! ### dicts -/
theorem dct_ok {y : IV} {x : V} {kvs : List (Key × IV)} (rl : Rel X.K cm ι S H) (ry : RV X.K ι S.length H y x) (e : dctOf y S = some kvs) :
    ∃ k ps, y = .ref k ∧ k < S.length ∧ S[k]? = some (.dct kvs) ∧ x = .ref (ι k) ∧ H (ι k) = some (.dK ps) ∧ ps.map (·.1) = kvs.map (·.1) ∧ RVs X.K ι S.length H (kvs.map (·.2)) (ps.map (·.2)) := by
  unfold dctOf at e
  split at e
  · rename_i n
    split at e
    · rename_i kvs' e1
      cases e
      simp only [RV] at ry
      obtain ⟨ps, h1, h2, h3⟩ := rl.cell n _ e1
      exact ⟨n, ps, rfl, ry.1, e1, ry.2, h1, h2, h3⟩
    · cases e
  · cases e
theorem key_ok {S : Sto} {x : IV} {v : V} {k : Key} (e : keyOf x = some k) (rx : RV X.K ι S.length H x v) : v = kV k := by
  cases x <;> simp only [keyOf] at e <;> cases e <;> (simp only [RV] at rx; exact rx)
theorem dVal_ok {S : Sto} {k : Key} : ∀ {kvs : List (Key × IV)} {ps : List (Key × V)}, ps.map (·.1) = kvs.map (·.1) → RVs X.K ι S.length H (kvs.map (·.2)) (ps.map (·.2)) →
    (∀ v, dVal kvs k = some v → ∃ w, valV ps k = some w ∧ RV X.K ι S.length H v w) ∧ (dVal kvs k = none → valV ps k = none)
  | [], [], _, _ => ⟨fun v h => (nomatch h), fun _ => rfl⟩
  | [], p :: ps, h, _ => by simp at h
  | q :: kvs, [], h, _ => by simp at h
  | (k0, v0) :: kvs, (k1, w0) :: ps, h, r => by
    simp only [List.map_cons, List.cons.injEq] at h
    obtain ⟨h1, h2⟩ := h
    subst h1
    obtain ⟨w, rr, e, r1, r2⟩ := RVs.uncons r
    simp only [List.map_cons, List.cons.injEq] at e
    obtain ⟨rfl, rfl⟩ := e
    have ih := dVal_ok (k := k) h2 r2
    by_cases e : k1 = k
    · subst e
      refine ⟨fun v hv => ?_, fun hv => ?_⟩
      · simp [dVal] at hv
        subst hv
        exact ⟨w0, by simp [valV], r1⟩
      · simp [dVal] at hv
    · have e1 : dVal ((k1, v0) :: kvs) k = dVal kvs k := by simp [dVal, e]
      have e2 : valV ((k1, w0) :: ps) k = valV ps k := by simp [valV, e]
      rw [e1, e2]
      exact ih
theorem dVal_some {S : Sto} {k : Key} {kvs : List (Key × IV)} {ps : List (Key × V)} (h : ps.map (·.1) = kvs.map (·.1)) (r : RVs X.K ι S.length H (kvs.map (·.2)) (ps.map (·.2))) : (valV ps k).isSome = (dVal kvs k).isSome := by
  obtain ⟨a, b⟩ := dVal_ok (k := k) h r
  cases e : dVal kvs k with
  | none => rw [b e]; rfl
  | some v => obtain ⟨w, hw, _⟩ := a v e; rw [hw]; rfl
theorem ix_dct (hu : X.A.units + 1 < cLine) : IxR X (fun x y H Q => ∃ a v, x = .ref a ∧ DGet H a y (some v) ∧ Q v H) := by
  intro value slice pins s σ H x y v u Q I rx ry h hs
  obtain ⟨a, z, rfl, g, q⟩ := h
  cases rx
  have hT := dict_typeIs I g
  unfold subscriptTail
  refine wpAny_bind ?_
  rw [getitemInPython_of_ne hT.not_modules]
  refine wpAny_bind (wpAny_specialOf hT PySem.F.slot_dict_getitem.lookup ?_)
  have fin : wpAny (model X.prog X.w) X.A (subscripted slice false (.ref a) u) (fun r s₃ => wpAny (model X.prog X.w) X.A (letTemporaryGo value (.ref a) r >>= fun _ => pure r) (EP X pins σ Q) X.xe s₃) X.xe s := by
    rw [hs]
    exact wpAny_operating (d_getItem hu I g ry fun w' s3 I3 rw' => wpAny_bind (wpAny_letTemporaryGo (wpAny_pure ⟨z, H, I3, rw', q⟩)))
  first
    | exact wpAny_pure (wpAny_bind fin)
    | exact wpAny_bind (wpAny_pure (wpAny_bind fin))
    | exact wpAny_bind fin
/-- no class has an __eq__ or __ne__ of its own -/
def NoEq (K : PySem.W.Frag) (cm : Cm) : Prop := ∀ c C, cm.ins c = some C → PySem.W.mroIn K C (.type "object") = some true ∧ PySem.W.findIn K (.ref C) "__eq__" = some (some (.builtin "object.__eq__")) ∧ PySem.W.findIn K (.ref C) "__ne__" = some (some (.builtin "object.__ne__"))
theorem eqO_inv {a b : IV} {k : Bool} {S : Sto} (e : eqO a b S = some k) : ∃ n t c fs, a = .ref n ∧ b = .str t ∧ S[n]? = some (.ins c fs) ∧ k = false := by
  unfold eqO at e
  split at e
  · rename_i n t
    split at e
    · rename_i c fs q
      cases e
      exact ⟨_, _, _, _, rfl, rfl, q, rfl⟩
    · cases e
  · cases e
theorem eqO_ok {k : Bool} {ι : Nat → Addr} {S : Sto} {H : Hp} {a b : IV} {x y : V} {v u : Value} {pins : List (Addr × Obj)} {s : Shared} {σ : L2.St} {E : Value → Shared → Prop} (hu : X.A.units < cLine) (I : Inv X pins σ H s) (e : eqO a b S = some k) (hc : NoEq X.K cm) (rl : Rel X.K cm ι S H) (ra : RV X.K ι S.length H a x) (rb : RV X.K ι S.length H b y) (rx : RelV x v) (ry : RelV y u) {Q : Value → Shared → Prop} (h : Q (.bool k) s) : wpAny (model X.prog X.w) X.A (compareOp .Eq v u) Q E s := by
  obtain ⟨n, t, c, fs, rfl, rfl, q, rfl⟩ := eqO_inv e
  simp only [RV] at ra rb
  subst rb
  obtain ⟨hn, rfl⟩ := ra
  cases rx
  obtain ⟨tk, rfl⟩ := ry
  obtain ⟨C, dx, ps, h1, h2, _, _⟩ := rl.cell n _ q
  obtain ⟨e1, e2, e3⟩ := hc c C h2
  obtain ⟨mA, O, _⟩ := ins_get I.hok h1
  obtain ⟨od, J, _⟩ := O.look
  exact HT.eq_str hu I.kIn J e1 e2 h
theorem neO_ok {k : Bool} {ι : Nat → Addr} {S : Sto} {H : Hp} {a b : IV} {x y : V} {v u : Value} {pins : List (Addr × Obj)} {s : Shared} {σ : L2.St} {E : Value → Shared → Prop} (hu : X.A.units + 1 < cLine) (I : Inv X pins σ H s) (e : eqO a b S = some k) (hc : NoEq X.K cm) (rl : Rel X.K cm ι S H) (ra : RV X.K ι S.length H a x) (rb : RV X.K ι S.length H b y) (rx : RelV x v) (ry : RelV y u) {Q : Value → Shared → Prop} (h : Q (.bool (!k)) s) : wpAny (model X.prog X.w) X.A (compareOp .NotEq v u) Q E s := by
  obtain ⟨n, t, c, fs, rfl, rfl, q, rfl⟩ := eqO_inv e
  simp only [RV] at ra rb
  subst rb
  obtain ⟨hn, rfl⟩ := ra
  cases rx
  obtain ⟨tk, rfl⟩ := ry
  obtain ⟨C, dx, ps, h1, h2, _, _⟩ := rl.cell n _ q
  obtain ⟨e1, e2, e3⟩ := hc c C h2
  obtain ⟨mA, O, _⟩ := ins_get I.hok h1
  obtain ⟨od, J, _⟩ := O.look
  exact HT.ne_str hu I.kIn J e1 e2 e3 h
theorem eqE_ok {k : Bool} {ι : Nat → Addr} {S : Sto} {H : Hp} {a b : IV} {x y : V} {v u : Value} {pins : List (Addr × Obj)} {s : Shared} {σ : L2.St} {E : Value → Shared → Prop} (hu : X.A.units < cLine) (I : Inv X pins σ H s) (e : eqE a b S = some k) (hc : NoEq X.K cm) (rl : Rel X.K cm ι S H) (ra : RV X.K ι S.length H a x) (rb : RV X.K ι S.length H b y) (rx : RelV x v) (ry : RelV y u) {Q : Value → Shared → Prop} (h : Q (.bool k) s) : wpAny (model X.prog X.w) X.A (compareOp .Eq v u) Q E s := by
  unfold eqE at e
  split at e
  · rename_i xs
    cases e
    simp only [RV] at ra rb
    obtain ⟨p, vs, rfl, h1, h2⟩ := ra
    obtain ⟨p', vs', rfl, h1', h2'⟩ := rb
    cases rx; cases ry
    obtain ⟨its, rv, hl, _⟩ := I.tuple h1.toT
    obtain ⟨its', rv', hl', _⟩ := I.tuple h1'.toT
    have n1 := rv.length
    have n2 := rv'.length
    have m1 : vs.length = xs.length := by have := h2.length; omega
    have m2 : vs'.length = 0 := by have := h2'.length; simp only [List.length_nil] at this; omega
    have s1 : its.toArray.size = its.length := by simp
    have s2 : its'.toArray.size = its'.length := by simp
    refine SeqAt.eq_tupleAt (e := fun _ => true) hl hl' hu (fun j q1 q2 => ?_) ?_
    · omega
    · have z2 : its'.toArray.size = 0 := by omega
      rw [z2]
      cases xs with
      | nil =>
        have z1 : its.toArray.size = 0 := by simp only [List.length_nil] at m1; omega
        rw [z1]
        simpa using h
      | cons a l =>
        have z1 : (its.toArray.size == 0) = false := by simp only [List.length_cons] at m1; exact beq_false_of_ne (by omega)
        rw [z1]
        simpa using h
  · rename_i n m
    split at e
    · rename_i xs g1 g2
      cases e
      simp only [RV] at ra rb
      obtain ⟨_, rfl⟩ := ra
      obtain ⟨_, rfl⟩ := rb
      cases rx; cases ry
      obtain ⟨vs, e1, e2⟩ := rl.cell n _ g1
      obtain ⟨vs', e1', e2'⟩ := rl.cell m _ g2
      obtain ⟨its, rv, hl, _⟩ := I.list (.inl (.inl e1))
      obtain ⟨its', rv', hl', _⟩ := I.list (.inl (.inl e1'))
      have n1 := rv.length
      have n2 := rv'.length
      have m1 : vs.length = xs.length := by have := e2.length; omega
      have m2 : vs'.length = 0 := by have := e2'.length; simp only [List.length_nil] at this; omega
      have s1 : its.toArray.size = its.length := by simp
      have s2 : its'.toArray.size = its'.length := by simp
      cases xs with
      | nil =>
        have z1 : its.toArray.size = 0 := by simp only [List.length_nil] at m1; omega
        refine SeqAt.eq_listAt (e := fun _ => true) hl.isList hl'.isList (by omega) hu (fun j q1 q2 => by omega) ?_
        rw [z1]
        exact h
      | cons a l =>
        exact SeqAt.eq_list_lengthsAt hl.isList hl'.isList (by simp only [List.length_cons] at m1; exact bne_iff_ne.mpr (by omega)) hu h
    · cases e
  · exact eqO_ok hu I e hc rl ra rb rx ry h
theorem op_cmpA (hu : X.A.units + 70 < cLine) (hc : NoEq X.K cm) (o : Cop) : OpR X (compareOp (cOp o)) (rI2 X.K cm (cmpI o)) := by
  intro pins s σ H x y v u Q I rx ry h
  obtain ⟨ι, S, a, b, rl, ra, rb, q⟩ := h
  have here : ∀ {k : Bool}, OutV X.K cm ι S H (.ok (.bl k) S) Q → Q (.bl k) H := fun h => h.here rl (by simp only [RV])
  cases o with
  | eq =>
    have fall : ∀ {o : Option Bool}, o = none → OutV X.K cm ι S H (boolR (eqT a b S o) S) Q → wpAny (model X.prog X.w) X.A (compareOp .Eq v u) (EP X pins σ Q) X.xe s := fun {o} ho h => by
      subst ho
      simp only [eqT] at h
      cases e : eqE a b S with
      | none => rw [e] at h; exact h.elim
      | some k =>
        rw [e] at h
        exact eqE_ok (by omega) I e hc rl ra rb rx ry ⟨.bl k, H, I, rfl, here h⟩
    simp only [cmpI, eqI] at q
    cases e : eqS a b with
    | some k =>
      rw [e] at q
      obtain ⟨h1, h2⟩ := scal_eq e ra rb
      exact op_eq pins s σ H x y v u Q I rx ry ⟨h1, by rw [h2]; exact here q⟩
    | none =>
      rw [e] at q
      simp only [] at q
      cases e1 : toD S a with
      | none => rw [e1] at q; exact fall rfl q
      | some d =>
        cases e2 : toD S b with
        | none => rw [e1, e2] at q; exact fall rfl q
        | some d' =>
          rw [e1, e2] at q
          simp only [] at q
          by_cases hs : (SeqAt.shaped d && SeqAt.shaped d') = true
          · rw [if_pos hs] at q
            rw [Bool.and_eq_true] at hs
            obtain ⟨as, r1, _⟩ := toD_reads I rl ra rx e1
            obtain ⟨bs, r2, _⟩ := toD_reads I rl rb ry e2
            exact SeqAt.compareEq_shaped r1 r2 hs.1 hs.2 (by omega) ⟨.bl _, H, I, rfl, here q⟩
          · rw [if_neg hs] at q
            exact fall rfl q
  | ne =>
    have fall : ∀ {o : Option Bool}, o = none → OutV X.K cm ι S H (boolN (neT a b S o) S) Q → wpAny (model X.prog X.w) X.A (compareOp .NotEq v u) (EP X pins σ Q) X.xe s := fun {o} ho h => by
      subst ho
      simp only [neT] at h
      cases e : eqO a b S with
      | none => rw [e] at h; exact h.elim
      | some k =>
        rw [e] at h
        exact neO_ok (by omega) I e hc rl ra rb rx ry ⟨.bl (!k), H, I, rfl, here h⟩
    simp only [cmpI, eqI] at q
    cases e : eqS a b with
    | some k =>
      rw [e] at q
      obtain ⟨h1, h2⟩ := scal_eq e ra rb
      exact op_ne pins s σ H x y v u Q I rx ry ⟨h1, by rw [h2]; exact here q⟩
    | none =>
      rw [e] at q
      simp only [] at q
      cases e1 : toD S a with
      | none => rw [e1] at q; exact fall rfl q
      | some d =>
        cases e2 : toD S b with
        | none => rw [e1, e2] at q; exact fall rfl q
        | some d' =>
          rw [e1, e2] at q
          simp only [] at q
          by_cases hs : (SeqAt.shaped d && SeqAt.shaped d') = true
          · rw [if_pos hs] at q
            rw [Bool.and_eq_true] at hs
            obtain ⟨as, r1, _⟩ := toD_reads I rl ra rx e1
            obtain ⟨bs, r2, _⟩ := toD_reads I rl rb ry e2
            exact SeqAt.compareNe_shaped r1 r2 hs.1 hs.2 (by omega) ⟨.bl _, H, I, rfl, here q⟩
          · rw [if_neg hs] at q
            exact fall rfl q
  | lt =>
    simp only [cmpI] at q
    split at q
    · simp only [RV] at ra rb; subst ra rb
      exact op_lt pins s σ H _ _ v u Q I rx ry ⟨_, _, rfl, rfl, here q⟩
    · exact q.elim
  | le =>
    simp only [cmpI] at q
    split at q
    · simp only [RV] at ra rb; subst ra rb
      exact op_le pins s σ H _ _ v u Q I rx ry ⟨_, _, rfl, rfl, here q⟩
    · exact q.elim
  | gt =>
    simp only [cmpI] at q
    split at q
    · simp only [RV] at ra rb; subst ra rb
      exact op_gt pins s σ H _ _ v u Q I rx ry ⟨_, _, rfl, rfl, here q⟩
    · exact q.elim
  | ge =>
    simp only [cmpI] at q
    split at q
    · simp only [RV] at ra rb; subst ra rb
      exact op_ge pins s σ H _ _ v u Q I rx ry ⟨_, _, rfl, rfl, here q⟩
    · exact q.elim
  | isin =>
    simp only [cmpI, inI] at q
    cases e : itemsI b S with
    | none =>
      rw [e] at q
      simp only [dinI] at q
      cases e1 : dctOf b S with
      | none => rw [e1] at q; exact q.elim
      | some kvs =>
        cases e2 : keyOf a with
        | none => rw [e1, e2] at q; exact q.elim
        | some k =>
          rw [e1, e2] at q
          obtain ⟨n, ps, rfl, hn, hS, rfl, h1, h2, h3⟩ := dct_ok rl rb e1
          obtain rfl := key_ok e2 ra
          cases ry
          refine d_in (by omega) I (DGet.k h1) rx fun s' I' => ⟨.bl _, H, I', rfl, ?_⟩
          rw [dVal_some h2 h3]
          exact here q
    | some xs =>
      rw [e] at q
      simp only [] at q
      split at q
      · rename_i hf
        rw [Bool.and_eq_true] at hf
        obtain ⟨p, vs, rfl, hq, hv⟩ := items_ok rl rb e
        exact op_in_seq pins s σ H _ _ v u Q I rx ry ⟨p, vs, rfl, hq, flat_ok hf.1 ra, flats_ok hf.2 hv, by rw [any_ok hf.1 ra hf.2 hv]; exact here q⟩
      · cases e1 : seqD (toD S b) with
        | none => rw [e1] at q; exact q.elim
        | some ds =>
          cases e2 : toD S a with
          | none => rw [e1, e2] at q; exact q.elim
          | some d =>
            rw [e1, e2] at q
            simp only [] at q
            split at q
            · rename_i hs
              rw [Bool.and_eq_true] at hs
              obtain ⟨as, r1, _⟩ := toD_reads I rl ra rx e2
              rcases seqD_cases e1 with e3 | e3
              · obtain ⟨bs, r2, _⟩ := toD_reads I rl rb ry e3
                exact SeqAt.in_list_reads r2 r1 hs.2 (SeqAt.canLay_of_shaped hs.1) (room_in hs.1 hu) ⟨.bl _, H, I, rfl, here q⟩
              · obtain ⟨bs, r2, _⟩ := toD_reads I rl rb ry e3
                exact SeqAt.in_tuple_reads r2 r1 hs.2 (SeqAt.canLay_of_shaped hs.1) (room_in hs.1 hu) ⟨.bl _, H, I, rfl, here q⟩
            · exact q.elim
  | notin =>
    simp only [cmpI, inI] at q
    cases e : itemsI b S with
    | none =>
      rw [e] at q
      simp only [dinI] at q
      cases e1 : dctOf b S with
      | none => rw [e1] at q; exact q.elim
      | some kvs =>
        cases e2 : keyOf a with
        | none => rw [e1, e2] at q; exact q.elim
        | some k =>
          rw [e1, e2] at q
          obtain ⟨n, ps, rfl, hn, hS, rfl, h1, h2, h3⟩ := dct_ok rl rb e1
          obtain rfl := key_ok e2 ra
          cases ry
          refine d_notIn (by omega) I (DGet.k h1) rx fun s' I' => ⟨.bl _, H, I', rfl, ?_⟩
          rw [dVal_some h2 h3]
          exact here q
    | some xs =>
      rw [e] at q
      simp only [] at q
      split at q
      · rename_i hf
        rw [Bool.and_eq_true] at hf
        obtain ⟨p, vs, rfl, hq, hv⟩ := items_ok rl rb e
        exact op_notIn_seq pins s σ H _ _ v u Q I rx ry ⟨p, vs, rfl, hq, flat_ok hf.1 ra, flats_ok hf.2 hv, by rw [any_ok hf.1 ra hf.2 hv]; exact here q⟩
      · cases e1 : seqD (toD S b) with
        | none => rw [e1] at q; exact q.elim
        | some ds =>
          cases e2 : toD S a with
          | none => rw [e1, e2] at q; exact q.elim
          | some d =>
            rw [e1, e2] at q
            simp only [] at q
            split at q
            · rename_i hs
              rw [Bool.and_eq_true] at hs
              obtain ⟨as, r1, _⟩ := toD_reads I rl ra rx e2
              rcases seqD_cases e1 with e3 | e3
              · obtain ⟨bs, r2, _⟩ := toD_reads I rl rb ry e3
                exact SeqAt.notIn_list_reads r2 r1 hs.2 (SeqAt.canLay_of_shaped hs.1) (room_in hs.1 hu) ⟨.bl _, H, I, rfl, here q⟩
              · obtain ⟨bs, r2, _⟩ := toD_reads I rl rb ry e3
                exact SeqAt.notIn_tuple_reads r2 r1 hs.2 (SeqAt.canLay_of_shaped hs.1) (room_in hs.1 hu) ⟨.bl _, H, I, rfl, here q⟩
            · exact q.elim
  | is =>
    simp only [cmpI, isI] at q
    split at q
    · simp only [RV] at rb; subst rb
      refine op_isN pins s σ H _ _ v u Q I rx ry ⟨rfl, ?_⟩
      have e : decide (x = V.non) = nonI a := by
        cases a <;> simp only [RV] at ra <;> first | (subst ra; rfl) | (obtain ⟨_, rfl, _⟩ := ra; rfl) | (obtain ⟨_, _, rfl, _⟩ := ra; rfl) | (obtain ⟨_, rfl⟩ := ra; rfl)
      rw [e]; exact here q
    · simp only [RV] at rb; subst rb
      split at q
      · simp only [RV] at ra; subst ra
        exact op_is_bl pins s σ H _ _ v u Q I rx ry ⟨_, _, rfl, rfl, here q⟩
      · exact q.elim
    · exact q.elim
  | isnot =>
    simp only [cmpI, isI] at q
    split at q
    · simp only [RV] at rb; subst rb
      refine op_notN pins s σ H _ _ v u Q I rx ry ⟨rfl, ?_⟩
      have e : decide (x = V.non) = nonI a := by
        cases a <;> simp only [RV] at ra <;> first | (subst ra; rfl) | (obtain ⟨_, rfl, _⟩ := ra; rfl) | (obtain ⟨_, _, rfl, _⟩ := ra; rfl) | (obtain ⟨_, rfl⟩ := ra; rfl)
      rw [e]; exact here q
    · simp only [RV] at rb; subst rb
      split at q
      · simp only [RV] at ra; subst ra
        exact op_isnot_bl pins s σ H _ _ v u Q I rx ry ⟨_, _, rfl, rfl, here q⟩
      · exact q.elim
    · exact q.elim
/-- a[i] -/
theorem ix_any (hu : X.A.units + 70 < cLine) : IxR X (rI2 X.K cm ixI) := by
  intro value slice pins s σ H x y v u Q I rx ry h hs
  obtain ⟨ι, S, a, b, rl, ra, rb, q⟩ := h
  have dic : OutV X.K cm ι S H (dixI a b S) Q → wpAny (model X.prog X.w) X.A (subscriptTail value slice v u) (EP X pins σ Q) X.xe s := fun q0 => by
    unfold dixI at q0
    cases e1 : dctOf a S with
    | none => rw [e1] at q0; exact q0.elim
    | some kvs =>
      cases e2 : keyOf b with
      | none => rw [e1, e2] at q0; exact q0.elim
      | some k =>
        rw [e1, e2] at q0
        simp only [] at q0
        cases e3 : dVal kvs k with
        | none => rw [e3] at q0; exact q0.elim
        | some z =>
          rw [e3] at q0
          obtain ⟨n, ps, rfl, hn, hS, rfl, h1, h2, h3⟩ := dct_ok rl ra e1
          obtain rfl := key_ok e2 rb
          obtain ⟨w, hw, rw'⟩ := (dVal_ok (k := k) h2 h3).1 z e3
          exact ix_dct (by omega) value slice pins s σ H _ _ v u Q I rx ry ⟨_, w, rfl, by rw [← hw]; exact DGet.k h1, q0.here rl rw'⟩ hs
  unfold ixI at q
  split at q
  · rename_i i
    simp only [RV] at rb; subst rb
    cases e : itemsI a S with
    | some xs =>
      rw [e] at q
      simp only [] at q
      obtain ⟨p, vs, rfl, hq, hv⟩ := items_ok rl ra e
      cases e2 : atI xs i with
      | none => rw [e2] at q; exact q.elim
      | some z =>
        rw [e2] at q
        obtain ⟨w, h1, h2⟩ := hv.atI e2
        rcases hq with hq | hq
        · exact ix_list value slice pins s σ H _ _ v u Q I rx ry ⟨p, vs, i, w, rfl, rfl, hq, h1, q.here rl h2⟩ hs
        · exact ix_tup value slice pins s σ H _ _ v u Q I rx ry ⟨p, vs, i, w, rfl, rfl, hq, h1, q.here rl h2⟩ hs
    | none =>
      rw [e] at q
      simp only [] at q
      split at q
      · rename_i z
        simp only [RV] at ra; subst ra
        split at q
        · rename_i hz
          cases e2 : atI z.cps.toList i with
          | none => rw [e2] at q; exact q.elim
          | some c =>
            rw [e2] at q
            exact ix_str value slice pins s σ H _ _ v u Q I rx ry ⟨z, i, c, rfl, rfl, by rw [sizeLine_eq]; omega, e2, q.here rl (by simp only [RV])⟩ hs
        · exact q.elim
      · exact dic q
  · exact dic q
/-- a[lo:hi] -/
def rISl (K : PySem.W.Frag) (cm : Cm) : V → Option Int → Option Int → Hp → VK → Prop := fun x lo hi H Q => ∃ ι S a, Rel K cm ι S H ∧ RV K ι S.length H a x ∧ OutV K cm ι S H (slI a lo hi S) Q
theorem cut_whole {xs : List IV} {lo hi : Option Int} (h : HT.sIx xs.length 0 lo = 0 ∧ HT.sIx xs.length xs.length hi = xs.length) : cutI xs lo hi = xs := by
  unfold cutI
  rw [h.1, h.2, List.drop_zero, Nat.sub_zero, List.take_length]
def rSlN (K : PySem.W.Frag) : V → Option Int → Option Int → Hp → VK → Prop := fun x lo hi H Q => ∃ a xs, x = .ref a ∧ SqT K H a xs ∧
  (HT.sIx xs.length 0 lo = 0 ∧ HT.sIx xs.length xs.length hi = xs.length → Q (.ref a) H) ∧ ∀ (p : Addr) (o : Obj), H p = none → o.dict = none → Q (.ref p) (upd H p (.frz o (.tup (cutV xs lo hi))))
theorem sl_tupN : SlR X (rSlN X.K) := by
  intro pins s σ H x v vl vu lo hi sl Q I rx hs pl pu ⟨a, xs, ex, hx, q1, q2⟩
  subst ex
  cases rx
  obtain ⟨its, w, ht, hz⟩ := I.tuple hx
  have hn : its.toArray.size = xs.length := by rw [List.size_toArray]; exact w.length.symm
  refine ⟨"tuple", _, PyProof.Rows.slot_tuple_getitem.lookup, ht.typeIs, ?_⟩
  by_cases hw : HT.sIx xs.length 0 lo = 0 ∧ HT.sIx xs.length xs.length hi = xs.length
  · exact getItem_tuple_whole ht hs pl pu (by rw [hn]; exact hw) ⟨.ref a, H, I, rfl, q1 hw⟩
  · refine HT.getItem_tuple_cut ht hs pl pu (by rw [hn]; exact hw) ?_ (by rw [hn]; exact hz)
    rw [hn]
    obtain ⟨I2, hf⟩ := tNew I ((w.drop (HT.sIx xs.length 0 lo)).take (HT.sIx xs.length xs.length hi - HT.sIx xs.length 0 lo)) (Nat.le_trans (cutV_length xs lo hi) hz)
    exact ⟨.ref _, _, I2, rfl, q2 _ _ hf rfl⟩
theorem sl_any : SlR X (rISl X.K cm) := by
  intro pins s σ H x v vl vu lo hi sl Q I rx hs pl pu h
  obtain ⟨ι, S, a, rl, ra, q⟩ := h
  unfold slI at q
  split at q
  · rename_i xs
    simp only [RV] at ra
    obtain ⟨p, vs, rfl, h1, h2⟩ := ra
    refine sl_tupN pins s σ H _ v vl vu lo hi sl Q I rx hs pl pu ⟨p, vs, rfl, h1.toT, fun hw => ?_, q.tup rl (h2.cut lo hi)⟩
    rw [h2.length] at hw
    refine q.here rl ?_
    rw [cut_whole hw]
    simp only [RV]
    exact ⟨p, vs, rfl, h1, h2⟩
  · split at q
    · rename_i n xs e
      obtain ⟨vs, rfl, h1, h2⟩ := lst_ok rl ra e
      exact sl_list pins s σ H _ v vl vu lo hi sl Q I rx hs pl pu ⟨_, vs, rfl, .inl (.inl h1), q.lst rl (h2.cut lo hi)⟩
    · exact q.elim
  · exact q.elim
/-- a[::-1] of a tuple -/
theorem sliceApplied_rev {prog : Program} {w : World} {A : Around} {E : Value → Shared → Prop} {s : Shared} {sl : Addr} {vl vu vs : Value} {n : Nat} {Q : Int × Int × Nat → Shared → Prop} (hs : s.heap.IsSliceOf sl vl vu vs) (pl : IsPart vl none) (pu : IsPart vu none) (ps : IsPart vs (some (-1)))
    (h : Q ((n : Int) - 1, -1, n) s) : wpAny (model prog w) A (Builtin.Slice.sliceApplied (.ref sl) (pure (n : Int))) Q E s := by
  obtain ⟨os, hos, hcs, hds⟩ := id hs
  unfold Builtin.Slice.sliceApplied Builtin.Slice.sliceFields
  refine wpAny_bind (wpAny_bind (wpAny_field hos hds (x := vl) rfl (wpAny_bind (wpAny_field hos hds (x := vu) rfl (wpAny_bind (wpAny_field hos hds (x := vs) rfl (wpAny_pure ?_)))))))
  refine wpAny_bind (HT.slicePart_ ps ?_)
  show wpAny _ _ (if ((-1 : Int) == 0) = true then _ else _) _ _ s
  rw [if_neg (by decide)]
  refine wpAny_bind (HT.slicePart_ pl (wpAny_bind (HT.slicePart_ pu (wpAny_bind (wpAny_pure ?_)))))
  have e1 : Builtin.Slice.sliceAdjust none none (-1) (n : Int) = ((n : Int) - 1, -1) := rfl
  have e2 : Builtin.Slice.slicePlaces ((n : Int) - 1) (-1) (-1) = n := by
    unfold Builtin.Slice.slicePlaces
    have h1 : ¬ ((-1 : Int) > 0) := by decide
    have h2 : (- -1 : Int) = 1 := by decide
    simp only [h1, if_false, h2, Int.ediv_one]
    split <;> omega
  show wpAny _ _ (match Builtin.Slice.sliceAdjust none none (-1) (n : Int) with | (lo, hi) => pure (lo, (-1 : Int), Builtin.Slice.slicePlaces lo hi (-1))) _ _ s
  rw [e1]
  show wpAny _ _ (pure ((n : Int) - 1, (-1 : Int), Builtin.Slice.slicePlaces ((n : Int) - 1) (-1) (-1))) _ _ s
  rw [e2]
  exact wpAny_pure h
theorem filterMap_cong {α β : Type} {f g : α → Option β} : ∀ {l : List α}, (∀ x ∈ l, f x = g x) → l.filterMap f = l.filterMap g
  | [], _ => rfl
  | x :: l, h => by
    rw [List.filterMap_cons, List.filterMap_cons, h x (by simp), filterMap_cong fun y hy => h y (by simp [hy])]
theorem RVs.reverse {K : PySem.W.Frag} {ι : Nat → Addr} {n : Nat} {H : Hp} : ∀ {xs : List IV} {vs : List V}, RVs K ι n H xs vs → RVs K ι n H xs.reverse vs.reverse
  | [], vs, h => by
    have := h.length
    cases vs with
    | nil => exact .nil
    | cons => simp at this
  | x :: xs, vs, h => by
    obtain ⟨v, r, rfl, h1, h2⟩ := h.uncons
    rw [List.reverse_cons, List.reverse_cons]
    exact (RVs.reverse h2).append (.cons h1 .nil)
theorem pick_rev (xs : Array Value) : ((List.range xs.size).filterMap fun (k : Nat) => xs[((xs.size : Int) - 1 + (k : Int) * -1).toNat]?) = xs.toList.reverse := by
  have e : (List.range xs.size).filterMap (fun (k : Nat) => xs[((xs.size : Int) - 1 + (k : Int) * -1).toNat]?) = ((List.range xs.size).map fun k => xs.size - 1 - k).filterMap (xs[·]?) := by
    rw [List.filterMap_map]
    apply filterMap_cong
    intro k hk
    have := List.mem_range.mp hk
    have q : ((xs.size : Int) - 1 + (k : Int) * -1).toNat = xs.size - 1 - k := by omega
    simp only [Function.comp, q]
  rw [e, PySem.W.krv_range, List.filterMap_reverse, PySem.W.krv_all]
theorem getItem_tuple_rev {prog : Program} {w : World} {A : Around} {E : Value → Shared → Prop} {s : Shared} {t sl : Addr} {items : Array Value} {vl vu vs : Value} {Q : Value → Shared → Prop} (ht : IsTup s.heap t items) (hs : s.heap.IsSliceOf sl vl vu vs) (pl : IsPart vl none) (pu : IsPart vu none) (ps : IsPart vs (some (-1)))
    (h : Q (.ref s.heap.objs.size) { s with heap := s.heap.push { cls := .type "tuple", data := .seq items.toList.reverse.toArray } })
    (hsz : items.size ≤ sizeLine) : wpAny (model prog w) A (getItem (.ref t) (.ref sl)) Q E s := by
  have htake : sizeOk (.seq items.toList.reverse.toArray) := by
    show items.toList.reverse.toArray.size ≤ sizeLine
    rw [List.size_toArray, List.length_reverse, Array.length_toList]
    omega
  obtain ⟨os, hos, hcs, hds⟩ := id hs
  have hTs : s.TypeIs (.ref sl) "slice" := ⟨os, hos, hcs⟩
  unfold getItem
  try with_reducible refine wpAny_holding ?_
  first | refine wpAny_bind (wpAny_pure ?_) | skip
  refine wpAny_bind (wpAny_sequenceKey ht.typeIs (by decide) ?_)
  refine wpAny_bind (wpAny_callSpecial?_slot (name := Str.ofString "__getitem__") ht.typeIs PyProof.Rows.slot_tuple_getitem
    (wpAny_call_entry PyProof.Rows.slot_tuple_getitem ht.typeIs PyProof.Rows.entry_tuple_getitem ?_ (PyProof.Rows.args_tuple_getitem _ _)))
  show wpAny _ _ (Builtin.Tuple.tupleItemsOf (.ref t) >>= _) _ _ s
  refine wpAny_bind (tupleItemsOf_ ht ?_)
  refine wpAny_bind (wpAny_typeOf hTs ?_)
  rw [if_pos (by decide)]
  refine wpAny_bind (sliceApplied_rev hs pl pu ps ?_)
  show wpAny _ _ (if (((items.size : Int) - 1 == 0 && (-1 : Int) == 1 && items.size == items.size) = true) then _ else _) _ _ s
  rw [if_neg (by simp), pick_rev]
  first
    | exact wpAny_bind (m := Builtin.Tuple.tupleExact _) (wpAny_newObj_type (wpAny_pure ⟨_, rfl, wpAny_pure h⟩) htake)
    | exact wpAny_bind (m := Builtin.Tuple.tupleExact _) (wpAny_newObj_type (wpAny_bind (wpAny_pure (wpAny_pure ⟨_, rfl, wpAny_pure h⟩))) htake)
    | exact wpAny_bind (wpAny_bind (m := Builtin.Tuple.tupleExact _) (wpAny_newObj_type (wpAny_pure (wpAny_pure ⟨_, rfl, wpAny_pure h⟩)) htake))
    | exact wpAny_bind (wpAny_bind (m := Builtin.Tuple.tupleExact _) (wpAny_newObj_type (wpAny_pure ⟨_, rfl, wpAny_pure h⟩) htake))
/-- what e[::-1] makes of a value -/
def RevR (X : Cx) (r : V → Hp → VK → Prop) : Prop := ∀ (pins : List (Addr × Obj)) (s : Shared) (σ : L2.St) (H : Hp) (x : V) (v vl vu vs : Value) (sl : Addr) (Q : VK), Inv X pins σ H s → RelV x v → s.heap.IsSliceOf sl vl vu vs → IsPart vl none → IsPart vu none → IsPart vs (some (-1)) → r x H Q →
  ∃ (T : String) (id : String), s.TypeIs v T ∧ typeLookup (.type T) "__getitem__" = pure (some (.builtin id)) ∧ wpAny (model X.prog X.w) X.A (getItem v (.ref sl)) (EP X pins σ Q) X.xe s
theorem pe_revA {e : Expr} {te : TE} {r : V → Hp → VK → Prop} {k : Nat} {p1 p2 p3 pos : Pos} (hr : RevR X r) (he : PE X e te) : PE X (.Subscript e (.Slice none none (some (.UnaryOp .USub (.Constant (.int 1) k p1) p2)) p3) pos) (tUn r te) := by
  refine ⟨fun pins s σ H Q I h => ?_⟩
  refine Subscript_ (thn (he.run pins s σ H _ I h) fun v s1 ⟨x, H1, I1, r1, q1⟩ => ?_)
  have hst : PO X (some (.UnaryOp .USub (.Constant (.int 1) k p1) p2)) (tPart (tUn (rU fun i => .int (-i)) (tC (.int 1)))) := po_some (pe_un un_neg pe_int)
  refine wpAny_Slice (thn (po_none.run pins s1 σ H1 (fun o H2 => o = none ∧ H2 = H1) I1 ⟨rfl, rfl⟩) fun vl s2 ⟨l, H2, I2, pl, el, e2⟩ => ?_)
  subst el e2
  refine thn (po_none.run pins s2 σ H2 (fun o H3 => o = none ∧ H3 = H2) I2 ⟨rfl, rfl⟩) fun vu s3 ⟨u, H3, I3, pu, eu, e3⟩ => ?_
  subst eu e3
  refine thn (hst.run pins s3 σ H3 (fun o H4 => o = some (-1) ∧ H4 = H3) I3 ⟨1, rfl, -1, rfl, rfl, rfl⟩) fun vs s4 ⟨o, H4, I4, ps, eo, e4⟩ => ?_
  subst eo e4
  have I5 : Inv X pins σ H4 { s4 with heap := s4.heap.push { cls := .type "slice", data := .fields #[vl, vu, vs] } } := I4.kept (t' := s4.toks) fun b ob q => Heap.get?_push_of_some _ q
  obtain ⟨T, id, hT, hl, hw⟩ := hr pins _ σ H4 x v vl vu vs _ Q I5 r1 (Heap.IsSliceOf.new _ vl vu vs) pl pu ps q1
  show wpAny (model X.prog X.w) X.A (subscriptTail e (.Slice none none (some (.UnaryOp .USub (.Constant (.int 1) k p1) p2)) p3) v (.ref s4.heap.objs.size)) (EP X pins σ Q) X.xe { s4 with heap := s4.heap.push { cls := .type "slice", data := .fields #[vl, vu, vs] } }
  exact tail_any (ops := [v, .ref s4.heap.objs.size]) hT hl hw (by with_unfolding_all rfl)
def rIRev (K : PySem.W.Frag) (cm : Cm) : V → Hp → VK → Prop := fun x H Q => ∃ ι S a, Rel K cm ι S H ∧ RV K ι S.length H a x ∧ OutV K cm ι S H (revI a S) Q
theorem rev_any : RevR X (rIRev X.K cm) := by
  intro pins s σ H x v vl vu vs sl Q I rx hs pl pu ps h
  obtain ⟨ι, S, a, rl, ra, q⟩ := h
  unfold revI at q
  split at q
  · rename_i xs
    simp only [RV] at ra
    obtain ⟨p, ws, rfl, h1, h2⟩ := ra
    cases rx
    obtain ⟨its, r, ht, hz⟩ := I.tuple h1.toT
    refine ⟨"tuple", _, ht.typeIs, PyProof.Rows.slot_tuple_getitem.lookup, ?_⟩
    have hlen := r.length
    refine getItem_tuple_rev ht hs pl pu ps ?_ (by rw [List.size_toArray]; omega)
    obtain ⟨I2, hf⟩ := tNew I r.reverse (by rw [List.length_reverse]; exact hz)
    exact ⟨.ref _, _, I2, rfl, q.tup rl h2.reverse _ _ hf rfl⟩
  · split at q
    · rename_i n xs e
      obtain ⟨ws, rfl, h1, h2⟩ := lst_ok rl ra e
      cases rx
      obtain ⟨its, r, ht, hz⟩ := I.list (.inl (.inl h1))
      refine ⟨"list", _, ht.isList.typeIs, PySem.slot_list_getitem.lookup, ?_⟩
      have hlen := r.length
      refine wpAny_getItem_list_slice ht.isList hs pl pu ps (by decide) ?_ (by rw [List.size_toArray]; omega)
      rw [PySem.W.krv_pick]
      refine ⟨.ref _, _, I.laid (t' := s.toks) (o := .lst ws.reverse) (fun b ob q => Heap.get?_push_of_some _ q) (Nat.le_refl _) ?_, rfl, q.lst rl h2.reverse _ (I.hok.fresh (Nat.le_refl _))⟩
      exact ⟨by rw [List.length_reverse]; exact hz, _, 0, r.reverse, Heap.get?_push_size _ rfl⟩
    · exact q.elim
  · exact q.elim
end
end Wg
/-! WgG: built-in functions and types that are called, isinstance, append. -/
namespace Wg
open PySem PySem.Spec PyProof.Rows L2
def bV : Bf → Value
  | .len => .builtin "len"
  | .abs => .builtin "abs"
  | .max => .builtin "max"
  | .min => .builtin "min"
  | .repr => .builtin "repr"
  | .str => .type "str"
  | .int => .type "int"
  | .list => .type "list"
  | .tuple => .type "tuple"
  | .sum => .builtin "sum"
  | .all => .builtin "all"
  | .any => .builtin "any"
  | .sorted => .builtin "sorted"
def bN : Bf → Str
  | .len => "len"
  | .abs => "abs"
  | .max => "max"
  | .min => "min"
  | .repr => "repr"
  | .str => "str"
  | .int => "int"
  | .list => "list"
  | .tuple => "tuple"
  | .sum => "sum"
  | .all => "all"
  | .any => "any"
  | .sorted => "sorted"
theorem bN_boot : ∀ f : Bf, bootBuiltins (bN f) = some (bV f)
  | .len => by decide +kernel
  | .abs => by decide +kernel
  | .max => by decide +kernel
  | .min => by decide +kernel
  | .repr => by decide +kernel
  | .str => by decide +kernel
  | .int => by decide +kernel
  | .list => by decide +kernel
  | .tuple => by decide +kernel
  | .sum => by decide +kernel
  | .all => by decide +kernel
  | .any => by decide +kernel
  | .sorted => by decide +kernel
section
variable {X : Cx} {cm : Cm} {pins : List (Addr × Obj)} {σ : L2.St} {H : Hp} {s : Shared} {ι : Nat → Addr} {S : Sto}
theorem RVs.one {a : IV} {xs : List V} (h : RVs X.K ι S.length H [a] xs) : ∃ x, xs = [x] ∧ RV X.K ι S.length H a x := by
  obtain ⟨v, r, rfl, h1, h2⟩ := h.uncons
  simp only [RVs] at h2; subst h2
  exact ⟨v, rfl, h1⟩
theorem RVs.two {a b : IV} {xs : List V} (h : RVs X.K ι S.length H [a, b] xs) : ∃ x y, xs = [x, y] ∧ RV X.K ι S.length H a x ∧ RV X.K ι S.length H b y := by
  obtain ⟨v, r, rfl, h1, h2⟩ := h.uncons
  obtain ⟨y, rfl, h3⟩ := h2.one
  exact ⟨v, y, rfl, h1, h3⟩
theorem ints_ok : ∀ {xs : List IV} {ns : List Int} {vs : List V}, optAll intOf xs = some ns → RVs X.K ι S.length H xs vs → vs = ns.map V.int
  | [], ns, vs, e, h => by simp only [optAll, Option.some.injEq] at e; subst e; simp only [RVs] at h; subst h; rfl
  | x :: xs, ns, vs, e, h => by
    obtain ⟨v, r, rfl, h1, h2⟩ := h.uncons
    simp only [optAll] at e
    cases e1 : intOf x with
    | none => rw [e1] at e; cases e
    | some i =>
      rw [e1] at e
      cases e2 : optAll intOf xs with
      | none => rw [e2] at e; cases e
      | some ms =>
        rw [e2] at e; cases e
        cases x <;> simp only [intOf, Option.some.injEq] at e1 <;> first | (cases e1; done) | skip
        subst e1
        simp only [RV] at h1
        rw [h1, ints_ok e2 h2]; rfl
theorem bls_ok : ∀ {xs : List IV} {ns : List Bool} {vs : List V}, optAll blOf xs = some ns → RVs X.K ι S.length H xs vs → vs = ns.map V.bl
  | [], ns, vs, e, h => by simp only [optAll, Option.some.injEq] at e; subst e; simp only [RVs] at h; subst h; rfl
  | x :: xs, ns, vs, e, h => by
    obtain ⟨v, r, rfl, h1, h2⟩ := h.uncons
    simp only [optAll] at e
    cases e1 : blOf x with
    | none => rw [e1] at e; cases e
    | some i =>
      rw [e1] at e
      cases e2 : optAll blOf xs with
      | none => rw [e2] at e; cases e
      | some ms =>
        rw [e2] at e; cases e
        cases x <;> simp only [blOf, Option.some.injEq] at e1 <;> first | (cases e1; done) | skip
        subst e1
        simp only [RV] at h1
        rw [h1, bls_ok e2 h2]; rfl
end
theorem reads_scal {h : Heap} {u : Value} {d : PyData} {as : List Addr} (r : Reads h u d as) : (∃ a, u = .ref a) ∨ (u = .none ∧ d = .none) ∨ (∃ b, u = .bool b ∧ d = .bool b) ∨ (∃ i t, u = .int i t ∧ d = .int i) ∨ (∃ x t, u = .str x t ∧ d = .str x) := by
  cases r with
  | none => exact .inr (.inl ⟨rfl, rfl⟩)
  | bool b => exact .inr (.inr (.inl ⟨b, rfl, rfl⟩))
  | int i t => exact .inr (.inr (.inr (.inl ⟨i, t, rfl, rfl⟩)))
  | str x t => exact .inr (.inr (.inr (.inr ⟨x, t, rfl, rfl⟩)))
  | list _ _ _ _ => exact .inl ⟨_, rfl⟩
  | tuple _ _ _ _ => exact .inl ⟨_, rfl⟩
  | dict _ _ _ _ _ => exact .inl ⟨_, rfl⟩
section
variable {X : Cx} {cm : Cm}
/-- repr of data -/
theorem call_reprD (hg : X.A.guards = some []) (hu : X.A.units + 64 < cLine) : CallR X (.builtin "repr") (rIl X.K cm (bltI .repr)) := by
  intro pins s σ H xs us Q I r h
  obtain ⟨ι, S, as, rl, ra, q⟩ := h
  unfold bltI at q
  split at q
  all_goals first | (rename_i h1; cases h1; done) | skip
  · rename_i a h1
    obtain ⟨x, rfl, rx⟩ := ra.one
    obtain ⟨u, rfl, ru⟩ := vals1 r
    cases e : toD S a with
    | none => rw [e] at q; exact q.elim
    | some d =>
      rw [e] at q
      simp only [] at q
      split at q
      · rename_i hs
        simp only [shownOk, Bool.and_eq_true, decide_eq_true_eq, Bool.or_eq_true, Bool.not_eq_true'] at hs
        obtain ⟨⟨⟨s1, s2⟩, s3⟩, s4⟩ := hs
        have hz : d.shown.length ≤ sizeLine := by rw [sizeLine_eq]; omega
        have qq := q.here (v := .str d.shown) rl (by simp only [RV])
        obtain ⟨ad, rd, hn⟩ := toD_reads I rl rx ru e
        rcases reads_scal rd with ⟨p, rfl⟩ | ⟨rfl, rfl⟩ | ⟨b, rfl, rfl⟩ | ⟨i, t, rfl, rfl⟩ | ⟨z, t, rfl, rfl⟩
        · refine repr_of_reads' rd s1 (fun hd => ?_) hg (by omega) (fun _ _ e => e) (fun h' t tk hk => ⟨.str d.shown, H, I.kept (t' := tk) hk, ⟨t, rfl⟩, qq⟩) hz
          rcases s2 with s2 | s2
          · rw [hd] at s2; cases s2
          · exact hn s2
        · exact PySem.P.repr_of_none ⟨.str _, H, I.tok _, ⟨_, rfl⟩, by simpa only [PyData.shown] using qq⟩
        · exact PySem.P.repr_of_bool ⟨.str _, H, I.tok _, ⟨_, rfl⟩, by simpa only [PyData.shown] using qq⟩
        · exact PySem.P.repr_of_int (by simpa [PyData.showable] using s1) ⟨.str _, H, I.tok _, ⟨_, rfl⟩, by simpa only [PyData.shown] using qq⟩
        · exact PySem.P.repr_of_str ⟨.str _, H, I.tok _, ⟨_, rfl⟩, by simpa only [PyData.shown] using qq⟩ (by simpa only [PyData.shown] using hz)
      · exact q.elim
  · exact q.elim
theorem foldl_max_le : ∀ (ns : List Int) (m : Int), m ≤ ns.foldl max m ∧ ∀ y ∈ ns, y ≤ ns.foldl max m
  | [], m => ⟨Int.le_refl _, fun _ h => by cases h⟩
  | n :: ns, m => by
    obtain ⟨h1, h2⟩ := foldl_max_le ns (max m n)
    simp only [List.foldl_cons]
    refine ⟨by omega, fun y hy => ?_⟩
    rcases List.mem_cons.mp hy with rfl | hy
    · omega
    · exact h2 y hy
theorem foldl_max_mem : ∀ (ns : List Int) (m : Int), ns.foldl max m ∈ m :: ns
  | [], m => by simp
  | n :: ns, m => by
    simp only [List.foldl_cons]
    rcases List.mem_cons.mp (foldl_max_mem ns (max m n)) with h | h
    · rw [h]
      by_cases q : m ≤ n
      · rw [Int.max_eq_right q]; simp
      · rw [Int.max_eq_left (by omega)]; simp
    · exact List.mem_cons_of_mem _ (List.mem_cons_of_mem _ h)
theorem foldl_max_eq {ns : List Int} {m k : Int} (hk : k ∈ m :: ns) (hle : ∀ y, y ∈ m :: ns → y ≤ k) : k = ns.foldl max m := by
  have h1 := hle _ (foldl_max_mem ns m)
  obtain ⟨h2, h3⟩ := foldl_max_le ns m
  rcases List.mem_cons.mp hk with h | h
  · omega
  · have := h3 k h; omega
theorem foldl_min_le : ∀ (ns : List Int) (m : Int), ns.foldl min m ≤ m ∧ ∀ y ∈ ns, ns.foldl min m ≤ y
  | [], m => ⟨Int.le_refl _, by simp⟩
  | n :: ns, m => by
    obtain ⟨h1, h2⟩ := foldl_min_le ns (min m n)
    refine ⟨by simp only [List.foldl_cons]; omega, fun y hy => ?_⟩
    simp only [List.foldl_cons]
    rcases List.mem_cons.mp hy with h | h
    · omega
    · exact h2 y h
theorem foldl_min_mem : ∀ (ns : List Int) (m : Int), ns.foldl min m ∈ m :: ns
  | [], m => by simp
  | n :: ns, m => by
    simp only [List.foldl_cons]
    rcases List.mem_cons.mp (foldl_min_mem ns (min m n)) with h | h
    · rw [h]
      by_cases q : m ≤ n
      · rw [Int.min_eq_left q]; simp
      · rw [Int.min_eq_right (by omega)]; simp
    · exact List.mem_cons_of_mem _ (List.mem_cons_of_mem _ h)
theorem foldl_min_eq {ns : List Int} {m k : Int} (hk : k ∈ m :: ns) (hle : ∀ y, y ∈ m :: ns → k ≤ y) : k = ns.foldl min m := by
  have h1 := hle _ (foldl_min_mem ns m)
  obtain ⟨h2, h3⟩ := foldl_min_le ns m
  rcases List.mem_cons.mp hk with h | h
  · omega
  · have := h3 k h; omega
theorem reads_ints {h : Heap} : ∀ {ns : List Int} {us : List Value}, Vals (ns.map V.int) us → ∃ as, ReadsAll h us (ns.map PyData.int) as
  | [], _, .nil => ⟨_, ReadsAll.nil⟩
  | n :: ns, _, .cons h1 h2 => by
    obtain ⟨t, rfl⟩ := h1
    obtain ⟨as, r⟩ := reads_ints (h := h) h2
    exact ⟨_, ReadsAll.cons (Reads.int n t) r⟩
theorem maxD_ints : ∀ (ns : List Int) (m : Int), PySem.W.maxD (.int m) (ns.map PyData.int) = .int (ns.foldl max m)
  | [], m => rfl
  | n :: ns, m => by
    have ih := maxD_ints ns (max m n)
    unfold PySem.W.maxD at ih ⊢
    rw [List.map_cons, List.foldl_cons, List.foldl_cons, ← ih, PySem.W.dataLt_int]
    congr 1
    by_cases h : m < n
    · rw [decide_eq_true h, if_pos rfl, Int.max_eq_right (by omega)]
    · rw [decide_eq_false h, if_neg (by simp), Int.max_eq_left (by omega)]
theorem alike_ints (ns : List Int) : PySem.W.AlikeAll (ns.map PyData.int) := by
  refine ⟨fun x hx y hy => ?_, fun x hx => ?_⟩
  · obtain ⟨a, _, rfl⟩ := List.mem_map.mp hx
    obtain ⟨b, _, rfl⟩ := List.mem_map.mp hy
    simp [PySem.W.alike]
  · obtain ⟨a, _, rfl⟩ := List.mem_map.mp hx
    simp
theorem depth_ints : ∀ ns : List Int, PyData.depthAll (ns.map PyData.int) = 0
  | [] => rfl
  | n :: ns => by simp [PyData.depthAll, PyData.depth, depth_ints ns]
/-- max, sum of a tuple of ints -/
theorem cr_maxT (hc : X.calm = true) (hu : X.A.units + 64 < cLine) : CallR X (.builtin "max") (fun vs H Q => ∃ (a : Addr) (m : Int) (ns : List Int), vs = [V.ref a] ∧ SqT X.K H a ((m :: ns).map V.int) ∧ Q (.int (ns.foldl max m)) H) := by
  intro pins s σ H vs us Q I r h
  obtain ⟨a, m, ns, rfl, hs, q⟩ := h
  obtain ⟨its, rv, hl, _⟩ := I.tuple hs
  rw [Vals.ref1 r]
  obtain ⟨as, hr⟩ := reads_ints (h := s.heap) rv
  refine PySem.W.max_tuple_data (x := .int m) (xs := ns.map PyData.int) (vs := its.toArray) (as := as) (I.ok.hd hc) hl hr (alike_ints (m :: ns)) ?_ fun i v h' tk bs hv hd hk => ?_
  · have := depth_ints (m :: ns)
    rw [List.map_cons] at this
    rw [this]; omega
  · rw [maxD_ints] at hd
    rcases reads_scal hd with ⟨p, e⟩ | ⟨_, e⟩ | ⟨b, _, e⟩ | ⟨i, t, rfl, e⟩ | ⟨z, t, _, e⟩
    · subst e; cases hd
    · cases e
    · cases e
    · cases e; exact ⟨.int _, H, I.kept hk, ⟨_, rfl⟩, q⟩
    · cases e
theorem cr_minT (hc : X.calm = true) (hu : X.A.units + 64 < cLine) : CallR X (.builtin "min") (fun vs H Q => ∃ (a : Addr) (m : Int) (ns : List Int), vs = [V.ref a] ∧ SqT X.K H a ((m :: ns).map V.int) ∧ Q (.int (ns.foldl min m)) H) := by
  intro pins s σ H vs us Q I r h
  obtain ⟨a, m, ns, rfl, hs, q⟩ := h
  obtain ⟨its, rv, hl, _⟩ := I.tuple hs
  rw [Vals.ref1 r]
  obtain ⟨as, hr⟩ := reads_ints (h := s.heap) rv
  refine PySem.W.min_tuple_data (x := .int m) (xs := ns.map PyData.int) (vs := its.toArray) (as := as) (I.ok.hd hc) hl hr (alike_ints (m :: ns)) ?_ fun i v h' tk bs hv hd hk => ?_
  · have := depth_ints (m :: ns)
    rw [List.map_cons] at this
    rw [this]; omega
  · rw [PySem.W.minD_ints] at hd
    rcases reads_scal hd with ⟨p, e⟩ | ⟨_, e⟩ | ⟨b, _, e⟩ | ⟨i, t, rfl, e⟩ | ⟨z, t, _, e⟩
    · subst e; cases hd
    · cases e
    · cases e
    · cases e; exact ⟨.int _, H, I.kept hk, ⟨_, rfl⟩, q⟩
    · cases e
theorem cr_sumT (hc : X.calm = true) : CallR X (.builtin "sum") (fun vs H Q => ∃ (a : Addr) (ns : List Int), vs = [V.ref a] ∧ SqT X.K H a (ns.map V.int) ∧ Q (.int ns.sum) H) := by
  intro pins s σ H vs us Q I r h
  obtain ⟨a, ns, rfl, hs, q⟩ := h
  obtain ⟨its, rv, hl, _⟩ := I.tuple hs
  rw [Vals.ref1 r]
  have hi := rv.ints
  obtain ⟨xs, e⟩ := hi.allInts.items
  have hn : numsOf (intItems xs).toList = ns := by rw [← e]; exact hi.numsOf
  rw [nums_intItems] at hn
  rw [e] at hl
  refine PySem.W.ktm_sumG (I.ok.hd hc) hl fun h' tk t' hk => ?_
  rw [preSum_eq, List.take_of_length_le (by simp), hn]
  exact ⟨.int _, H, I.kept hk, ⟨_, rfl⟩, q⟩
theorem sortI_eq {ns ns' : List Int} (h1 : ns'.Perm ns) (h2 : ns'.Pairwise (· ≤ ·)) : ns' = sortI ns := by
  have h3 : (sortI ns).Pairwise (· ≤ ·) := (List.pairwise_mergeSort (le := fun a b : Int => decide (a ≤ b)) (fun a b c h1 h2 => by simp only [decide_eq_true_eq] at *; omega) (fun a b => by simp only [Bool.or_eq_true, decide_eq_true_eq]; omega) ns).imp fun h => by simpa using h
  exact List.Perm.eq_of_pairwise (fun a b _ _ => Int.le_antisymm) h2 h3 (h1.trans (List.mergeSort_perm ns _).symm)
theorem rvs_ints {K : PySem.W.Frag} {n : Nat} : ∀ ns : List Int, RVs K ι n H (ns.map IV.int) (ns.map V.int)
  | [] => by simp only [List.map_nil, RVs]
  | x :: ns => RVs.cons (by simp only [RV]) (rvs_ints ns)
/-- tuple(a list) -/
theorem call_tupleN : CallR X (.type "tuple") (fun xs H Q => ∃ p ys, xs = [.ref p] ∧ SqL X.K H p ys ∧ ∀ (l : Addr) (o : Obj), H l = none → o.dict = none → Q (.ref l) (upd H l (.frz o (.tup ys)))) := by
  intro pins s σ H xs us Q I r ⟨p, ys, ex, hq, q⟩
  subst ex
  obtain ⟨u, rfl, rx⟩ := vals1 r
  cases rx
  obtain ⟨its, w, pl, hz⟩ := I.list hq
  have hl := w.length
  refine call_tuple_list pl.isList (fun h' kp => ?_) (by simp only [List.size_toArray] <;> omega)
  obtain ⟨I2, hf⟩ := tNew (I.kept (t' := s.toks) kp) w hz
  exact ⟨.ref _, _, I2, rfl, q _ _ hf rfl⟩
theorem blt_ok (hc : X.calm = true) (hg : X.A.guards = some []) (hu : X.A.units + 64 < cLine) (f : Bf) : CallR X (bV f) (rIl X.K cm (bltI f)) := by
  by_cases hf : f = .repr
  · subst hf; exact call_reprD hg hu
  intro pins s σ H xs us Q I r h
  obtain ⟨ι, S, as, rl, ra, q⟩ := h
  unfold bltI at q
  split at q
  · -- len
    obtain ⟨x, rfl, rx⟩ := ra.one
    rename_i a
    unfold lenI at q
    cases e : itemsI a S with
    | some ys =>
      rw [e] at q
      obtain ⟨p, vs, rfl, hq, hv⟩ := items_ok rl rx e
      exact call_len_seq pins s σ H _ us Q I r ⟨p, vs, rfl, hq, by rw [hv.length]; exact q.here rl (by simp only [RV])⟩
    | none =>
      rw [e] at q
      simp only [] at q
      split at q
      · simp only [RV] at rx; subst rx
        split at q
        · exact call_len_str pins s σ H _ us Q I r ⟨_, rfl, by rw [sizeLine_eq]; omega, q.here rl (by simp only [RV])⟩
        · exact q.elim
      · cases e1 : dctOf a S with
        | none => rw [e1] at q; exact q.elim
        | some kvs =>
          rw [e1] at q
          obtain ⟨n, ps, rfl, hn, hS, rfl, h1, h2, h3⟩ := dct_ok rl rx e1
          have hl : ps.length = kvs.length := by simpa using congrArg List.length h2
          cases r with
          | cons r1 r2 =>
            cases r2
            cases r1
            exact d_len I (.inl h1) fun t s' I' => ⟨.int (ps.length : Nat), H, I', ⟨t, rfl⟩, by rw [hl]; exact q.here rl (by simp only [RV])⟩
  · obtain ⟨x, rfl, rx⟩ := ra.one
    simp only [RV] at rx; subst rx
    exact call_abs pins s σ H _ us Q I r ⟨_, rfl, q.here rl (by simp only [RV])⟩
  · obtain ⟨x, y, rfl, rx, ry⟩ := ra.two
    simp only [RV] at rx ry; subst rx ry
    exact call_max2 hc pins s σ H _ us Q I r ⟨_, _, rfl, q.here rl (by simp only [RV])⟩
  · obtain ⟨x, y, rfl, rx, ry⟩ := ra.two
    simp only [RV] at rx ry; subst rx ry
    exact call_min2 hc pins s σ H _ us Q I r ⟨_, _, rfl, q.here rl (by simp only [RV])⟩
  · exact absurd rfl hf
  · obtain ⟨x, rfl, rx⟩ := ra.one
    simp only [RV] at rx; subst rx
    split at q
    · rename_i hm
      exact call_str_int pins s σ H _ us Q I r ⟨_, rfl, hm, q.here rl (by simp only [RV])⟩
    · exact q.elim
  · obtain ⟨x, rfl, rx⟩ := ra.one
    simp only [RV] at rx; subst rx
    exact call_int1 pins s σ H _ us Q I r (.inl ⟨_, rfl, q.here rl (by simp only [RV])⟩)
  · obtain ⟨x, rfl, rx⟩ := ra.one
    simp only [RV] at rx; subst rx
    exact call_int1 pins s σ H _ us Q I r (.inr ⟨_, rfl, q.here rl (by simp only [RV])⟩)
  · obtain ⟨x, rfl, rx⟩ := ra.one
    split at q
    · rename_i ys e
      obtain ⟨p, vs, rfl, hq, hv⟩ := items_ok rl rx e
      exact call_list_of pins s σ H _ us Q I r ⟨p, vs, rfl, hq, q.lst rl hv⟩
    · exact q.elim
  · obtain ⟨x, rfl, rx⟩ := ra.one
    split at q
    · rename_i ys e
      obtain ⟨p, vs, rfl, hq, hv⟩ := items_okN rl rx e
      rcases hq with hq | hq
      · exact call_tupleN pins s σ H _ us Q I r ⟨p, vs, rfl, hq, q.tup rl hv⟩
      · exact call_tuple_of pins s σ H _ us Q I r ⟨p, vs, rfl, .inr ⟨hq.toT, q.here rl (by simp only [RV]; exact ⟨p, vs, rfl, hq, hv⟩)⟩⟩
    · exact q.elim
  · obtain ⟨x, rfl, rx⟩ := ra.one
    split at q
    · rename_i ys e
      obtain ⟨p, vs, rfl, h1, h2⟩ := items_ok rl rx e
      split at q
      · rename_i ns e2
        have := ints_ok e2 h2
        subst this
        rcases h1 with h1 | h1
        · exact cr_sum hc pins s σ H _ us Q I r ⟨_, ns, rfl, h1, q.here rl (by simp only [RV])⟩
        · exact cr_sumT hc pins s σ H _ us Q I r ⟨_, ns, rfl, h1, q.here rl (by simp only [RV])⟩
      · exact q.elim
    · exact q.elim
  · obtain ⟨x, rfl, rx⟩ := ra.one
    split at q
    · rename_i ys e
      obtain ⟨vs, rfl, h1, h2⟩ := lst_ok rl rx e
      split at q
      · rename_i ns e2
        have := bls_ok e2 h2
        subst this
        exact cr_all hc pins s σ H _ us Q I r ⟨_, ns, rfl, .inl (.inl h1), q.here rl (by simp only [RV])⟩
      · exact q.elim
    · exact q.elim
  · obtain ⟨x, rfl, rx⟩ := ra.one
    split at q
    · rename_i ys e
      obtain ⟨vs, rfl, h1, h2⟩ := lst_ok rl rx e
      split at q
      · rename_i ns e2
        have := bls_ok e2 h2
        subst this
        exact cr_any hc pins s σ H _ us Q I r ⟨_, ns, rfl, .inl (.inl h1), q.here rl (by simp only [RV])⟩
      · exact q.elim
    · exact q.elim
  · obtain ⟨x, rfl, rx⟩ := ra.one
    split at q
    · rename_i ys e
      obtain ⟨p, vs, rfl, h1, h2⟩ := items_ok rl rx e
      split at q
      · rename_i m ns e2
        have := ints_ok e2 h2
        subst this
        rcases h1 with h1 | h1
        · refine cr_max hc pins s σ H _ us Q I r ⟨_, m :: ns, rfl, h1, by simp, fun k hk hle => ?_⟩
          rw [show k = ns.foldl max m from foldl_max_eq hk hle]
          exact q.here rl (by simp only [RV])
        · exact cr_maxT hc hu pins s σ H _ us Q I r ⟨_, m, ns, rfl, h1, q.here rl (by simp only [RV])⟩
      · exact q.elim
    · exact q.elim
  · obtain ⟨x, rfl, rx⟩ := ra.one
    split at q
    · rename_i ys e
      obtain ⟨p, vs, rfl, h1, h2⟩ := items_ok rl rx e
      split at q
      · rename_i m ns e2
        have := ints_ok e2 h2
        subst this
        rcases h1 with h1 | h1
        · refine cr_min hc pins s σ H _ us Q I r ⟨_, m :: ns, rfl, h1, by simp, fun k hk hle => ?_⟩
          rw [show k = ns.foldl min m from foldl_min_eq hk hle]
          exact q.here rl (by simp only [RV])
        · exact cr_minT hc hu pins s σ H _ us Q I r ⟨_, m, ns, rfl, h1, q.here rl (by simp only [RV])⟩
      · exact q.elim
    · exact q.elim
  · obtain ⟨x, rfl, rx⟩ := ra.one
    split at q
    · rename_i ys e
      obtain ⟨vs, rfl, h1, h2⟩ := lst_ok rl rx e
      split at q
      · rename_i ns e2
        have := ints_ok e2 h2
        subst this
        refine cr_sortedI pins s σ H _ us Q I r ⟨_, ns, rfl, .inl (.inl h1), fun ns' p hp hs hn => ?_⟩
        rw [sortI_eq hp hs]
        exact q.lst rl (rvs_ints _) p hn
      · exact q.elim
    · exact q.elim
  · exact q.elim
/-! ### isinstance -/
/-- the built-in types asked about -/
def tyN : Ty → String
  | .int => "int"
  | .bool => "bool"
  | .tuple => "tuple"
  | .str => "str"
  | .list => "list"
  | .dict => "dict"
  | .own _ => ""
def tyBlt : Ty → Bool
  | .own _ => false
  | _ => true
theorem sq_ty {K : PySem.W.Frag} {H : Hp} {p : Addr} {vs : List V} (h : SqT K H p vs) : TyX K H (.ref p) (.type "tuple") := by
  rcases h with (h | ⟨o, h⟩) | ⟨o, its, n, hk, hc, _⟩
  · exact .base (.tup h)
  · exact .fTuple h
  · exact .kTuple hk hc
theorem isi_ok (T : Ty) (hT : tyBlt T = true) : ∀ (H : Hp) (x : V) (Q : VK), rI1 X.K cm (fun a S => isiI a T S) x H Q → rIsi X.K [x, .ty (tyN T)] H Q := by
  intro H x Q h
  obtain ⟨ι, S, a, rl, ra, q⟩ := h
  have go : ∀ (t : String) (b : Bool), isiI a T S = .ok (.bl b) S → TyX X.K H x (.type t) → kitB t (tyN T) = some b → rIsi X.K [x, .ty (tyN T)] H Q := fun t b h0 h1 h2 => by
    refine ⟨x, _, .type t, .type (tyN T), b, rfl, .ty _, h1, kit_ty h2, ?_⟩
    have q' : OutV X.K cm ι S H (isiI a T S) Q := q
    rw [h0] at q'
    exact q'.here rl (by simp only [RV])
  cases a with
  | non =>
    simp only [RV] at ra; subst ra
    cases T <;> first | (simp [tyBlt] at hT; done) | exact go "NoneType" false rfl (.base .non) (by decide +kernel)
  | bl b =>
    simp only [RV] at ra; subst ra
    cases T <;> first | (simp [tyBlt] at hT; done) | exact go "bool" false rfl (.base (.bl b)) (by decide +kernel) | exact go "bool" true rfl (.base (.bl b)) (by decide +kernel)
  | int i =>
    simp only [RV] at ra; subst ra
    cases T <;> first | (simp [tyBlt] at hT; done) | exact go "int" false rfl (.base (.int i)) (by decide +kernel) | exact go "int" true rfl (.base (.int i)) (by decide +kernel)
  | str z =>
    simp only [RV] at ra; subst ra
    cases T <;> first | (simp [tyBlt] at hT; done) | exact go "str" false rfl (.base (.str z)) (by decide +kernel) | exact go "str" true rfl (.base (.str z)) (by decide +kernel)
  | tup xs =>
    simp only [RV] at ra
    obtain ⟨p, vs, rfl, h1, h2⟩ := ra
    cases T <;> first | (simp [tyBlt] at hT; done) | exact go "tuple" false rfl (sq_ty h1.toT) (by decide +kernel) | exact go "tuple" true rfl (sq_ty h1.toT) (by decide +kernel)
  | cls k => cases T <;> (simp only [isiI] at q; exact q.elim)
  | ref k =>
    simp only [RV] at ra
    obtain ⟨hk, rfl⟩ := ra
    cases e : S[k]? with
    | none => simp only [isiI, e] at q; exact q.elim
    | some c =>
      have hc := rl.cell k c e
      cases c with
      | lst ys =>
        obtain ⟨vs, e1, _⟩ := hc
        cases T <;> first | (simp [tyBlt] at hT; done) | exact go "list" false (by simp only [isiI, e]) (.base (.lst e1)) (by decide +kernel) | exact go "list" true (by simp only [isiI, e]) (.base (.lst e1)) (by decide +kernel)
      | frz ys =>
        obtain ⟨o, vs, e1, _⟩ := hc
        cases T <;> first | (simp [tyBlt] at hT; done) | exact go "list" false (by simp only [isiI, e]) (.base (.frz e1)) (by decide +kernel) | exact go "list" true (by simp only [isiI, e]) (.base (.frz e1)) (by decide +kernel)
      | dct ys =>
        obtain ⟨vs, e1, _⟩ := hc
        cases T <;> first | (simp [tyBlt] at hT; done) | exact go "dict" false (by simp only [isiI, e]) (.base (.dK e1)) (by decide +kernel) | exact go "dict" true (by simp only [isiI, e]) (.base (.dK e1)) (by decide +kernel)
      | ins c fs => simp only [isiI, e] at q; exact q.elim
/-! ### o.append(x) -/
theorem mth_append' {K : PySem.W.Frag} : ∀ (H : Hp) (x y : V) (Q : VK), (∃ ι S a b, Rel K cm ι S H ∧ RV K ι S.length H a x ∧ RV K ι S.length H b y ∧ OutV K cm ι S H (mthI "append" a [b] S) Q) → rAppend x [y] H Q := by
  intro H x y Q h
  obtain ⟨ι, S, a, b, rl, ra, rb, q⟩ := h
  unfold mthI at q
  split at q
  · rename_i n
    split at q
    · rename_i xs z e e2
      cases e2
      obtain ⟨vs, rfl, h1, h2⟩ := lst_ok rl ra e
      rw [if_pos rfl] at q
      split at q
      · rename_i hm
        simp only [szOk, decide_eq_true_eq] at hm
        have hk : n < S.length := (List.getElem?_eq_some_iff.mp e).1
        refine ⟨_, vs, y, rfl, rfl, h1, by rw [h2.length, sizeLine_eq]; omega, ?_⟩
        have ht : ∀ a vs', SqN K H a vs' → SqN K (upd H (ι n) (.lst (vs ++ [y]))) a vs' := fun _ _ hq => hq.upd_at fun _ _ z => by rw [h1] at z; cases z
        obtain ⟨r1, st⟩ := rl.put hk (o := .lst (vs ++ [y])) (c := .lst (xs ++ [b])) ⟨_, upd_same, (h2.append (RVs.cons rb .nil)).map ht (fun _ _ => rfl) (Nat.le_refl _)⟩
        exact q _ _ _ st r1 (by simp only [RV])
      · exact q.elim
    · exact q.elim
  · exact q.elim
theorem mth_extend' {K : PySem.W.Frag} : ∀ (H : Hp) (x y : V) (Q : VK), (∃ ι S a b, Rel K cm ι S H ∧ RV K ι S.length H a x ∧ RV K ι S.length H b y ∧ OutV K cm ι S H (mthI "extend" a [b] S) Q) → rExtend x [y] H Q := by
  intro H x y Q h
  obtain ⟨ι, S, a, b, rl, ra, rb, q⟩ := h
  unfold mthI at q
  split at q
  · rename_i n
    split at q
    · rename_i xs z e e2
      cases e2
      obtain ⟨vs, rfl, h1, h2⟩ := lst_ok rl ra e
      rw [if_neg (by decide), if_neg (by decide), if_pos rfl] at q
      split at q
      · rename_i m
        split at q
        · rename_i zs e3
          obtain ⟨ws, hy, h3, h4⟩ := lst_ok rl rb e3
          split at q
          · rename_i hm
            simp only [szOk, decide_eq_true_eq] at hm
            have hk : n < S.length := (List.getElem?_eq_some_iff.mp e).1
            refine ⟨_, _, vs, ws, rfl, by rw [hy], h1, h3, by rw [h2.length, h4.length, sizeLine_eq]; omega, ?_⟩
            have ht : ∀ a vs', SqN K H a vs' → SqN K (upd H (ι n) (.lst (vs ++ ws))) a vs' := fun _ _ hq => hq.upd_at fun _ _ z => by rw [h1] at z; cases z
            obtain ⟨r1, st⟩ := rl.put hk (o := .lst (vs ++ ws)) (c := .lst (xs ++ zs)) ⟨_, upd_same, (h2.append h4).map ht (fun _ _ => rfl) (Nat.le_refl _)⟩
            exact q _ _ _ st r1 (by simp only [RV])
          · exact q.elim
        · exact q.elim
      · exact q.elim
    · exact q.elim
  · exact q.elim
theorem mth_pop' {K : PySem.W.Frag} : ∀ (H : Hp) (x y : V) (Q : VK), (∃ ι S a b, Rel K cm ι S H ∧ RV K ι S.length H a x ∧ RV K ι S.length H b y ∧ OutV K cm ι S H (mthI "pop" a [b] S) Q) → rPopAt x [y] H Q := by
  intro H x y Q h
  obtain ⟨ι, S, a, b, rl, ra, rb, q⟩ := h
  unfold mthI at q
  split at q
  · rename_i n
    split at q
    · rename_i xs z e e2
      cases e2
      obtain ⟨vs, rfl, h1, h2⟩ := lst_ok rl ra e
      rw [if_neg (by decide), if_neg (by decide), if_neg (by decide), if_pos rfl] at q
      split at q
      · rename_i i
        simp only [RV] at rb
        subst rb
        split at q
        · rename_i hm
          simp only [Bool.and_eq_true, decide_eq_true_eq] at hm
          cases ej : seqIndex? i xs.length with
          | none => rw [ej] at q; exact q.elim
          | some j =>
            rw [ej] at q
            simp only [] at q
            cases ex : xs[j]? with
            | none => rw [ex] at q; exact q.elim
            | some z =>
              rw [ex] at q
              obtain ⟨w, hw, rw'⟩ := h2.get ex
              have hk : n < S.length := (List.getElem?_eq_some_iff.mp e).1
              refine ⟨_, vs, i, j, w, rfl, rfl, h1, by omega, by omega, by rw [h2.length]; exact ej, hw, ?_⟩
              have ht : ∀ a vs', SqN K H a vs' → SqN K (upd H (ι n) (.lst (vs.eraseIdx j))) a vs' := fun _ _ hq => hq.upd_at fun _ _ z => by rw [h1] at z; cases z
              have he : RVs K ι S.length H (xs.eraseIdx j) (vs.eraseIdx j) := by
                rw [List.eraseIdx_eq_take_drop_succ, List.eraseIdx_eq_take_drop_succ]
                exact (h2.take j).append (h2.drop (j + 1))
              obtain ⟨r1, st⟩ := rl.put hk (o := .lst (vs.eraseIdx j)) (c := .lst (xs.eraseIdx j)) ⟨_, upd_same, he.map ht (fun _ _ => rfl) (Nat.le_refl _)⟩
              exact q _ _ _ st r1 (by simpa using rw'.step rl st)
        · exact q.elim
      · exact q.elim
    · exact q.elim
  · exact q.elim
/-- t.index(x) of flat items -/
def rTidx (K : PySem.W.Frag) : V → List V → Hp → VK → Prop := fun x xs H Q => ∃ a ys y j z, x = .ref a ∧ xs = [y] ∧ SqT K H a ys ∧ flatV y = true ∧ ys.all flatV = true ∧ ys[j]? = some z ∧ eqV z y = true ∧ (∀ m z', m < j → ys[m]? = some z' → eqV z' y = false) ∧ Q (.int (j : Nat)) H
theorem mt_tidx {X : Cx} : MtR X "tuple.index" (rTidx X.K) := by
  intro pins s σ H x xs v us Q I rx rxs h
  obtain ⟨a, ys, y, j, z, rfl, rfl, hs, fy, fys, hz, hzj, hno, q⟩ := h
  cases rx
  cases rxs with
  | cons ry rt =>
    rename_i uy ut
    cases rt
    obtain ⟨its, rv, pl, hlen⟩ := I.tuple hs
    obtain ⟨⟨cls, dd, dt, sl⟩, ho, hc, n, hd⟩ := pl
    simp only at hc hd
    subst hc hd
    obtain ⟨u, hu, ru⟩ := rv.get hz
    obtain ⟨hjl, hje⟩ := List.getElem?_eq_some_iff.mp hu
    have hvl := rv.length
    have hj : j < its.toArray.size := by simpa using hjl
    have hsl := sizeLine_eq
    refine call_meets PySem.F.slot_tuple_index ⟨_, ho, rfl⟩ PySem.F.entry_tuple_index (PySem.F.args_tuple_index_2 _ _)
      (TI.tuple_indexAt a its.toArray n dd sl uy (eqU y) j hj ?_ ?_) ⟨ho, fun u' hu' => mem_eqAt ry fy rv fys u' (by simpa using hu'), ?_⟩
    · have e1 : its.toArray[j] = u := by simpa using hje
      rw [e1, eqU_of ru (flat_at fys hz)]
      exact hzj
    · intro m hm hmj
      have hml : m < its.length := by simpa using hm
      have hmy : m < ys.length := by omega
      have hy' : ys[m]? = some ys[m] := List.getElem?_eq_getElem hmy
      obtain ⟨u2, hu2, ru2⟩ := rv.get hy'
      obtain ⟨_, hme⟩ := List.getElem?_eq_some_iff.mp hu2
      have e1 : its.toArray[m] = u2 := by simpa using hme
      rw [e1, eqU_of ru2 (flat_at fys hy')]
      exact hno m _ hmj hy'
    · exact ⟨.int (j : Nat), H, I.tok _, ⟨_, rfl⟩, q⟩
theorem mt_tidxA {X : Cx} : MtR X "tuple.index" (fun x xs H Q => ∃ ι S ys bs, Rel X.K cm ι S H ∧ RV X.K ι S.length H (.tup ys) x ∧ RVs X.K ι S.length H bs xs ∧ OutV X.K cm ι S H (mth2 "index" (.tup ys) bs S) Q) := by
  intro pins s σ H x xs0 v us Q I rx rxs h
  obtain ⟨ι, S, ys, bs, rl, ra, rb, q⟩ := h
  unfold mth2 at q
  split at q
  · rename_i xs y e
    cases e
    obtain ⟨w, rfl, rw'⟩ := RVs.one rb
    rw [if_pos rfl] at q
    split at q
    · rename_i hf
      rw [Bool.and_eq_true] at hf
      split at q
      · rename_i j ej
        obtain ⟨hj, p1, p2⟩ := List.findIdx?_eq_some_iff_getElem.mp ej
        simp only [RV] at ra
        obtain ⟨a, vs, rfl, h1, h2⟩ := ra
        obtain ⟨v, hv, rv⟩ := h2.get (List.getElem?_eq_getElem hj)
        have fl : ∀ m (hm : m < ys.length), flatI ys[m] = true := fun m hm => List.all_eq_true.mp hf.2 _ (List.getElem_mem hm)
        refine mt_tidx pins s σ H _ _ _ us Q I rx rxs ⟨_, vs, w, j, v, rfl, rfl, h1.toT, flat_ok hf.1 rw', flats_ok hf.2 h2, hv, by rw [eqF_ok (fl j hj) hf.1 rv rw']; exact p1, fun m z' hm hz => ?_, q.here rl (by simp only [RV])⟩
        obtain ⟨v', hv', rv'⟩ := h2.get (List.getElem?_eq_getElem (show m < ys.length by omega))
        rw [hz] at hv'; cases hv'
        rw [eqF_ok (fl m (by omega)) hf.1 rv' rw']
        simpa using p2 m hm
      · exact q.elim
    · exact q.elim
  · exact q.elim
/-- l.index(x): of flat items, or by data -/
def rIdxA (K : PySem.W.Frag) (cm : Cm) : V → List V → Hp → VK → Prop := fun x xs H Q => ∃ ι S a b y, xs = [y] ∧ Rel K cm ι S H ∧ RV K ι S.length H a x ∧ RV K ι S.length H b y ∧ OutV K cm ι S H (mthI "index" a [b] S) Q
theorem mt_indexA {X : Cx} (hu : X.A.units + 70 < cLine) : MtR X "list.index" (rIdxA X.K cm) := by
  intro pins s σ H x xs0 v us Q I rx rxs h
  obtain ⟨ι, S, a, b, y, rfl, rl, ra, rb, q⟩ := h
  unfold mthI at q
  split at q
  · rename_i n
    split at q
    · rename_i xs z e e2
      cases e2
      have ra0 := ra
      obtain ⟨vs, rfl, h1, h2⟩ := lst_ok rl ra e
      rw [if_neg (by decide), if_pos rfl] at q
      split at q
      · rename_i hf
        rw [Bool.and_eq_true] at hf
        split at q
        · rename_i j ej
          obtain ⟨hj, p1, p2⟩ := List.findIdx?_eq_some_iff_getElem.mp ej
          obtain ⟨v, hv, rv⟩ := h2.get (List.getElem?_eq_getElem hj)
          have fl : ∀ m (hm : m < xs.length), flatI xs[m] = true := fun m hm => List.all_eq_true.mp hf.2 _ (List.getElem_mem hm)
          refine mt_index pins s σ H _ _ _ us Q I rx rxs ⟨_, vs, y, j, v, rfl, rfl, .inl (.inl h1), flat_ok hf.1 rb, flats_ok hf.2 h2, hv, by rw [eqF_ok (fl j hj) hf.1 rv rb]; exact p1, fun m z' hm hz => ?_, q.here rl (by simp only [RV])⟩
          obtain ⟨v', hv', rv'⟩ := h2.get (List.getElem?_eq_getElem (show m < xs.length by omega))
          rw [hz] at hv'; cases hv'
          rw [eqF_ok (fl m (by omega)) hf.1 rv' rb]
          simpa using p2 m hm
        · exact q.elim
      · cases e1 : seqD (toD S (.ref n)) with
        | none => rw [e1] at q; exact q.elim
        | some ds =>
          cases e2 : toD S b with
          | none => rw [e1, e2] at q; exact q.elim
          | some d =>
            rw [e1, e2] at q
            simp only [] at q
            split at q
            · rename_i hs
              rw [Bool.and_eq_true] at hs
              split at q
              · rename_i j ej
                obtain ⟨hj, p1, p2⟩ := List.findIdx?_eq_some_iff_getElem.mp ej
                cases rx
                cases rxs with
                | cons ry rt =>
                  cases rt
                  obtain ⟨bs, r1, _⟩ := toD_reads I rl rb ry e2
                  have hl : ∃ as, Reads s.heap (.ref (ι n)) (.list ds) as := by
                    rcases seqD_cases e1 with e3 | e3
                    · obtain ⟨as, r2, _⟩ := toD_reads I rl ra0 rfl e3
                      exact ⟨as, r2⟩
                    · simp only [toD, goD, refs, refD, e] at e3
                      split at e3 <;> cases e3
                  obtain ⟨as, r2⟩ := hl
                  have hroom := room_in (ds := ds) hs.1 hu
                  obtain ⟨its0, rv0, _, hlen0⟩ := I.list (.inl (.inl h1))
                  cases r2 with
                  | @list a' o' vs' n' ds' as' ho hc hdt h4 =>
                    obtain ⟨cls, dd, data, sls⟩ := o'
                    simp only at hc hdt
                    subst hc hdt
                    have hn : vs'.toList.length = ds.length := SeqAt.ReadsAll.length ds _ _ h4
                    have hmap : vs'.toList.map (SeqAt.readOf s.heap) = ds := SeqAt.readsAll_map ds _ _ hs.2 h4
                    have hj2 : j < vs'.size := by rw [← Array.length_toList, hn]; exact hj
                    have at_ : ∀ (m : Nat) (hm : m < vs'.size) (hm2 : m < ds.length), SeqAt.readOf s.heap vs'[m] = ds[m] := by
                      intro m hm hm2
                      have : (vs'.toList.map (SeqAt.readOf s.heap))[m]? = ds[m]? := by rw [hmap]
                      rw [List.getElem?_map, List.getElem?_eq_getElem (by rw [Array.length_toList]; exact hm), List.getElem?_eq_getElem hm2] at this
                      simpa using this
                    have hz : vs'.size ≤ sizeLine := by
                      have q2 := I.list (.inl (.inl h1))
                      obtain ⟨its, rv, ⟨o2, n2, ho2, _, _, hd2⟩, hz⟩ := q2
                      rw [ho] at ho2
                      cases ho2
                      simp only at hd2
                      cases hd2
                      rw [List.size_toArray, ← rv.length]; exact hz
                    refine call_meets PySem.F.slot_list_index ⟨_, ho, rfl⟩ PySem.F.entry_list_index (PySem.F.args_list_index_2 _ _)
                      (SeqAt.list_indexAt (ι n) vs' _ dd sls _ (fun u => PyData.eqv (SeqAt.readOf s.heap u) d) j hj2 (by rw [sizeLine_eq] at hz; omega) ?_ ?_) ⟨ho, SeqAt.items_eqAt h4 r1 hs.2 (SeqAt.canLay_of_shaped hs.1) hroom, ?_⟩
                    · show PyData.eqv (SeqAt.readOf s.heap vs'[j]) d = true
                      rw [at_ j hj2 hj]; exact p1
                    · intro m hm hmj
                      show PyData.eqv (SeqAt.readOf s.heap vs'[m]) d = false
                      rw [at_ m hm (by omega)]
                      simpa using p2 m hmj
                    · exact ⟨.int (j : Nat), H, I.tok _, ⟨_, rfl⟩, q.here rl (by simp only [RV])⟩
              · exact q.elim
            · exact q.elim
    · exact q.elim
  · exact q.elim
end
end Wg
/-! WgH: from the model's syntax to ours; calls of own defs. -/
namespace Wg
open PySem PySem.Spec PyProof.Rows L2
/-! ### the step from one syntax to the other -/
/-- hot: within an except suite -/
structure CC where
  N : List Str
  sc : Scope
  hot : Bool := false
structure GI where
  defs : List Str
  glob : List Str
  blt : List Str
  exc : List Str
  cls : List Str := []
  atts : List Str := []
  mets : List Str := []
def visK (c : CC) (x : Str) : Bool := match c.sc.names.lookup x with
  | some .local => true
  | some .cell => true
  | some .free => true
  | _ => false
def isGl (c : CC) (x : Str) : Bool := match c.sc.names.lookup x with
  | some .globalImplicit => true
  | _ => false
def plainN (x : Str) : Bool := !(x == "__debug__") && !(x == "__classdict__") && decide (x ≠ "__name__")
def bfs : List Bf := [.len, .abs, .max, .min, .repr, .str, .int, .list, .tuple, .sum, .all, .any, .sorted]
def bfOf (x : Str) : Option Bf := bfs.find? fun f => decide (bN f = x)
def tys : List Ty := [.int, .bool, .tuple, .str, .list, .dict]
def tyOf (x : Str) : Option Ty := tys.find? fun T => decide (Str.ofString (tyN T) = x)
def opOf : Operator → Option Bop
  | .Add => some .add
  | .Sub => some .sub
  | .Mult => some .mul
  | .FloorDiv => some .fdiv
  | .Mod => some .mod
  | .Pow => some .pow
  | _ => none
def cpOf : CmpOp → Option Cop
  | .Eq => some .eq
  | .NotEq => some .ne
  | .Lt => some .lt
  | .LtE => some .le
  | .Gt => some .gt
  | .GtE => some .ge
  | .In => some .isin
  | .NotIn => some .notin
  | .Is => some .is
  | .IsNot => some .isnot
def ixOf (N : List Str) (x : Str) : Option Nat := N.findIdx? fun y => decide (y = x)
def andL : List PX → Option PX
  | [] => none
  | [p] => some p
  | p :: r => match andL r with | some q => some (.and p q) | none => none
def orL : List PX → Option PX
  | [] => none
  | [p] => some p
  | p :: r => match orL r with | some q => some (.or p q) | none => none
/-- a name as a target -/
def cpTn (c : CC) (x : Str) : Option Nat := match c.sc.names.lookup x with
  | some .local => ixOf c.N x
  | some .cell => ixOf c.N x
  | _ => none
def cpT : Nat → CC → Expr → Option Tg
  | 0, _, _ => none
  | n + 1, c, e => match e with
    | .Name x _ => (cpTn c x).map Tg.nm
    | .Tuple es _ _ => if c.hot then none else (optAll (cpT n c) es).map Tg.tp
    | _ => none
mutual
def Tg.ins : Tg → List Nat
  | .nm i => [i]
  | .tp ts => tgIns ts
def tgIns : List Tg → List Nat
  | [] => []
  | t :: ts => t.ins ++ tgIns ts
end
def ownOf (N : List Str) (scope : Scope) : List (Str × Nat) := scope.names.filterMap fun p => match p.2 with
  | .local => (ixOf N p.1).map fun i => (p.1, i)
  | .cell => (ixOf N p.1).map fun i => (p.1, i)
  | _ => none
def noIf : Expr → Bool
  | .IfExp _ _ _ _ => false
  | _ => true
def noSup : Expr → Bool
  | .Call (.Name _ _) [] [] _ => false
  | _ => true
def noFold : Expr → Bool
  | .Set _ _ _ => false
  | _ => true
/-- arguments whose last one is starred -/
def cpStar (f : Expr → Option PX) : List Expr → Option (List PX × PX)
  | [] => none
  | [.Starred e _] => (f e).map fun p => ([], p)
  | e :: es => match f e, cpStar f es with
    | some p, some (ps, q) => some (p :: ps, q)
    | _, _ => none
def isTup : Expr → Bool
  | .Tuple _ _ _ => true
  | _ => false
def isNm : Expr → Bool
  | .Name _ _ => true
  | _ => false
def cpIt (f : Expr → Option PX) (g : GI) (c : CC) (tg e : Expr) : Option PIt := match e with
  | .Call (.Name x _) [.Starred a _] [] _ => if x = "zip" then (if isGl c x && decide (x ∈ g.blt) && isNm tg then (f a).map .zips else none) else (f e).map .val
  | .Call (.Name x _) [a] [] _ => if x = "range" then (if isGl c x && decide (x ∈ g.blt) then (f a).map fun p => .rng [p] else none)
    else if x = "enumerate" then (if isGl c x && decide (x ∈ g.blt) && isTup tg then (f a).map .enum else none)
    else (f e).map .val
  | .Call (.Name x _) [a, b] [] _ => if x = "zip" then (if isGl c x && decide (x ∈ g.blt) && isTup tg then (match f a, f b with
      | some p, some q => some (.zip p q)
      | _, _ => none) else none) else if x = "range" then (if isGl c x && decide (x ∈ g.blt) then (match f a, f b with
      | some p, some q => some (.rng [p, q])
      | _, _ => none) else none) else (f e).map .val
  | e => (f e).map .val
/-- a list that nothing else can hold is made on the way -/
def isLc : PX → Bool
  | .lc _ _ _ _ _ => true
  | .gc e => isLc e
  | _ => false
def gcW (ps : List PX) (e : PX) : PX := if ps.any isLc then .gc e else e
/-- the argument of range(..), the only one of a call -/
def rgOf (g : GI) (c : CC) : List Expr → Option Expr
  | [.Call (.Name x _) [a] [] _] => if decide (x = "range") && isGl c x && decide (x ∈ g.blt) then some a else none
  | _ => none
/-- the argument of set(..), the only one of a call -/
def stOf (g : GI) (c : CC) : List Expr → Option Expr
  | [.Call (.Name x _) [a] [] _] => if decide (x = "set") && isGl c x && decide (x ∈ g.blt) then some a else none
  | _ => none
/-- list, tuple -/
def isLT : Bf → Option Bool
  | .list => some false
  | .tuple => some true
  | _ => none
def cpE (g : GI) : Nat → CC → Expr → Option PX
  | 0, _, _ => none
  | n + 1, c, e => match e with
    | .Constant (.int i) _ _ => some (.k (.int i))
    | .Constant (.bool b) _ _ => some (.k (.bl b))
    | .Constant .none _ _ => some (.k .non)
    | .Constant (.str x) _ _ => some (.k (.str x))
    | .Name x _ => if plainN x then (if visK c x then (ixOf c.N x).map .loc else if isGl c x && decide (x ∈ g.glob) then some (.glb x) else if isGl c x && decide (x ∈ g.cls) then some (.k (.cls x)) else none) else none
    | .Attribute o f _ => if decide (f ∈ g.atts) && noSup o && !c.hot then (cpE g n c o).map (.att f) else none
    | .BinOp a op b _ => match opOf op, cpE g n c a, cpE g n c b with
      | some o, some p, some q => some (.bin o p q)
      | _, _, _ => none
    | .UnaryOp .USub a _ => (cpE g n c a).map .neg
    | .UnaryOp .Not a _ => if noIf a then (cpE g n c a).map .not else none
    | .Compare a [op] [b] _ => if behindInMarks op b then none else match cpOf op, cpE g n c a, cpE g n c b with
      | some o, some p, some q => some (gcW [p, q] (.cmp o p q))
      | _, _, _ => none
    | .Compare a [op, op'] [b, d] _ => if lastMarks [op, op'] [b, d] then none else match cpOf op, cpOf op', cpE g n c a, cpE g n c b, cpE g n c d with
      | some o, some o', some p, some q, some r => some (.chain o o' p q r)
      | _, _, _, _, _ => none
    | .BoolOp .And es _ => if es.all noIf = false then none else match optAll (cpE g n c) es with | some ps => andL ps | none => none
    | .BoolOp .Or es _ => if es.all noIf = false then none else match optAll (cpE g n c) es with | some ps => orL ps | none => none
    | .IfExp t a b _ => if noIf t = false then none else match cpE g n c t, cpE g n c a, cpE g n c b with
      | some p, some q, some r => some (.ite p q r)
      | _, _, _ => none
    | .Tuple es _ _ => (optAll (cpE g n c) es).map .tup
    | .List es _ => (optAll (cpE g n c) es).map .lst
    | .Dict [] [] _ => some (.dct [])
    | .Dict [some (.Constant (.int i) _ _)] [.Constant (.int j) _ _] _ => some (.dct [(.k (.int i), .k (.int j))])
    | .Dict [some a] [b] _ => match cpE g n c a, cpE g n c b with
      | some p, some q => some (.dc1 p q)
      | _, _ => none
    | .Subscript a (.Slice none none (some (.UnaryOp .USub (.Constant (.int 1) _ _) _)) _) _ => (cpE g n c a).map .rev
    | .Subscript a (.Slice lo hi none _) _ => match cpE g n c a, (match lo with | none => some none | some l => (cpE g n c l).map some), (match hi with | none => some none | some l => (cpE g n c l).map some) with
      | some p, some l, some h => some (.sl p l h)
      | _, _, _ => none
    | .Subscript a b _ => match cpE g n c a, cpE g n c b with
      | some p, some q => some (.ix p q)
      | _, _ => none
    | .Call (.Name f fp) args [] _ => if plainN f && isGl c f && !decide (f ∈ g.cls) then (if f ∈ g.defs then if c.hot then none else (match optAll (cpE g n c) args with
          | some ps => some (gcW ps (.call f ps))
          | none => (cpStar (cpE g n c) args).map fun q => .calls f q.1 q.2)
        else if f ∈ g.blt then (if f = "isinstance" then (match args with
          | [a, .Name T _] => if plainN T && isGl c T && decide (T ∈ g.blt) then (match tyOf T, cpE g n c a with | some ty, some p => some (.isi p ty) | _, _ => none)
            else if plainN T && isGl c T && decide (T ∈ g.cls) then (cpE g n c a).map fun p => .iso p T else none
          | _ => none) else if c.hot then none else match bfOf f, args with
            | some b, _ :: _ => (match optAll (cpE g n c) args with
              | some ps => some (.blt b ps)
              | none => match rgOf g c args, isLT b with
                | some a, some t => (cpE g n c a).map (.rgs t)
                | _, _ => match stOf g c args, b with
                  | some a, .len => (cpE g n c a).map .lset
                  | _, _ => none)
            | _, _ => none) else none)
        else if c.hot then none else (match cpE g n c (.Name f fp) with
          | some q => (match optAll (cpE g n c) args with
            | some ps => some (gcW ps (.new q ps))
            | none => (cpStar (cpE g n c) args).map fun z => .news q z.1 z.2)
          | none => none)
    | .Call (.Attribute o m apos) args [] pos => if (apos.endLine == pos.line) && noSup o && decide (args.length < 20) then (if m ∈ g.mets ∧ m ∈ g.atts then if c.hot then none else (match cpE g n c o, optAll (cpE g n c) args with
        | some p, some ps => some (gcW ps (.met m p ps))
        | _, _ => none) else match args with
          | [a] => if decide (m = "append") || decide (m = "index") || decide (m = "extend") || decide (m = "pop") then (match cpE g n c o, cpE g n c a with
            | some p, some q => some (gcW [q] (.mth m p [q]))
            | _, _ => none) else none
          | _ => none) else none
    | .ListComp elt [⟨tg, iter, ifs, 0⟩] scope _ => if blkC c.N c.sc scope (ownOf c.N scope) && noFold iter && !c.hot then (match cpT n ⟨c.N, scope, false⟩ tg, cpIt (cpE g n c) g c tg iter, optAll (cpE g n ⟨c.N, relS scope c.sc, false⟩) ifs, cpE g n ⟨c.N, relS scope c.sc, false⟩ elt with
        | some t, some it, some fs, some p => if fs.length ≤ 1 && ifs.all noIf && t.ins.all (fun i => decide (i ∈ (ownOf c.N scope).map (·.2))) then some (.lc ((ownOf c.N scope).map (·.2)) t it fs p) else none
        | _, _, _, _ => none) else none
    | _ => none
/-! ### defs that are called -/
section
variable (K : PySem.W.Frag) (cm : Cm)
def OutC (ι : Nat → Addr) (S : Sto) (H : Hp) (r : Rs IV) (Q : VK) (E : XK) : Prop := match r with
  | .ok a S' => ∀ ι' H' v, Step ι S H ι' S' H' → Rel K cm ι' S' H' → RV K ι' S'.length H' a v → Q v H'
  | .exc c S' => ∀ ι' H', Step ι S H ι' S' H' → Rel K cm ι' S' H' → ∀ C, cm c = some C → E (.ref C) none H'
  | .bad => False
/-- the promise of a def, by its evaluation -/
def spI (m : List IV → Sto → Rs IV) : Sp := fun vs H Q E => ∃ ι S ivs, Rel K cm ι S H ∧ RVs K ι S.length H ivs vs ∧ OutC K cm ι S H (m ivs S) Q E
end
/-- a def keeps a promise where no repr is under way -/
structure FnG (P : Program) (w : World) (K : PySem.W.Frag) (mg : Str → Option Value) (base : Heap) (k : Nat) (f : Addr) (sp : Sp) : Prop where
  run : ∀ (A : Around) (outer : List Env) (s : Shared) (H : Hp) (us : List Value) (vs : List V) (Q : VK) (E : XK), Room (2 * k + 1) A → A.guards = some [] → Env0 P w K mg base A outer s H → Vals vs us → sp vs H Q E →
    codeAny (model P w) A (.call (.ref f) ⟨us, []⟩) (CR (L2.CX P w) outer P w H s Q E) s
section
variable {X : Cx} {k : Nat} {f : Addr} {sp : Sp} {W : WX} {x : Str} {p pos : Pos} {e : Expr} {es : List Expr} {t : TA}
theorem run_fnG {pins : List (Addr × Obj)} {σ : L2.St} {H : Hp} {s : Shared} {Q : VK} {us : List Value} {vs : List V} (F : FnG X.prog X.w X.K X.mg X.base k f sp) (hr : Room (2 * k + 1) X.A) (hg : X.A.guards = some []) (tk : Takes X W)
    (I : Inv X pins σ H s) (r : Vals vs us) (h : sp vs H Q (WE W σ)) : wpAny (model X.prog X.w) X.A (call (.ref f) us) (EP X pins σ Q) X.xe s := by
  have key := F.run X.A X.stack s H us vs Q (WE W σ) hr hg I.env0 r h
  refine wpAny_call (codeAny_mono key fun r s' hq => ?_)
  match r, hq with
  | .error e, hq => exact passAt tk σ pins H s e s' I hq
  | .ok (.ret u), hq => exact I.after hq
theorem pe_callG (F : FnG X.prog X.w X.K X.mg X.base k f sp) (hr : Room (2 * k + 1) X.A) (hgd : X.A.guards = some []) (hg : Gl X x) (hm : X.mg x = some (.ref f)) (hk : PySem.W.keepIn X.K (.ref f) = true) (tk : Takes X W)
    (ha : PA X (e :: es) t) (hdb : (x == ("__debug__" : Str)) = false) (he : starEach (e :: es) X.env = (false, eval e X.env) :: starEach es X.env) (hpl : (backTo pos (starEach es X.env)).any (·.1) = false) :
    PE X (.Call (.Name x p) (e :: es) [] pos) (tCallS sp (WE W) t) := by
  refine ⟨fun pins s σ H Q I h => wpAny_Call_Name_kw (ld_glob I hg hm ?_ hdb)⟩
  have args := ha.run pos pins s σ H _ I h
  exact PySem.W.callWith_K (h₀ := X.base) I.ok.mod.kin hk (thn args fun us s1 ⟨vs, H1, I1, r, q⟩ => ⟨I1.kIn, run_fnG F hr hgd tk I1 r q⟩) he hpl
theorem pe_callG0 (F : FnG X.prog X.w X.K X.mg X.base k f sp) (hr : Room (2 * k + 1) X.A) (hgd : X.A.guards = some []) (hg : Gl X x) (hm : X.mg x = some (.ref f)) (hk : PySem.W.keepIn X.K (.ref f) = true) (tk : Takes X W) (hdb : (x == ("__debug__" : Str)) = false) :
    PE X (.Call (.Name x p) [] [] pos) (tCallS sp (WE W) tNil) := by
  refine ⟨fun pins s σ H Q I h => wpAny_Call_Name_kw (ld_glob I hg hm ?_ hdb)⟩
  exact PySem.W.callWith_K0 I.kIn hk (run_fnG (us := []) F hr hgd tk I .nil h)
end
end Wg
/-! WiA: starred calls, new instances, attributes, methods, by promises FnG. -/
namespace Wg
open PySem PySem.Spec PyProof.Rows L2 StX ClX
section
variable {X : Cx} {k : Nat} {f C : Addr} {sp : Sp} {W : WX} {x m : Str} {p pos sp_ apos : Pos} {e o fe : Expr} {es : List Expr} {te tf ta : TE} {t : TA}
/-- x(e, .., *y) -/
theorem pe_callGS2 (F : FnG X.prog X.w X.K X.mg X.base k f sp) (hr : Room (2 * k + 1) X.A) (hgd : X.A.guards = some []) (hg : Gl X x) (hm : X.mg x = some (.ref f)) (hk : PySem.W.keepIn X.K (.ref f) = true) (tk : Takes X W)
    (ha : PA X (e :: es) t) (hdb : (x == ("__debug__" : Str)) = false) (he : starEach (e :: es) X.env = (false, eval e X.env) :: starEach es X.env) (hst : (backTo pos (starEach es X.env)).any (·.1) = true) :
    PE X (.Call (.Name x p) (e :: es) [] pos) (tCallS sp (WE W) t) := by
  refine ⟨fun pins s σ H Q I h => wpAny_Call_Name_kw (ld_glob I hg hm ?_ hdb)⟩
  have args := ha.run pos pins s σ H _ I h
  exact PySem.W.callWith_S2 (h₀ := X.base) I.ok.mod.kin hk (thn args fun us s1 ⟨vs, H1, I1, r, q⟩ => ⟨I1.kIn, run_fnG F hr hgd tk I1 r q⟩) he hst
/-- x(*y) -/
theorem pe_callGS1 (F : FnG X.prog X.w X.K X.mg X.base k f sp) (hr : Room (2 * k + 1) X.A) (hgd : X.A.guards = some []) (hg : Gl X x) (hm : X.mg x = some (.ref f)) (hk : PySem.W.keepIn X.K (.ref f) = true) (tk : Takes X W)
    (he : PE X e te) (hdb : (x == ("__debug__" : Str)) = false) (hst : starEach [.Starred e sp_] X.env = [(true, eval e X.env)]) :
    PE X (.Call (.Name x p) [.Starred e sp_] [] pos) (fun σ H Q => te σ H fun y H1 => ∃ a xs, y = V.ref a ∧ (SqT X.K H1 a xs ∨ SqL X.K H1 a xs) ∧ sp xs H1 Q (WE W σ)) := by
  refine ⟨fun pins s σ H Q I h => wpAny_Call_Name_kw (ld_glob I hg hm ?_ hdb)⟩
  refine PySem.W.callWith_S (h₀ := X.base) I.ok.mod.kin hk (thn (he.run pins s σ H _ I h) fun v s1 ⟨y, H1, I1, ry, a, xs, ey, hxs, q⟩ => ?_) hst
  subst ey
  obtain rfl : v = Value.ref a := ry
  exact star_any I1 hxs fun us s2 I2 rv => ⟨I2.kIn, run_fnG F hr hgd tk I2 rv q⟩
/-! ### a new instance -/
theorem under_guards {A : Around} {C : Addr} {us : List Value} {kw : List (Str × Value)} : (A.under (.builtin "type.__call__" ⟨.ref C :: us, kw⟩)).guards = A.guards := by
  first | rfl | simp [Around.under, Code.isGuard, guardIds]
theorem run_makeG {pins : List (Addr × Obj)} {σ : L2.St} {H : Hp} {s : Shared} {Q : VK} {us : List Value} {vs : List V} (M : Mk X.K C f) (F : FnG X.prog X.w X.K X.mg X.base k f sp) (hr : Room (2 * k + 2) X.A) (hgd : X.A.guards = some []) (tk : Takes X W) (I : Inv X pins σ H s) (r : Vals vs us)
    (h : ∀ x dx, H x = none → H dx = none → dx ≠ x → sp (V.ref x :: vs) (upd (upd H dx (.own x)) x (.ins C dx [])) (fun v H2 => v = .non ∧ Q (.ref x) H2) (WE W σ)) :
    wpAny (model X.prog X.w) X.A (call (.ref C) us) (EP X pins σ Q) X.xe s := by
  have hq := h (s.heap.objs.size + 1) s.heap.objs.size (I.hok.fresh (Nat.le_succ _)) (I.hok.fresh (Nat.le_refl _)) (Nat.ne_of_lt (Nat.lt_succ_self _))
  have I2 := Inv.made (C := C) I
  have r2 : Vals (V.ref (s.heap.objs.size + 1) :: vs) (Value.ref (s.heap.objs.size + 1) :: us) := .cons rfl r
  refine wpAny_call (make_map (f := f) I.kIn M.makes M.init (beq_iff_eq.mp M.fn) (codeAny_mono (F.run _ X.stack _ _ (Value.ref (s.heap.objs.size + 1) :: us) _ _ (WE W σ) (Room.make hr C us []) (under_guards.trans hgd) (I2.env0.make C us []) r2 hq) fun r s' hq' => ?_))
  match r, hq' with
  | .error e, hq' => exact passAt tk σ pins _ _ e s' I2 hq'
  | .ok (.ret u), hq' =>
    obtain ⟨v, H', I3, rv, ev, q3⟩ := I2.after hq'
    subst ev
    exact ⟨rv, ⟨V.ref (s.heap.objs.size + 1), H', I3, rfl, q3⟩⟩
/-- the class at C is made by an __init__ with a promise -/
def MkG (X : Cx) (k : Nat) (C : Addr) (sp : Sp) : Prop := ∃ f, Mk X.K C f ∧ FnG X.prog X.w X.K X.mg X.base k f sp
/-- the new instance, then __init__ -/
def NewQ (W : WX) (σ : L2.St) (C : Addr) (sp : Sp) (vs : List V) (H : Hp) (Q : VK) : Prop := ∀ x dx, H x = none → H dx = none → dx ≠ x → sp (V.ref x :: vs) (upd (upd H dx (.own x)) x (.ins C dx [])) (fun v H2 => v = .non ∧ Q (.ref x) H2) (WE W σ)
def tNewG (X : Cx) (k : Nat) (W : WX) (tf : TE) (t : TA) : TE := fun σ H Q => tf σ H fun y H1 => ∃ C sp, y = .ref C ∧ MkG X k C sp ∧ t σ H1 fun vs H2 => NewQ W σ C sp vs H2 Q
theorem pe_newG (hf : PE X (.Name x p) tf) (hr : Room (2 * k + 2) X.A) (hgd : X.A.guards = some []) (tk : Takes X W) (ha : PA X (e :: es) t) (he : starEach (e :: es) X.env = (false, eval e X.env) :: starEach es X.env) (hpl : (backTo pos (starEach es X.env)).any (·.1) = false) :
    PE X (.Call (.Name x p) (e :: es) [] pos) (tNewG X k W tf t) := by
  refine ⟨fun pins s σ H Q I h => wpAny_Call_Name_kw (thn (hf.run pins s σ H _ I h) fun u s1 ⟨y, H1, I1, ry, C, sp, ey, ⟨f, M, F⟩, q⟩ => ?_)⟩
  subst ey
  obtain rfl : u = Value.ref C := ry
  exact PySem.W.callWith_K (h₀ := X.base) I.ok.mod.kin M.kp (thn (ha.run pos pins s1 σ H1 _ I1 q) fun us s2 ⟨vs, H2, I2, r, q2⟩ => ⟨I2.kIn, run_makeG M F hr hgd tk I2 r q2⟩) he hpl
theorem pe_newG0 (hf : PE X (.Name x p) tf) (hr : Room (2 * k + 2) X.A) (hgd : X.A.guards = some []) (tk : Takes X W) : PE X (.Call (.Name x p) [] [] pos) (tNewG X k W tf tNil) := by
  refine ⟨fun pins s σ H Q I h => wpAny_Call_Name_kw (thn (hf.run pins s σ H _ I h) fun u s1 ⟨y, H1, I1, ry, C, sp, ey, ⟨f, M, F⟩, q⟩ => ?_)⟩
  subst ey
  obtain rfl : u = Value.ref C := ry
  exact PySem.W.callWith_K0 I1.kIn M.kp (run_makeG (us := []) M F hr hgd tk I1 .nil q)
theorem pe_newGS2 (hf : PE X (.Name x p) tf) (hr : Room (2 * k + 2) X.A) (hgd : X.A.guards = some []) (tk : Takes X W) (ha : PA X (e :: es) t) (he : starEach (e :: es) X.env = (false, eval e X.env) :: starEach es X.env) (hst : (backTo pos (starEach es X.env)).any (·.1) = true) :
    PE X (.Call (.Name x p) (e :: es) [] pos) (tNewG X k W tf t) := by
  refine ⟨fun pins s σ H Q I h => wpAny_Call_Name_kw (thn (hf.run pins s σ H _ I h) fun u s1 ⟨y, H1, I1, ry, C, sp, ey, ⟨f, M, F⟩, q⟩ => ?_)⟩
  subst ey
  obtain rfl : u = Value.ref C := ry
  exact PySem.W.callWith_S2 (h₀ := X.base) I.ok.mod.kin M.kp (thn (ha.run pos pins s1 σ H1 _ I1 q) fun us s2 ⟨vs, H2, I2, r, q2⟩ => ⟨I2.kIn, run_makeG M F hr hgd tk I2 r q2⟩) he hst
theorem pe_newGS1 (hf : PE X (.Name x p) tf) (hr : Room (2 * k + 2) X.A) (hgd : X.A.guards = some []) (tk : Takes X W) (he : PE X e te) (hst : starEach [.Starred e sp_] X.env = [(true, eval e X.env)]) :
    PE X (.Call (.Name x p) [.Starred e sp_] [] pos) (fun σ H Q => tf σ H fun y H1 => ∃ C sp, y = .ref C ∧ MkG X k C sp ∧ te σ H1 fun z H2 => ∃ a xs, z = V.ref a ∧ (SqT X.K H2 a xs ∨ SqL X.K H2 a xs) ∧ NewQ W σ C sp xs H2 Q) := by
  refine ⟨fun pins s σ H Q I h => wpAny_Call_Name_kw (thn (hf.run pins s σ H _ I h) fun u s1 ⟨y, H1, I1, ry, C, sp, ey, ⟨f, M, F⟩, q⟩ => ?_)⟩
  subst ey
  obtain rfl : u = Value.ref C := ry
  refine PySem.W.callWith_S (h₀ := X.base) I.ok.mod.kin M.kp (thn (he.run pins s1 σ H1 _ I1 q) fun v s2 ⟨z, H2, I2, rz, a, xs, ez, hxs, q2⟩ => ?_) hst
  subst ez
  obtain rfl : v = Value.ref a := rz
  exact star_any I2 hxs fun us s3 I3 rv => ⟨I3.kIn, run_makeG M F hr hgd tk I3 rv q2⟩
/-! ### attributes -/
theorem getpropG {pins : List (Addr × Obj)} {σ : L2.St} {H : Hp} {s : Shared} {Q : VK} {b : Bool} {E' : Value → Shared → Prop} {a dx q g : Addr} {fs : List (Str × V)} {fn : Str} (I : Inv X pins σ H s) (ea : H a = some (.ins C dx fs)) (c : Cls X.K C) (hp : PropOf X.K C fn q g)
    (F : FnG X.prog X.w X.K X.mg X.base k g sp) (hr : Room (2 * k + 2) X.A) (hgd : X.A.guards = some []) (h : sp [.ref a] H Q (fun _ _ _ => False)) :
    wpAny (model X.prog X.w) X.A (getAttr (.ref a) fn b) (EP X pins σ Q) E' s := by
  obtain ⟨mA, O, _, _, _, _⟩ := ins_get I.hok ea
  obtain ⟨od, J, _⟩ := O.look
  obtain ⟨rest, hrec⟩ := hp.rec_
  have I1 := I.tok (s.toks + 1)
  have hc : (PySem.W.clsIn X.K C).isSome = true := by
    obtain ⟨cd, hc, _⟩ := PySem.W.any_some c.hd
    rw [hc]
    rfl
  refine PySem.W.get_bind I.kIn J (PySem.W.plainGet_of (c.get fn)).1 (PySem.W.findObj_data hc hp.at_ hp.get hp.tak) (PySem.W.plainGet_of (c.get fn)).2 (wpAny_call (PySem.W.prop_get (s := { s with toks := s.toks + 1 }) I.kIn hrec ?_))
  refine codeAny_mono (F.run X.A.in1 X.stack { s with toks := s.toks + 1 } H [.ref a] [.ref a] Q (fun _ _ _ => False) (Room.in1 hr) hgd I1.env0.in1 (.cons rfl .nil) h) fun r s' hq => ?_
  match r, hq with
  | .error er, hq =>
    obtain ⟨_, _, _, _, _, _, _, _, _, _, _, _, z⟩ := hq
    exact z.elim
  | .ok (.ret u), hq =>
    obtain ⟨v, H', I3, rv, q3⟩ := I1.after hq
    show wpAny _ _ (handedOut u) _ _ _
    rw [PySem.W.handedOut_of (handed_of rv)]
    exact wpAny_pure ⟨v, H', I3, rv, q3⟩
/-- what e.f gives, by the value of e -/
def AttR (X : Cx) (k : Nat) (f : Str) (x : V) (H : Hp) (Q : VK) : Prop :=
  (∃ a C dx fs v, x = .ref a ∧ H a = some (.ins C dx fs) ∧ Cls X.K C ∧ NoAttr X.K C f ∧ fs.lookup f = some v ∧ Q v H) ∨
  (∃ a C dx fs v u, x = .ref a ∧ H a = some (.ins C dx fs) ∧ Cls X.K C ∧ Con X.K C f v u ∧ fs.lookup f = none ∧ Q v H) ∨
  (∃ a C dx fs q g sp, x = .ref a ∧ H a = some (.ins C dx fs) ∧ Cls X.K C ∧ PropOf X.K C f q g ∧ FnG X.prog X.w X.K X.mg X.base k g sp ∧ sp [.ref a] H Q (fun _ _ _ => False)) ∨
  (∃ C mc v u, x = .ref C ∧ CRead X.K C mc ∧ CVal X.K C mc f v u ∧ Q v H)
theorem pe_attG {fn : Str} (he : PE X e ta) (hr : Room (2 * k + 2) X.A) (hgd : X.A.guards = some []) (hb : attributeBase e fn X.env (eval e X.env) = eval e X.env) : PE X (.Attribute e fn pos) (fun σ H Q => ta σ H fun x H1 => AttR X k fn x H1 Q) := by
  refine ⟨fun pins s σ H Q I h => attr_of hb (thn (he.run pins s σ H _ I h) fun u s1 ⟨x, H1, I1, rx, q⟩ => ?_)⟩
  rcases q with ⟨a, C, dx, fs, v, rfl, ea, c, n, l, q⟩ | ⟨a, C, dx, fs, v, u0, rfl, ea, c, kk, l, q⟩ | ⟨a, C, dx, fs, q, g, sp, rfl, ea, c, hp, F, h⟩ | ⟨C, mc, v, w, rfl, r, kk, q⟩
  · obtain rfl : u = Value.ref a := rx
    exact getattr_ok I1 ea c n l fun u' s2 I2 ru => ⟨v, H1, I2, ru, q⟩
  · obtain rfl : u = Value.ref a := rx
    exact getcon_ok I1 ea c kk l fun s2 I2 => ⟨v, H1, I2, kk.rel, q⟩
  · obtain rfl : u = Value.ref a := rx
    exact getpropG I1 ea c hp F hr hgd h
  · obtain rfl : u = Value.ref C := rx
    exact getcval_ok I1 r kk fun s2 I2 => ⟨v, H1, I2, kk.rel, q⟩
/-! ### methods -/
theorem methcall_any {M : Model} {A : Around} {E : Value → Shared → Prop} {s : Shared} {env : Env} {args : List Expr} {Q : Value → Shared → Prop} (hbase : attributeBase o m env (eval o env) = eval o env)
    (hfew : ((backTo pos (starEach args env)).all (fun x => !x.1) && (backToKw pos (keywordEach [] env)).all (fun x => x.1.isSome) && decide (args.length + ([] : List Keyword).length + (if ([] : List Keyword).isEmpty then 0 else 1) < 30)) = true)
    (hline : (apos.endLine == pos.line) = true)
    (h : wpAny M A (eval o env) (fun ov s₁ => wpAny M A (getMethod ov m (do return (← importBound o env).getD true)) (fun fx s₂ => wpAny M A (callWith pos fx.1 fx.2 (backTo pos (starEach args env)) []) Q E s₂) E s₁) E s) :
    wpAny M A (eval (.Call (.Attribute o m apos) args [] pos) env) Q E s := by
  rw [arm_eval_Call, hbase]
  refine wpAny_bind (wpAny_mono h (fun ov s₁ h₁ => ?_) fun _ _ e => e)
  refine wpAny_bind (wpAny_standAt ?_)
  have hform : methodCallForm (args.length + ([] : List Keyword).length) (backTo pos (starEach args env)) (backToKw pos (keywordEach [] env)) = true := hfew
  have hpos : methodCallPos true o env apos pos = pure pos := by unfold methodCallPos; simp [hline]
  unfold methodCall
  rw [hform]
  refine wpAny_bind (wpAny_holding (wpAny_mono h₁ (fun fx s₂ h₂ => ?_) fun _ _ e => e))
  exact wpAny_bind (wpAny_of_eq hpos h₂)
/-- the def behind x.m(..), with the value that comes first -/
def MetR (X : Cx) (k : Nat) (m : Str) (x : V) (H : Hp) (sp : Sp) : Prop :=
  (∃ a C dx fs g, x = .ref a ∧ H a = some (.ins C dx fs) ∧ Cls X.K C ∧ Meth X.K C m g ∧ fs.lookup m = none ∧ FnG X.prog X.w X.K X.mg X.base k g sp) ∨
  (∃ C mc p g, x = .ref C ∧ CRead X.K C mc ∧ CMet X.K C mc m p g ∧ FnG X.prog X.w X.K X.mg X.base k g sp)
def tMetG (X : Cx) (k : Nat) (W : WX) (m : Str) (ta : TE) (t : TA) : TE := fun σ H Q => ta σ H fun x H1 => ∃ sp, MetR X k m x H1 sp ∧ t σ H1 fun vs H2 => sp (x :: vs) H2 Q (WE W σ)
theorem run_cmG {pins : List (Addr × Obj)} {σ : L2.St} {H : Hp} {s : Shared} {g q : Addr} {Q : VK} {us : List Value} {vs : List V} (F : FnG X.prog X.w X.K X.mg X.base k g sp) (hr : Room (2 * k + 1) X.A) (hgd : X.A.guards = some []) (tk : Takes X W) (I : Inv X ((q, PySem.W.methodObj (.ref g) (.ref C)) :: pins) σ H s)
    (r : Vals vs us) (h : sp (.ref C :: vs) H Q (WE W σ)) : wpAny (model X.prog X.w) X.A (call (.ref q) us) (EP X pins σ Q) X.xe s := by
  have key := F.run X.A X.stack s H (.ref C :: us) (.ref C :: vs) Q (WE W σ) hr hgd I.env0 (.cons rfl r) h
  have z : wpAny (model X.prog X.w) X.A (call (.ref q) us) (EP X ((q, PySem.W.methodObj (.ref g) (.ref C)) :: pins) σ Q) X.xe s := by
    refine wpAny_call (PySem.W.method_call (pin_at I) (codeAny_mono key fun r s' hq => ?_))
    match r, hq with
    | .error e, hq => exact passAt tk σ _ H s e s' I hq
    | .ok (.ret u), hq => exact I.after hq
  exact thn z fun _ _ y => unpinE y
theorem pe_metG (he : PE X o ta) (hr : Room (2 * k + 1) X.A) (hgd : X.A.guards = some []) (tk : Takes X W) (ha : PA X (e :: es) t) (hst : starEach (e :: es) X.env = (false, eval e X.env) :: starEach es X.env) (hpl : (backTo pos (starEach es X.env)).any (·.1) = false)
    (hb : attributeBase o m X.env (eval o X.env) = eval o X.env) (hlen : (e :: es).length < 20) (hline : (apos.endLine == pos.line) = true) : PE X (.Call (.Attribute o m apos) (e :: es) [] pos) (tMetG X k W m ta t) := by
  refine ⟨fun pins s σ H Q I h => ?_⟩
  refine methcall_any hb ?_ hline (thn (he.run pins s σ H _ I h) fun u s1 ⟨x, H1, I1, rx, sp, q, qq⟩ => ?_)
  · have h1 : (backTo pos (starEach (e :: es) X.env)).all (fun x => !x.1) = true := by
      rw [hst]
      have hpl' := List.any_eq_false.mp hpl
      refine List.all_eq_true.mpr fun y hy => ?_
      rcases List.mem_cons.mp hy with rfl | hy
      · rfl
      · have := hpl' y hy
        simpa using this
    have h2 : decide ((e :: es).length + ([] : List Keyword).length + (if ([] : List Keyword).isEmpty then 0 else 1) < 30) = true := by
      rw [decide_eq_true_eq]
      simp only [List.length_cons, List.length_nil, List.isEmpty_nil, if_true] at hlen ⊢
      omega
    rw [h1, h2]; rfl
  rcases q with ⟨a, C, dx, fs, g, rfl, ea, c, hm, l, F⟩ | ⟨C, mc, p, g, rfl, r, c, F⟩
  · obtain rfl : u = Value.ref a := rx
    refine getmeth_ok I1 ea c hm l ?_
    refine PySem.W.callWith_K (first := [.ref a]) (h₀ := X.base) I.ok.mod.kin hm.kp (thn (ha.run pos pins s1 σ H1 _ I1 qq) fun us s2 ⟨vs, H2, I2, r, q2⟩ => ⟨I2.kIn, ?_⟩) hst hpl
    exact run_fnG (us := .ref a :: us) (vs := .ref a :: vs) F hr hgd tk I2 (.cons rfl r) q2
  · obtain rfl : u = Value.ref C := rx
    refine getmethcm_ok I1 r c fun s2 I2 => ?_
    refine callwith_cm I2 (base_none I1 (Nat.le_refl _)) c.fi (thn (ha.run pos _ s2 σ H1 _ I2 qq) fun us s3 ⟨vs, H2, I3, rv, q2⟩ => ⟨⟨pin_at I3, I3.kIn⟩, ?_⟩) hst hpl
    exact run_cmG F hr hgd tk I3 rv q2
theorem pe_metG0 (he : PE X o ta) (hr : Room (2 * k + 1) X.A) (hgd : X.A.guards = some []) (tk : Takes X W)
    (hb : attributeBase o m X.env (eval o X.env) = eval o X.env) (hline : (apos.endLine == pos.line) = true) : PE X (.Call (.Attribute o m apos) [] [] pos) (fun σ H Q => ta σ H fun x H1 => ∃ a C dx fs g sp, x = .ref a ∧ H1 a = some (.ins C dx fs) ∧ Cls X.K C ∧ Meth X.K C m g ∧ fs.lookup m = none ∧ FnG X.prog X.w X.K X.mg X.base k g sp ∧ sp [x] H1 Q (WE W σ)) := by
  refine ⟨fun pins s σ H Q I h => ?_⟩
  refine methcall_any hb rfl hline (thn (he.run pins s σ H _ I h) fun u s1 ⟨x, H1, I1, rx, a, C, dx, fs, g, sp, ex, ea, c, hm, l, F, qq⟩ => ?_)
  subst ex
  obtain rfl : u = Value.ref a := rx
  refine getmeth_ok I1 ea c hm l ?_
  exact PySem.W.callWith_K0 (first := [.ref a]) I1.kIn hm.kp (run_fnG (us := [.ref a]) (vs := [.ref a]) F hr hgd tk I1 (.cons rfl .nil) qq)
end
end Wg
/-! WgI: what the evaluation of an expression gives, the model gives. -/
namespace Wg
open PySem PySem.Spec PyProof.Rows L2 StX ClX
/-! ### the facts of the module -/
/-- the setter of a property -/
structure PSet (K : PySem.W.Frag) (C : Addr) (f : Str) (p g : Addr) : Prop where
  taker : PySem.W.takerIn K C f = some (some (.ref p))
  typ : PySem.W.typeIn K (.ref p) = some (.type "property")
  rec_ : ∃ a rest, PySem.W.recIn K p "property" = some (a :: .ref g :: rest)
/-- what the class c at C has by the name f -/
def AtOk (K : PySem.W.Frag) (cm : Cm) (C : Addr) (f : Str) : Option At → Prop
  | none => NoAttr K C f
  | some (.meth q) => ∃ a, cm.fn q = some a ∧ Meth K C f a
  | some (.prop gq sq) => ∃ p a, cm.fn gq = some a ∧ PropOf K C f p a ∧ ∀ q, sq = some q → ∃ b, cm.fn q = some b ∧ PSet K C f p b
  | some (.con v) => ∃ z u, Con K C f z u ∧ (∀ ι n H, RV K ι n H v z) ∧ ∃ mc, CRead K C mc ∧ CVal K C mc f z u
  | some (.cmeth q) => ∃ a p mc, cm.fn q = some a ∧ CRead K C mc ∧ CMet K C mc f p a
def baseTys : List String := ["NoneType", "bool", "int", "str", "tuple", "list", "dict"]
structure ClsK (g : GI) (K : PySem.W.Frag) (mg : Str → Option Value) (cm : Cm) (att : Str → Str → Option At) (isub : Str → Str → Bool) (c : Str) (C : Addr) : Prop where
  ns : PySem.W.nsIn K mainGlobals c = some (some (.ref C))
  mg : mg c = some (.ref C)
  cl : Cls K C
  ha : PySem.W.findIn K (.ref C) "__class__" = some (some (.builtin "object.__class__"))
  hn : PySem.W.specialIn K (.builtin "object.__class__") "__get__" = some (some (.builtin "getset_descriptor.__get__"))
  htk : PySem.W.takesIn K (.builtin "object.__class__") = some true
  hm : PySem.W.mroIn K C (.type "object") = some true
  eqo : PySem.W.findIn K (.ref C) "__eq__" = some (some (.builtin "object.__eq__"))
  neo : PySem.W.findIn K (.ref C) "__ne__" = some (some (.builtin "object.__ne__"))
  isb : ∀ t ∈ baseTys, PySem.W.kitOne K (.type t) (.ref C) = some false
  iso : ∀ d D, cm.ins d = some D → PySem.W.kitOne K (.ref D) (.ref C) = some (isub d c)
  init : ∀ q, att c "__init__" = some (.meth q) → ∃ a, cm.fn q = some a ∧ Mk K C a
  at_ : ∀ f ∈ g.atts, AtOk K cm C f (att c f)
structure Wd (g : GI) (P : Program) (w : World) (K : PySem.W.Frag) (mg : Str → Option Value) (base : Heap) (cm : Cm) (Γ : Gam) (k : Nat) : Prop where
  blt : ∀ x ∈ g.blt, mg x = none
  cls : ∀ c ∈ g.cls, ∃ C, cm.ins c = some C ∧ ClsK g K mg cm Γ.att Γ.isub c C
  ins : ∀ c C, cm.ins c = some C → c ∈ g.cls
  attc : ∀ c f a, Γ.att c f = some a → c ∈ g.cls
  meth : ∀ q a, cm.fn q = some a → FnG P w K mg base k a (spI K cm (Γ.call q))
  glob : ∀ x v, x ∈ g.glob → Γ.glob x = some v → ∃ u z, mg x = some u ∧ RelV z u ∧ ∀ ι n H, RV K ι n H v z
  fn : ∀ f ∈ g.defs, ∃ a, mg f = some (.ref a) ∧ PySem.W.keepIn K (.ref a) = true ∧ FnG P w K mg base k a (spI K cm (Γ.call f))
structure CxE (g : GI) (c : CC) (cm : Cm) (Γ : Gam) (X : Cx) (W : WX) (k : Nat) : Prop where
  wd : Wd g X.prog X.w X.K X.mg X.base cm Γ k
  N : X.N = c.N
  nd : X.N.Nodup
  sc : X.env.scope = c.sc
  calm : c.hot = false → X.calm = true
  room : c.hot = false → Room (2 * k + 2) X.A
  un : X.A.units + 70 < cLine
  grd : X.A.guards = some []
  tk : Takes X W
theorem Wd.at {g : GI} {P : Program} {w : World} {K : PySem.W.Frag} {mg : Str → Option Value} {base : Heap} {cm : Cm} {Γ : Gam} {k : Nat} (D : Wd g P w K mg base cm Γ k) {c : Str} {C : Addr} (h : cm.ins c = some C) : ClsK g K mg cm Γ.att Γ.isub c C := by
  obtain ⟨C', h1, h2⟩ := D.cls c (D.ins c C h)
  rw [h] at h1; cases h1
  exact h2
theorem Wd.noEq {g : GI} {P : Program} {w : World} {K : PySem.W.Frag} {mg : Str → Option Value} {base : Heap} {cm : Cm} {Γ : Gam} {k : Nat} (D : Wd g P w K mg base cm Γ k) : NoEq K cm := fun c C h => ⟨(D.at h).hm, (D.at h).eqo, (D.at h).neo⟩
/-! ### small things -/
theorem ixOf_get {N : List Str} {x : Str} {i : Nat} (h : ixOf N x = some i) : N[i]? = some x := by
  unfold ixOf at h
  obtain ⟨hi, h1, _⟩ := List.findIdx?_eq_some_iff_getElem.mp h
  rw [List.getElem?_eq_getElem hi, of_decide_eq_true h1]
theorem plain_dbg {x : Str} (h : plainN x = true) : (x == ("__debug__" : Str)) = false ∧ (x == ("__classdict__" : Str)) = false ∧ x ≠ "__name__" := by
  simp only [plainN, Bool.and_eq_true, Bool.not_eq_true', decide_eq_true_eq] at h
  exact ⟨h.1.1, h.1.2, h.2⟩
section
variable {g : GI} {c : CC} {cm : Cm} {Γ : Gam} {X : Cx} {W : WX} {k : Nat}
theorem CxE.vis (C : CxE g c cm Γ X W k) {x : Str} (h : visK c x = true) : Vis X.env.scope x := by
  unfold Vis
  rw [C.sc]
  unfold visK at h
  split at h
  · exact .inl (by assumption)
  · exact .inr (.inl (by assumption))
  · exact .inr (.inr (by assumption))
  · cases h
theorem CxE.gl (C : CxE g c cm Γ X W k) {x : Str} (h : isGl c x = true) : Gl X x := by
  show X.env.scope.names.lookup x = _
  rw [C.sc]
  unfold isGl at h
  split at h
  · assumption
  · cases h
end
theorem bfOf_ok {x : Str} {f : Bf} (h : bfOf x = some f) : bN f = x := by simpa using List.find?_some h
theorem tyOf_ok {x : Str} {T : Ty} (h : tyOf x = some T) : Str.ofString (tyN T) = x ∧ tyBlt T = true := by
  refine ⟨by simpa using List.find?_some h, ?_⟩
  have := List.mem_of_find?_eq_some h
  simp only [tys, List.mem_cons, List.not_mem_nil, or_false] at this
  rcases this with rfl | rfl | rfl | rfl | rfl | rfl <;> rfl
theorem tyN_boot : ∀ T : Ty, tyBlt T = true → bootBuiltins (Str.ofString (tyN T)) = some (.type (tyN T))
  | .int, _ => by decide +kernel
  | .bool, _ => by decide +kernel
  | .tuple, _ => by decide +kernel
  | .str, _ => by decide +kernel
  | .list, _ => by decide +kernel
  | .dict, _ => by decide +kernel
  | .own _, h => by simp [tyBlt] at h
theorem opOf_ok {op : Operator} {o : Bop} (h : opOf op = some o) : bOp o = op := by cases op <;> simp only [opOf, Option.some.injEq] at h <;> first | (subst h; rfl) | cases h
theorem cpOf_ok {op : CmpOp} {o : Cop} (h : cpOf op = some o) : cOp o = op := by cases op <;> simp only [cpOf, Option.some.injEq] at h <;> (subst h; rfl)
theorem binI_ne {o : Bop} {a b : IV} {S : Sto} {c : Str} {S' : Sto} : binI o a b S ≠ .exc c S' := by
  intro h
  unfold binI at h
  repeat' split at h
  all_goals first | (simp [alloc] at h; done) | cases h
theorem boolR_ne {o : Option Bool} {S : Sto} {c : Str} {S' : Sto} : boolR o S ≠ .exc c S' := by cases o <;> simp [boolR]
theorem boolN_ne {o : Option Bool} {S : Sto} {c : Str} {S' : Sto} : boolN o S ≠ .exc c S' := by cases o <;> simp [boolN]
theorem cmpI_ne {o : Cop} {a b : IV} {S : Sto} {c : Str} {S' : Sto} : cmpI o a b S ≠ .exc c S' := by
  intro h
  cases o <;> simp only [cmpI] at h
  all_goals first | exact boolR_ne h | exact boolN_ne h | (split at h <;> cases h)
theorem dixI_ne {a b : IV} {S : Sto} {c : Str} {S' : Sto} : dixI a b S ≠ .exc c S' := by
  intro h
  unfold dixI at h
  repeat' split at h
  all_goals cases h
theorem dc1I_ne {n : Nat} {a b : IV} {S : Sto} {c : Str} {S' : Sto} : dc1I n a b S ≠ .exc c S' := by
  intro h
  unfold dc1I at h
  repeat' split at h
  all_goals cases h
theorem mth2_ne {m : Str} {o : IV} {a : List IV} {S : Sto} {c : Str} {S' : Sto} : mth2 m o a S ≠ .exc c S' := by
  intro h
  unfold mth2 at h
  repeat' split at h
  all_goals cases h
theorem ixI_ne {a b : IV} {S : Sto} {c : Str} {S' : Sto} : ixI a b S ≠ .exc c S' := by
  intro h
  unfold ixI at h
  repeat' split at h
  all_goals first | exact dixI_ne h | cases h
theorem slI_ne {a : IV} {lo hi : Option Int} {S : Sto} {c : Str} {S' : Sto} : slI a lo hi S ≠ .exc c S' := by
  intro h
  unfold slI at h
  repeat' split at h
  all_goals first | (simp [alloc] at h; done) | cases h
theorem revI_ne {a : IV} {S : Sto} {c : Str} {S' : Sto} : revI a S ≠ .exc c S' := by
  intro h
  unfold revI at h
  repeat' split at h
  all_goals first | (simp [alloc] at h; done) | cases h
theorem negI_ne {a : IV} {S : Sto} {c : Str} {S' : Sto} : negI a S ≠ .exc c S' := by
  intro h
  unfold negI at h
  repeat' split at h
  all_goals cases h
theorem isiI_ne {a : IV} {T : Ty} {S : Sto} {c : Str} {S' : Sto} : isiI a T S ≠ .exc c S' := by
  intro h
  unfold isiI at h
  repeat' split at h
  all_goals cases h
theorem lenI_ne {a : IV} {S : Sto} {c : Str} {S' : Sto} : lenI a S ≠ .exc c S' := by
  intro h
  unfold lenI at h
  repeat' split at h
  all_goals cases h
theorem bltI_ne {f : Bf} {a : List IV} {S : Sto} {c : Str} {S' : Sto} : bltI f a S ≠ .exc c S' := by
  intro h
  unfold bltI at h
  repeat' split at h
  all_goals first | exact lenI_ne h | (simp [alloc] at h; done) | cases h
theorem mthI_ne {m : Str} {o : IV} {a : List IV} {S : Sto} {c : Str} {S' : Sto} : mthI m o a S ≠ .exc c S' := by
  intro h
  unfold mthI at h
  repeat' split at h
  all_goals cases h
/-! ### the readings put together -/
def asB (r : Rs IV) : Rs Bool := r.bind fun v S => match v with
  | .bl b => .ok b S
  | _ => .bad
abbrev tT (K : PySem.W.Frag) (cm : Cm) (W : WX) (m : Sl → Sto → Rs IV) : TT := tG K cm W RId fun τ S => asB (m τ S)
section
variable {K : PySem.W.Frag} {cm : Cm} {W : WX} {σ : L2.St} {H : Hp} {Q : VK} {ma mb mc : Sl → Sto → Rs IV}
theorem tOp_of {f : IV → IV → Sto → Rs IV} (hn : ∀ a b S c S', f a b S ≠ .exc c S') (h : tI K cm W (fun τ S => (ma τ S).bind fun x S1 => (mb τ S1).bind fun y S2 => f x y S2) σ H Q) : tOp (rI2 K cm f) (tI K cm W ma) (tI K cm W mb) σ H Q :=
  tG.bind (f := fun τ x S1 => (mb τ S1).bind fun y S2 => f x y S2) h fun ι1 S1 H1 τ a v r1 rs ra o1 => ⟨ι1, S1, τ, r1, rs, Out.bindR o1 fun b S2 ι2 H2 y _ st r2 rb o2 =>
    ⟨ι2, S2, a, b, r2, RV.step ra r1 st, rb, OutV.of o2 fun _ _ => hn _ _ _ _ _⟩⟩
theorem tUn_of {f : IV → Sto → Rs IV} (hn : ∀ a S c S', f a S ≠ .exc c S') (h : tI K cm W (fun τ S => (ma τ S).bind fun x S1 => f x S1) σ H Q) : tUn (rI1 K cm f) (tI K cm W ma) σ H Q :=
  tG.bind (f := fun τ x S1 => f x S1) h fun ι1 S1 H1 τ a v r1 rs ra o1 => ⟨ι1, S1, a, r1, ra, OutV.of o1 fun _ _ => hn _ _ _ _⟩
/-- a test by its value -/
theorem tT_val {Q : Bool → Hp → Prop} (h : tT K cm W ma σ H Q) : tB (tI K cm W ma) σ H Q := by
  refine tG.bind (RA := RVS K) (R := fun x H' => ∃ k, x = .bl k ∧ Q k H') (f := fun τ v S => match v with | .bl b => .ok b S | _ => .bad) h fun ι1 S1 H1 τ a v r1 rs ra o1 => ?_
  cases a with
  | bl b =>
    have : v = .bl b := by simpa only [RVS, RV] using ra
    exact ⟨b, this, o1 ι1 H1 b Step.refl r1 rfl⟩
  | non => exact o1.elim
  | int i => exact o1.elim
  | str i => exact o1.elim
  | tup i => exact o1.elim
  | ref i => exact o1.elim
  | cls i => exact o1.elim
/-- a truth that is asked, then what follows -/
theorem tT_bind {γ δ : Type} {RC : (Nat → Addr) → Sto → Hp → γ → δ → Prop} {f : Sl → Bool → Sto → Rs γ} {Q : δ → Hp → Prop} {R : Bool → Hp → Prop}
    (h : tG K cm W RC (fun τ S => (ma τ S).bind fun v S1 => match v with | .bl b => f τ b S1 | _ => .bad) σ H Q)
    (go : ∀ ι1 S1 H1 τ b, Rel K cm ι1 S1 H1 → RSl K ι1 S1.length H1 τ σ → Out K cm W ι1 S1 H1 σ RC (f τ b S1) Q → R b H1) : tT K cm W ma σ H R := by
  obtain ⟨ι, S, τ, rl, rs, o⟩ := h
  refine ⟨ι, S, τ, rl, rs, ?_⟩
  dsimp only at o ⊢
  unfold asB
  cases e : ma τ S with
  | bad => rw [e] at o; exact o
  | exc c S1 => rw [e] at o; exact o
  | ok a S1 =>
    rw [e] at o
    dsimp only [Rs.bind] at o ⊢
    cases a with
    | bl b => exact fun ι1 H1 b' st r1 eb => by cases eb; exact go ι1 S1 H1 τ b r1 (rs.step rl st) (Out.shift o r1 st)
    | non => exact o.elim
    | int i => exact o.elim
    | str i => exact o.elim
    | tup i => exact o.elim
    | ref i => exact o.elim
    | cls i => exact o.elim
end
end Wg
/-! WiB: enumerate of a tuple; zip of two. -/
namespace Wg
open PySem PySem.Spec PyProof.Rows L2
def IteT (K : PySem.W.Frag) (a : Addr) : It :=
  ⟨fun i H => ∃ (xs : List V) (x : V), SqT K H a xs ∧ xs[i]? = some x, fun i H v H' => ∃ T x, v = .ref T ∧ H T = none ∧ H' = upd H T (.tup [.int (i : Nat), x]) ∧ ∀ xs, SqT K H a xs → xs[i]? = some x, fun i H => ∃ xs : List V, SqT K H a xs ∧ xs.length ≤ i⟩
section
variable {prog : Program} {w : World} {A : Around} {E : Value → Shared → Prop} {s : Shared}
theorem pyNext_enumT_end {e it t : Addr} {i : Nat} {items : Array Value} {c : Int} {old : Value} {Q : Option Value → Shared → Prop} (hh : A.handled = none)
    (he : IsEnum s.heap e it c old) (hit : s.heap.IsTupleIter it t i) (ht : s.heap.IsTuple t items) (hx : items[i]? = none)
    (hQ : ∀ h', Heap.ExtBut it s.heap h' → Q none { s with heap := h' }) : wpAny (model prog w) A (pyNext (.ref e)) Q E s := by
  have hT : s.TypeIs (.ref e) "enumerate" := ⟨_, he, rfl⟩
  unfold pyNext
  refine wpAny_bind (wpAny_attempt (wpAny_callSpecial?_slot (name := Str.ofString "__next__") hT F.slot_enumerate_next
    (wpAny_call_entry F.slot_enumerate_next hT F.entry_enumerate_next ?_ (F.args_enumerate_next_1 _))))
  show wpAny _ _ (field (.ref e) 2 >>= _) _ _ _
  refine wpAny_bind (wpAny_field he rfl (x := .ref it) rfl ?_)
  refine wpAny_bind (wpAny_nextOf_tuple_end (A := A.in1) hh hit ht hx fun h' x he' hx' => ?_)
  obtain ⟨o, ho, hc⟩ := hx'
  refine wpAny_bind (wpAny_isInstance (T := "StopIteration") (b := true) ⟨o, ho, hc⟩ isSubtype_stop ?_)
  exact wpAny_pure (hQ _ he')
end
theorem turn_enumT {P : Program} {w : World} {K : PySem.W.Frag} {elts : List Expr} {kk : Nat} {tpos : Pos} (a e it : Addr) :
    Turn P w K (.Tuple elts kk tpos) (IteT K a) [e, it] e (fun i h => (∃ old, IsEnum h e it ((i : Nat) : Int) old) ∧ h.IsTupleIter it a i ∧ e ≠ it) where
  mem := by simp
  obj := fun i h st b hb => by
    obtain ⟨⟨old, he⟩, ⟨o, ho, hc, hd⟩, _⟩ := st
    have e' : b = e ∨ b = it := by simpa using hb
    rcases e' with z | z
    · rw [z]; exact ⟨_, he, fun v q => nomatch q⟩
    · rw [z]; exact ⟨o, ho, fun v q => by rw [hd] at q; cases q⟩
  keep := fun i h h' st k => let ⟨⟨old, he⟩, hi, hne⟩ := st; ⟨⟨old, k e (by simp) _ he⟩, hi.at fun o q => k it (by simp) o q, hne⟩
  item := by
    intro X hP hw hK hc i pins s σ H E I hf st hg
    subst hP hw hK
    obtain ⟨⟨old, he⟩, hit, hne⟩ := st
    obtain ⟨xs, x, hq, hx⟩ := hg
    obtain ⟨its, rv, p, hz⟩ := I.tuple hq
    obtain ⟨u, hu, ru⟩ := rv.get hx
    have hel : e < s.heap.objs.size := Heap.lt_size he
    have hil : it < s.heap.objs.size := by obtain ⟨_, q, _⟩ := hit; exact Heap.lt_size q
    have hlt : i < its.toArray.size := by
      have := (List.getElem?_eq_some_iff.mp hu).1
      simpa using this
    have hai : a ≠ it := fun z => by
      obtain ⟨o1, h1, c1, _⟩ := p
      obtain ⟨o2, h2, c2, _⟩ := hit
      rw [z, h2] at h1; cases h1
      rw [c2] at c1; simp at c1
    have hea : e ≠ a := fun z => by
      obtain ⟨o1, h1, c1, _⟩ := p
      have h2 := he
      unfold IsEnum at h2
      rw [z, h1] at h2; cases h2
      simp at c1
    refine wpAny_pyNext_enum_itemD (n := its.toArray.size) (Draws.tuple (A := X.A.in1) (I.ok.hd hc) it a hai its.toArray) he ⟨hit, p⟩ hlt hne (by simp [hne, hea]) fun u' h' tk hu' ho hst' hT hsz hk => ?_
    obtain ⟨hit', _⟩ := hst'
    have e3 : u' = u := by
      have : its.toArray[i]? = some u := by simpa using hu
      rw [this] at hu'; cases hu'; rfl
    subst e3
    refine ⟨_, rfl, wpAny_letOwnedTupleGo_enum (s := { s with heap := h', toks := tk + 1 }) ho fun h'' he' sb => ?_⟩
    have hT2 : h''.get? s.heap.objs.size = some { cls := .type "tuple", data := .seq #[.int i tk, u'] } := (sb.2 _ (Nat.ne_of_gt hel)).trans hT
    have new : ObjOk X.prog X.w (upd H s.heap.objs.size (.tup [.int (i : Nat), x])) h'' s.heap.objs.size (.tup [.int (i : Nat), x]) :=
      ⟨by show 2 ≤ sizeLine; decide, [.int i tk, u'], .cons ⟨_, rfl⟩ (.cons ru .nil), ⟨_, hT2, rfl, _, rfl⟩⟩
    have I1 : Inv X pins σ (upd H s.heap.objs.size (.tup [.int (i : Nat), x])) { s with heap := h'', toks := tk + 1 } :=
      I.turnedNew (ch := [e, it]) (fun b ob hb q => (sb.2 b (fun z => hb (by simp [z]))).trans (hk b ob (fun z => hb (by simp [z])) (fun z => hb (by simp [z])) q)) hf (Nat.le_refl _) new
    refine ⟨.ref s.heap.objs.size, _, I1, rfl, ⟨_, x, rfl, I.hok.fresh (Nat.le_refl _), rfl, fun ys hy => by rw [I.tuple_inj hy hq]; exact hx⟩, ⟨⟨u', ?_⟩, hit'.at fun o q => (sb.2 it (Ne.symm hne)).trans q, hne⟩, fun b hb => ?_⟩
    · have e1 : ((i + 1 : Nat) : Int) = (i : Int) + 1 := by omega
      rw [e1]; exact he'
    · have hb' : b < s.heap.objs.size := by
        have e' : b = e ∨ b = it := by simpa using hb
        rcases e' with z | z
        · rw [z]; exact hel
        · rw [z]; exact hil
      rw [upd_ne (Nat.ne_of_lt hb')]
      exact (hf b hb).1
  done := by
    intro X hP hw hK hc i pins s σ H E I hf st hg
    subst hP hw hK
    obtain ⟨⟨old, he⟩, hit, hne⟩ := st
    obtain ⟨xs, hq, hx⟩ := hg
    obtain ⟨its, rv, p, hz⟩ := I.tuple hq
    obtain ⟨f0, f1, f2, f3, f4, f5⟩ := hf it (by simp)
    have hl := rv.length
    exact pyNext_enumT_end (I.ok.hd hc) he hit p (by simp; omega) fun h' eb => ⟨rfl, I.turned (t' := s.toks) (fun b o hb q => eb b o hb q) f0 f1 f3 f4 f5⟩
  self := fun A i s Q E st h => let ⟨⟨_, he⟩, _⟩ := st; wpAny_pyIter_enum he h
set_option maxHeartbeats 1000000 in
set_option maxRecDepth 100000 in
theorem meets_enumerate_newB1 {v : Value} {o : Obj} {H : Heap → Prop} (B : Begins v o H) :
    Meets (Builtin.«enumerate.__new__» ⟨[.type "enumerate", v], []⟩) (fun _ R s => H s.heap ∧
      R (.ok (.ret (.ref (s.heap.push o).objs.size))) { s with heap := (s.heap.push o).push { cls := .type "enumerate", data := .fields #[.none, .bool false, .ref s.heap.objs.size, rawInt 0, .none, .none] } }) :=
  .of_wp fun prog w A R s h => by
    obtain ⟨hp, g, d, tk, os⟩ := s; obtain ⟨h1, h⟩ := h
    have hsub := sub_enumerate
    have q1 : ∀ {A' : Around} {E : Value → Shared → Prop} {Q : Value → Shared → Prop}, Q (.ref hp.objs.size) ⟨hp.push o, g, d, tk, os⟩ → wpAny (model prog w) A' (pyIter v) Q E ⟨hp, g, d, tk, os⟩ :=
      fun q => B.iter prog w _ _ ⟨hp, g, d, tk, os⟩ _ h1 q
    wp_walk using q1
    first
    | exact ⟨_, rfl, h⟩
    | (refine wpAny_stack_any fun st => wpAny_pure ?_
       split
       · rename_i c _ _ _ _ _
         cases (c == Value.type "enumerate")
         · wp_walk using q1
           exact ⟨_, rfl, h⟩
         · wp_walk using q1
           exact ⟨_, rfl, h⟩
       · wp_walk using q1
         exact ⟨_, rfl, h⟩)
theorem call_enumerate_tuple {prog : Program} {w : World} {A : Around} {E : Value → Shared → Prop} {s : Shared} {l : Addr} {items : Array Value} {Q : Value → Shared → Prop} (hL : s.heap.IsTuple l items)
    (h : ∀ h', IsEnum h' (s.heap.objs.size + 1) s.heap.objs.size 0 .none → h'.IsTupleIter s.heap.objs.size l 0 → h'.objs.size = s.heap.objs.size + 2 →
      (∀ b o, s.heap.get? b = some o → h'.get? b = some o) → Q (.ref (s.heap.objs.size + 1)) { s with heap := h' }) :
    wpAny (model prog w) A (call (.type "enumerate") [.ref l]) Q E s := by
  refine callType_new F.called_enumerate (by decide) (F.typeCall_enumerate_1 _) (F.newCall_enumerate_1 _) (fun obj => F.args_object_init_2 obj _) F.entry_enumerate_new
    (meets_enumerate_newB1 (begins_tuple l items)) ⟨hL, ?_⟩
  have hz : (s.heap.push { cls := .type "tuple_iterator", data := .fields #[.ref l, .int 0 0] }).objs.size = s.heap.objs.size + 1 := Heap.size_push ..
  show _ ∧ _
  rw [hz]
  have he : IsEnum ((s.heap.push { cls := .type "tuple_iterator", data := .fields #[.ref l, .int 0 0] }).push
      { cls := .type "enumerate", data := .fields #[.none, .bool false, .ref s.heap.objs.size, rawInt 0, .none, .none] }) (s.heap.objs.size + 1) s.heap.objs.size 0 .none := by
    have := Heap.get?_push_size (s.heap.push { cls := .type "tuple_iterator", data := .fields #[.ref l, .int 0 0] })
      (o := { cls := .type "enumerate", data := .fields #[.none, .bool false, .ref s.heap.objs.size, rawInt 0, .none, .none] }) rfl
    rw [hz] at this; exact this
  refine ⟨⟨_, he, rfl⟩, h _ he ⟨_, Heap.get?_push_of_some _ (Heap.get?_push_size _ rfl), rfl, rfl⟩ (by rw [Heap.size_push, hz]) fun b o x => Heap.get?_push_of_some _ (Heap.get?_push_of_some _ x)⟩
def iEnumA (K : PySem.W.Frag) (ta : TA) : TI := fun σ H R => ta σ H fun vs H1 => ∃ a xs, vs = [.ref a] ∧ ((SqL K H1 a xs ∧ R (Ite K a) H1) ∨ (SqT K H1 a xs ∧ R (IteT K a) H1))
theorem pi_enumA {X : Cx} {e : Expr} {ta : TA} {p pos tpos : Pos} {elts : List Expr} {kk : Nat} (hg : Gl X "enumerate") (hm : X.mg "enumerate" = none) (ha : PA X [e] ta) (hs : starEach [e] X.env = [(false, eval e X.env)]) :
    PI X (.Tuple elts kk tpos) (.Call (.Name "enumerate" p) [e] [] pos) (iEnumA X.K ta) := by
  refine ⟨fun pins s σ H R I h => ?_⟩
  refine Call_ (ld_blt I hg hm boot_enumerate (PyProof.Rows.callWith_type1 (thn (ha.run pos pins s σ H _ I h) fun us s1 ⟨vs, H1, I1, r1, q1⟩ => ?_) hs rfl))
  obtain ⟨a, xs, ex, q1⟩ := q1
  subst ex
  cases r1 with
  | cons r rr =>
    cases rr
    cases r
    rcases q1 with ⟨hq, q⟩ | ⟨hq, q⟩
    · obtain ⟨its, rv, p', hz⟩ := I1.list hq
      refine call_enumerate_list p'.isList fun h' he hit hsz hk => wpAny_pyIter_enum he ?_
      have I2 : Inv X pins σ H1 { s1 with heap := h' } := I1.kept (t' := s1.toks) hk
      refine ⟨s1.heap.objs.size + 1, [s1.heap.objs.size + 1, s1.heap.objs.size], _, _, H1, rfl, I2, turn_enum a (s1.heap.objs.size + 1) s1.heap.objs.size, ⟨⟨.none, he⟩, hit, Nat.succ_ne_self _⟩, fun b hb => ?_, q⟩
      have e' : b = s1.heap.objs.size + 1 ∨ b = s1.heap.objs.size := by simpa using hb
      have hle : s1.heap.objs.size ≤ b := by
        rcases e' with z | z
        · rw [z]; exact Nat.le_add_right _ _
        · rw [z]; exact Nat.le_refl _
      exact I1.fpOk hle (I1.hok.fresh hle)
    · obtain ⟨its, rv, p', hz⟩ := I1.tuple hq
      refine call_enumerate_tuple p' fun h' he hit hsz hk => wpAny_pyIter_enum he ?_
      have I2 : Inv X pins σ H1 { s1 with heap := h' } := I1.kept (t' := s1.toks) hk
      refine ⟨s1.heap.objs.size + 1, [s1.heap.objs.size + 1, s1.heap.objs.size], _, _, H1, rfl, I2, turn_enumT a (s1.heap.objs.size + 1) s1.heap.objs.size, ⟨⟨.none, he⟩, hit, Nat.succ_ne_self _⟩, fun b hb => ?_, q⟩
      have e' : b = s1.heap.objs.size + 1 ∨ b = s1.heap.objs.size := by simpa using hb
      have hle : s1.heap.objs.size ≤ b := by
        rcases e' with z | z
        · rw [z]; exact Nat.le_add_right _ _
        · rw [z]; exact Nat.le_refl _
      exact I1.fpOk hle (I1.hok.fresh hle)
end Wg
/-! WgJ: targets, walks, the list of a comprehension. -/
namespace Wg
open PySem PySem.Spec PyProof.Rows L2 RZ
/-! ### targets -/
mutual
def gTg (K : PySem.W.Frag) : Tg → TG
  | .nm i => gName i
  | .tp ts => gTup K ts.length (gTgs K ts)
def gTgs (K : PySem.W.Frag) : List Tg → TGs
  | [] => gNil
  | t :: ts => gCons (gTg K t) (gTgs K ts)
end
/-- the slots that a target sets -/
def OffT (js : List Nat) (σ σ' : L2.St) : Prop := σ'.length = σ.length ∧ ∀ i, i ∉ js → σ'[i]? = σ[i]?
section
variable {K : PySem.W.Frag} {ι : Nat → Addr} {n : Nat} {H : Hp}
mutual
theorem setT_ok : ∀ (t : Tg) (iv : IV) (v : V) (τ τ' : Sl) (σ : L2.St), setT t iv τ = some τ' → RV K ι n H iv v → RSl K ι n H τ σ → ∀ Q : L2.St → Hp → Prop, (∀ σ', RSl K ι n H τ' σ' → OffT t.ins σ σ' → Q σ' H) → gTg K t v σ H Q
  | .nm i, iv, v, τ, τ', σ, e, rv, rs, Q, go => by
    simp only [setT, Option.some.injEq] at e
    subst e
    simp only [gTg]
    exact go _ (rs.set i rv) ⟨by simp, fun j hj => by
      simp only [Tg.ins, List.mem_singleton] at hj
      rw [List.getElem?_set_ne (Ne.symm hj)]⟩
  | .tp ts, iv, v, τ, τ', σ, e, rv, rs, Q, go => by
    simp only [setT] at e
    cases iv with
    | tup xs =>
      simp only [] at e
      simp only [RV] at rv
      obtain ⟨a, vs, rfl, h1, h2⟩ := rv
      simp only [gTg]
      exact ⟨a, vs, rfl, h1.toT, by rw [h2.length]; exact (setTs_len e).symm, setTs_ok ts xs vs τ τ' σ e h2 rs Q fun σ' a b => go σ' a (by simpa only [Tg.ins] using b)⟩
    | non => cases e
    | bl b => cases e
    | int b => cases e
    | str b => cases e
    | ref b => cases e
    | cls b => cases e
theorem setTs_ok : ∀ (ts : List Tg) (xs : List IV) (vs : List V) (τ τ' : Sl) (σ : L2.St), setTs ts xs τ = some τ' → RVs K ι n H xs vs → RSl K ι n H τ σ → ∀ Q : L2.St → Hp → Prop, (∀ σ', RSl K ι n H τ' σ' → OffT (tgIns ts) σ σ' → Q σ' H) → gTgs K ts vs σ H Q
  | [], [], vs, τ, τ', σ, e, rv, rs, Q, go => by
    simp only [setTs, Option.some.injEq] at e
    subst e
    simp only [RVs] at rv; subst rv
    simp only [gTgs]
    exact ⟨rfl, go σ rs ⟨rfl, fun _ _ => rfl⟩⟩
  | t :: ts, x :: xs, vs, τ, τ', σ, e, rv, rs, Q, go => by
    obtain ⟨v, r, rfl, h1, h2⟩ := rv.uncons
    simp only [setTs] at e
    cases e1 : setT t x τ with
    | none => rw [e1] at e; cases e
    | some τ1 =>
      rw [e1] at e
      simp only [gTgs]
      refine ⟨v, r, rfl, setT_ok t x v τ τ1 σ e1 h1 rs _ fun σ1 rs1 o1 => ?_⟩
      refine setTs_ok ts xs r τ1 τ' σ1 e h2 rs1 Q fun σ2 rs2 o2 => go σ2 rs2 ⟨o2.1.trans o1.1, fun i hi => ?_⟩
      simp only [tgIns, List.mem_append, not_or] at hi
      rw [o2.2 i hi.2, o1.2 i hi.1]
  | [], _ :: _, _, _, _, _, e, _, _, _, _ => by simp [setTs] at e
  | _ :: _, [], _, _, _, _, e, _, _, _, _ => by simp [setTs] at e
theorem setTs_len : ∀ {ts : List Tg} {xs : List IV} {τ τ' : Sl}, setTs ts xs τ = some τ' → ts.length = xs.length
  | [], [], _, _, _ => rfl
  | t :: ts, x :: xs, τ, τ', e => by
    simp only [setTs] at e
    cases e1 : setT t x τ with
    | none => rw [e1] at e; cases e
    | some τ1 => rw [e1] at e; simp [setTs_len e]
  | [], _ :: _, _, _, e => by simp [setTs] at e
  | _ :: _, [], _, _, e => by simp [setTs] at e
end
end
/-- where names may be stored -/
structure PgOk (X : Cx) (c : CC) : Prop where
  N : X.N = c.N
  nd : X.N.Nodup
  calm : c.hot = false → X.calm = true
  loc : ∀ x, (c.sc.names.lookup x = some .local ∨ c.sc.names.lookup x = some .cell) → Loc X.env.scope x ∧ (X.fn x = true ∨ X.env.scope.names.lookup x = some .local)
theorem cpTn_ok {c : CC} {x : Str} {i : Nat} (h : cpTn c x = some i) : ixOf c.N x = some i ∧ (c.sc.names.lookup x = some .local ∨ c.sc.names.lookup x = some .cell) := by
  unfold cpTn at h
  split at h
  · exact ⟨h, .inl (by assumption)⟩
  · exact ⟨h, .inr (by assumption)⟩
  · cases h
theorem optAll_cons {α β : Type} {f : α → Option β} {x : α} {xs : List α} {ys : List β} (h : optAll f (x :: xs) = some ys) : ∃ y r, ys = y :: r ∧ f x = some y ∧ optAll f xs = some r := by
  simp only [optAll] at h
  cases e1 : f x with
  | none => rw [e1] at h; cases h
  | some y =>
    rw [e1] at h
    cases e2 : optAll f xs with
    | none => rw [e2] at h; cases h
    | some r => rw [e2] at h; cases h; exact ⟨y, r, rfl, rfl, rfl⟩
theorem optAll_nil {α β : Type} {f : α → Option β} {ys : List β} (h : optAll f [] = some ys) : ys = [] := by simp only [optAll, Option.some.injEq] at h; exact h.symm
theorem optAll_len {α β : Type} {f : α → Option β} : ∀ {xs : List α} {ys : List β}, optAll f xs = some ys → ys.length = xs.length
  | [], ys, h => by rw [optAll_nil h]; rfl
  | x :: xs, ys, h => by
    obtain ⟨y, r, rfl, _, h2⟩ := optAll_cons h
    simp [optAll_len h2]
section
variable {X : Cx} {c : CC}
theorem tg_shape {n : Nat} {e : Expr} {t : Tg} (h : cpT n c e = some t) : (∃ x p, e = .Name x p) ∨ ∃ es k p, e = .Tuple es k p := by
  cases n with
  | zero => simp [cpT] at h
  | succ n =>
    simp only [cpT] at h
    split at h
    · exact .inl ⟨_, _, rfl⟩
    · exact .inr ⟨_, _, _, rfl⟩
    · cases h
theorem assignEach_cons {e : Expr} {es : List Expr} {env : Env} (h : (∃ x p, e = .Name x p) ∨ ∃ es k p, e = .Tuple es k p) : assignEach (e :: es) env = (false, assign e env) :: assignEach es env := by
  rcases h with ⟨x, p, rfl⟩ | ⟨ts, k, p, rfl⟩ <;> rfl
theorem sound_T (G : PgOk X c) : ∀ (n : Nat) (e : Expr) (t : Tg), cpT n c e = some t → PG X e (gTg X.K t)
  | 0, e, t, h => by simp [cpT] at h
  | n + 1, e, t, h => by
    simp only [cpT] at h
    split at h
    · rename_i x p
      cases e1 : cpTn c x with
      | none => rw [e1] at h; cases h
      | some i =>
        rw [e1] at h; cases h
        obtain ⟨h1, h2⟩ := cpTn_ok e1
        obtain ⟨h3, h4⟩ := G.loc x h2
        simp only [gTg]
        exact pg_name G.nd (by rw [G.N]; exact ixOf_get h1) h3 h4
    · rename_i es k p
      split at h
      · cases h
      rename_i hot
      have hot' : c.hot = false := by simpa using hot
      cases e1 : optAll (cpT n c) es with
      | none => rw [e1] at h; cases h
      | some ts =>
        rw [e1] at h; cases h
        have all : ∀ (es : List Expr) (ts : List Tg), optAll (cpT n c) es = some ts → PGs X es (gTgs X.K ts) ∧ (assignEach es X.env).length = ts.length ∧ (assignEach es X.env).findIdx? (·.1) = none := by
          intro es
          induction es with
          | nil =>
            intro ts h
            rw [optAll_nil h]
            exact ⟨by simp only [gTgs]; exact pgs_nil, rfl, rfl⟩
          | cons e es ih =>
            intro ts h
            obtain ⟨t, r, rfl, h1, h2⟩ := optAll_cons h
            obtain ⟨i1, i2, i3⟩ := ih r h2
            have q := assignEach_cons (es := es) (env := X.env) (tg_shape h1)
            refine ⟨?_, by rw [q]; simp [i2], by rw [q]; simp [List.findIdx?_cons, i3]⟩
            simp only [gTgs]
            exact pgs_cons (sound_T G n e t h1) i1 (by rw [q]; rfl)
        obtain ⟨a1, a2, a3⟩ := all es ts e1
        simp only [gTg]
        exact pg_tup (G.calm hot') a1 a2 a3
    · cases h
end
/-! ### walks -/
/-- an item; b: it goes to a target of several names, so that its object need not be seen whole -/
def RVk (b : Bool) (K : PySem.W.Frag) (ι : Nat → Addr) (n : Nat) (H : Hp) (iv : IV) (x : V) : Prop :=
  RV K ι n H iv x ∨ (b = true ∧ ∃ xs a vs, iv = .tup xs ∧ x = .ref a ∧ SqT K H a vs ∧ RVs K ι n H xs vs)
theorem setT_okW {K : PySem.W.Frag} {ι : Nat → Addr} {n : Nat} {H : Hp} {b : Bool} (t : Tg) (hb : b = true → ∃ ts, t = .tp ts) (iv : IV) (v : V) (τ τ' : Sl) (σ : L2.St) (e : setT t iv τ = some τ') (rv : RVk b K ι n H iv v) (rs : RSl K ι n H τ σ) (Q : L2.St → Hp → Prop) (go : ∀ σ', RSl K ι n H τ' σ' → OffT t.ins σ σ' → Q σ' H) : gTg K t v σ H Q := by
  rcases rv with rv | ⟨hb', xs, a, vs, rfl, rfl, h1, h2⟩
  · exact setT_ok t iv v τ τ' σ e rv rs Q go
  · obtain ⟨ts, rfl⟩ := hb hb'
    simp only [setT] at e
    simp only [gTg]
    exact ⟨a, vs, rfl, h1, by rw [h2.length]; exact (setTs_len (K := K) (ι := ι) (n := n) (H := H) e).symm, setTs_ok ts xs vs τ τ' σ e h2 rs Q fun σ' a b => go σ' a (by simpa only [Tg.ins] using b)⟩
structure WkOk (b : Bool) (K : PySem.W.Frag) (cm : Cm) (ι0 : Nat → Addr) (S0 : Sto) (H0 : Hp) (wk : Walk) (J : It) : Prop where
  go : ∀ i ι S H, Step ι0 S0 H0 ι S H → Rel K cm ι S H → holds wk.held S = true → i < wk.items.length → J.go i H
  yld : ∀ i ι S H x H' iv, Step ι0 S0 H0 ι S H → Rel K cm ι S H → holds wk.held S = true → wk.items[i]? = some iv → J.yld i H x H' → Rel K cm ι S H' ∧ Step ι S H ι S H' ∧ RVk b K ι S.length H' iv x
  stop : ∀ i ι S H, Step ι0 S0 H0 ι S H → Rel K cm ι S H → holds wk.held S = true → wk.items.length ≤ i → J.stop i H
abbrev tW (b : Bool) (K : PySem.W.Frag) (cm : Cm) (W : WX) (m : Sl → Sto → Rs Walk) : TI := tG K cm W (WkOk b K cm) m
section
variable {K : PySem.W.Frag} {cm : Cm} {ι0 : Nat → Addr} {S0 : Sto} {H0 : Hp}
theorem held_cell {n : Nat} {c : Cell} {S : Sto} (h : holds (some (n, c)) S = true) : S[n]? = some c := by
  simp only [holds] at h
  cases e : S[n]? with
  | none => rw [e] at h; cases h
  | some d => rw [e] at h; rw [Cell.eq_of_eqb d c h]
theorem wk_list {bb : Bool} {n : Nat} {c : Cell} {xs : List IV} (hn : n < S0.length) (hc : c = .lst xs ∨ c = .frz xs) : WkOk bb K cm ι0 S0 H0 ⟨xs, some (n, c)⟩ (Itl K (ι0 n)) := by
  have key : ∀ ι S H, Step ι0 S0 H0 ι S H → Rel K cm ι S H → holds (some (n, c)) S = true → ∃ vs, SqL K H (ι0 n) vs ∧ RVs K ι S.length H xs vs := fun ι S H st r h => by
    have q := r.cell n c (held_cell h)
    rw [st.ext n hn] at q
    rcases hc with rfl | rfl
    · obtain ⟨vs, e1, e2⟩ := q; exact ⟨vs, .inl (.inl e1), e2⟩
    · obtain ⟨o, vs, e1, e2⟩ := q; exact ⟨vs, .inl (.inr ⟨o, e1⟩), e2⟩
  refine ⟨fun i ι S H st r h hi => ?_, fun i ι S H x H' iv st r h hi y => ?_, fun i ι S H st r h hi => ?_⟩
  · obtain ⟨vs, e1, e2⟩ := key ι S H st r h
    obtain ⟨v, hv, _⟩ := e2.get (i := i) (List.getElem?_eq_getElem hi)
    exact ⟨vs, v, e1, hv⟩
  · obtain ⟨vs, e1, e2⟩ := key ι S H st r h
    obtain ⟨rfl, y⟩ := y
    obtain ⟨v, hv, rv⟩ := e2.get hi
    have := y vs e1
    rw [hv] at this; cases this
    exact ⟨r, Step.refl, .inl rv⟩
  · obtain ⟨vs, e1, e2⟩ := key ι S H st r h
    exact ⟨vs, e1, by rw [e2.length]; exact hi⟩
theorem wk_tup {bb : Bool} {xs : List IV} {a : Addr} {vs : List V} (r0 : Rel K cm ι0 S0 H0) (h1 : SqT K H0 a vs) (h2 : RVs K ι0 S0.length H0 xs vs) : WkOk bb K cm ι0 S0 H0 ⟨xs, none⟩ (Itt K a) := by
  refine ⟨fun i ι S H st r h hi => ?_, fun i ι S H x H' iv st r h hi y => ?_, fun i ι S H st r h hi => ?_⟩
  · obtain ⟨v, hv, _⟩ := h2.get (i := i) (List.getElem?_eq_getElem hi)
    exact ⟨vs, v, SqT.step r0 st h1, hv⟩
  · obtain ⟨rfl, y⟩ := y
    obtain ⟨v, hv, rv⟩ := h2.get hi
    have := y vs (SqT.step r0 st h1)
    rw [hv] at this; cases this
    exact ⟨r, Step.refl, .inl (rv.step r0 st)⟩
  · exact ⟨vs, SqT.step r0 st h1, by rw [h2.length]; exact hi⟩
theorem wk_str {bb : Bool} {z : Str} : WkOk bb K cm ι0 S0 H0 ⟨signs z, none⟩ (Its z) := by
  refine ⟨fun i ι S H st r h hi => ?_, fun i ι S H x H' iv st r h hi y => ?_, fun i ι S H st r h hi => ?_⟩
  · show i < z.cps.size
    simpa [signs] using hi
  · obtain ⟨rfl, ch, hc, rfl⟩ := y
    refine ⟨r, Step.refl, .inl ?_⟩
    simp only [signs, List.getElem?_map, Array.getElem?_toList, hc, Option.map_some, Option.some.injEq] at hi
    subst hi
    simp only [RV]
  · show z.cps.size ≤ i
    simpa [signs] using hi
theorem wk_rng {bb : Bool} {n : Nat} : WkOk bb K cm ι0 S0 H0 ⟨rngI n, none⟩ (Itr 0 n) := by
  refine ⟨fun i ι S H st r h hi => ?_, fun i ι S H x H' iv st r h hi y => ?_, fun i ι S H st r h hi => ?_⟩
  · show i < n
    simpa [rngI] using hi
  · obtain ⟨rfl, rfl⟩ := y
    refine ⟨r, Step.refl, .inl ?_⟩
    have hl : i < n := by
      have := (List.getElem?_eq_some_iff.mp hi).1
      simpa [rngI] using this
    simp only [rngI, List.getElem?_map, List.getElem?_range hl, Option.map_some, Option.some.injEq] at hi
    subst hi
    simp only [RV]
    simp
  · show n ≤ i
    simpa [rngI] using hi
end
section
variable {K : PySem.W.Frag} {cm : Cm} {ι0 : Nat → Addr} {S0 : Sto} {H0 : Hp}
theorem wk_rngJ {bb : Bool} {a b : Int} : WkOk bb K cm ι0 S0 H0 ⟨rngJ a b, none⟩ (Itr a (b - a).toNat) := by
  refine ⟨fun i ι S H st r h hi => ?_, fun i ι S H x H' iv st r h hi y => ?_, fun i ι S H st r h hi => ?_⟩
  · show i < (b - a).toNat
    simpa [rngJ] using hi
  · obtain ⟨rfl, rfl⟩ := y
    refine ⟨r, Step.refl, .inl ?_⟩
    have hl : i < (b - a).toNat := by
      have := (List.getElem?_eq_some_iff.mp hi).1
      simpa [rngJ] using this
    simp only [rngJ, List.getElem?_map, List.getElem?_range hl, Option.map_some, Option.some.injEq] at hi
    subst hi
    simp only [RV]
  · show (b - a).toNat ≤ i
    simpa [rngJ] using hi
end
theorem PI.weak {X : Cx} {tg e : Expr} {t t' : TI} (h : PI X tg e t) (g : ∀ σ H Q, t' σ H Q → t σ H Q) : PI X tg e t' := ⟨fun pins s σ H Q I q => h.run pins s σ H Q I (g σ H Q q)⟩
theorem PI.or {X : Cx} {tg e : Expr} {t t' : TI} (h : PI X tg e t) (h' : PI X tg e t') : PI X tg e (fun σ H Q => t σ H Q ∨ t' σ H Q) := ⟨fun pins s σ H Q I q => by
  rcases q with q | q
  · exact h.run pins s σ H Q I q
  · exact h'.run pins s σ H Q I q⟩
section
variable {X : Cx} {cm : Cm} {W : WX} {Γ : Gam} {tg e : Expr} {p : PX}
theorem sound_val {bb : Bool} (h : PE X e (tI X.K cm W (evE Γ p))) : PI X tg e (tW bb X.K cm W (evI Γ (.val p))) := by
  refine PI.weak (PI.or (pi_list h) (PI.or (pi_tup h) (pi_str h))) fun σ H R q => ?_
  obtain ⟨ι, S, τ, rl, rs, o⟩ := q
  simp only [evI] at o
  cases e1 : evE Γ p τ S with
  | bad => rw [e1] at o; exact o.elim
  | exc c S1 =>
    rw [e1] at o
    exact .inl ⟨ι, S, τ, rl, rs, by rw [e1]; exact o⟩
  | ok a S1 =>
    rw [e1] at o
    simp only [Rs.bind] at o
    cases a with
    | tup xs =>
      simp only [walkV] at o
      refine .inr (.inl ⟨ι, S, τ, rl, rs, ?_⟩)
      rw [e1]
      intro ι1 H1 v st r1 rv
      simp only [RVS, RV] at rv
      obtain ⟨a, vs, rfl, h1, h2⟩ := rv
      exact ⟨a, rfl, ⟨vs, h1.toT⟩, o ι1 H1 _ st r1 (wk_tup r1 h1.toT h2)⟩
    | str z =>
      simp only [walkV] at o
      refine .inr (.inr ⟨ι, S, τ, rl, rs, ?_⟩)
      rw [e1]
      intro ι1 H1 v st r1 rv
      simp only [RVS, RV] at rv
      exact ⟨z, rv, o ι1 H1 _ st r1 wk_str⟩
    | ref n =>
      simp only [walkV] at o
      refine .inl ⟨ι, S, τ, rl, rs, ?_⟩
      rw [e1]
      intro ι1 H1 v st r1 rv
      simp only [RVS, RV] at rv
      obtain ⟨hn, rfl⟩ := rv
      cases e2 : S1[n]? with
      | none => rw [e2] at o; exact o.elim
      | some c =>
        rw [e2] at o
        have hc := r1.cell n c e2
        cases c with
        | lst xs => obtain ⟨vs, a1, a2⟩ := hc; exact ⟨_, rfl, ⟨vs, .inl (.inl a1)⟩, o ι1 H1 _ st r1 (wk_list hn (.inl rfl))⟩
        | frz xs => obtain ⟨ob, vs, a1, a2⟩ := hc; exact ⟨_, rfl, ⟨vs, .inl (.inr ⟨ob, a1⟩)⟩, o ι1 H1 _ st r1 (wk_list hn (.inr rfl))⟩
        | dct kvs => exact o.elim
        | ins c fs => exact o.elim
    | non => exact o.elim
    | bl b => exact o.elim
    | int i => exact o.elim
    | cls i => exact o.elim
theorem wk_enumL {n : Nat} {c : Cell} {xs : List IV} {K : PySem.W.Frag} {cm : Cm} {ι0 : Nat → Addr} {S0 : Sto} {H0 : Hp} (hn : n < S0.length) (hc : c = .lst xs ∨ c = .frz xs) : WkOk true K cm ι0 S0 H0 ⟨enumI xs, some (n, c)⟩ (Ite K (ι0 n)) := by
  have key : ∀ ι S H, Step ι0 S0 H0 ι S H → Rel K cm ι S H → holds (some (n, c)) S = true → ∃ vs, SqL K H (ι0 n) vs ∧ RVs K ι S.length H xs vs := fun ι S H st r h => by
    have q := r.cell n c (held_cell h)
    rw [st.ext n hn] at q
    rcases hc with rfl | rfl
    · obtain ⟨vs, e1, e2⟩ := q; exact ⟨vs, .inl (.inl e1), e2⟩
    · obtain ⟨o, vs, e1, e2⟩ := q; exact ⟨vs, .inl (.inr ⟨o, e1⟩), e2⟩
  refine ⟨fun i ι S H st r h hi => ?_, fun i ι S H x H' iv st r h hi y => ?_, fun i ι S H st r h hi => ?_⟩
  · obtain ⟨vs, e1, e2⟩ := key ι S H st r h
    have hi' : i < xs.length := by simpa [enumI] using hi
    obtain ⟨v, hv, _⟩ := e2.get (i := i) (List.getElem?_eq_getElem hi')
    exact ⟨vs, v, e1, hv⟩
  · obtain ⟨vs, e1, e2⟩ := key ι S H st r h
    obtain ⟨T, u, rfl, hT, rfl, y⟩ := y
    simp only [enumI, List.getElem?_map, List.getElem?_zipIdx] at hi
    cases q : xs[i]? with
    | none => rw [q] at hi; simp at hi
    | some z =>
      rw [q] at hi
      simp only [Option.map_some, Nat.zero_add, Option.some.injEq] at hi
      subst hi
      obtain ⟨v, hv, rv⟩ := e2.get q
      have := y vs e1
      rw [hv] at this; cases this
      obtain ⟨r1, st1⟩ := r.upd_new (o := .tup [.int (i : Nat), u]) hT
      exact ⟨r1, st1, .inr ⟨rfl, _, T, _, rfl, rfl, .inl (.inl upd_same), .cons (by simp only [RV]) (.cons (rv.step r st1) .nil)⟩⟩
  · obtain ⟨vs, e1, e2⟩ := key ι S H st r h
    exact ⟨vs, e1, by rw [e2.length]; simpa [enumI] using hi⟩
theorem wk_enumT {xs : List IV} {a : Addr} {vs : List V} {K : PySem.W.Frag} {cm : Cm} {ι0 : Nat → Addr} {S0 : Sto} {H0 : Hp} (r0 : Rel K cm ι0 S0 H0) (h1 : SqT K H0 a vs) (h2 : RVs K ι0 S0.length H0 xs vs) : WkOk true K cm ι0 S0 H0 ⟨enumI xs, none⟩ (IteT K a) := by
  refine ⟨fun i ι S H st r h hi => ?_, fun i ι S H x H' iv st r h hi y => ?_, fun i ι S H st r h hi => ?_⟩
  · have hi' : i < xs.length := by simpa [enumI] using hi
    obtain ⟨v, hv, _⟩ := h2.get (i := i) (List.getElem?_eq_getElem hi')
    exact ⟨vs, v, SqT.step r0 st h1, hv⟩
  · obtain ⟨T, u, rfl, hT, rfl, y⟩ := y
    simp only [enumI, List.getElem?_map, List.getElem?_zipIdx] at hi
    cases q : xs[i]? with
    | none => rw [q] at hi; simp at hi
    | some z =>
      rw [q] at hi
      simp only [Option.map_some, Nat.zero_add, Option.some.injEq] at hi
      subst hi
      obtain ⟨v, hv, rv⟩ := h2.get q
      have := y vs (SqT.step r0 st h1)
      rw [hv] at this; cases this
      obtain ⟨r1, st1⟩ := r.upd_new (o := .tup [.int (i : Nat), u]) hT
      exact ⟨r1, st1, .inr ⟨rfl, _, T, _, rfl, rfl, .inl (.inl upd_same), .cons (by simp only [RV]) (.cons ((rv.step r0 st).step r st1) .nil)⟩⟩
  · exact ⟨vs, SqT.step r0 st h1, by rw [h2.length]; simpa [enumI] using hi⟩
theorem wk_zipT {xs ys : List IV} {a b : Addr} {vs ws : List V} {K : PySem.W.Frag} {cm : Cm} {ι0 : Nat → Addr} {S0 : Sto} {H0 : Hp} (r0 : Rel K cm ι0 S0 H0) (h1 : SqT K H0 a vs) (h2 : RVs K ι0 S0.length H0 xs vs) (h3 : SqT K H0 b ws) (h4 : RVs K ι0 S0.length H0 ys ws) : WkOk true K cm ι0 S0 H0 ⟨zipI xs ys, none⟩ (ItzT K a b) := by
  have hlen : (zipI xs ys).length = min xs.length ys.length := by simp [zipI]
  refine ⟨fun i ι S H st r h hi => ?_, fun i ι S H x H' iv st r h hi y => ?_, fun i ι S H st r h hi => ?_⟩
  · rw [hlen] at hi
    obtain ⟨v, hv, _⟩ := h2.get (i := i) (List.getElem?_eq_getElem (by omega))
    obtain ⟨v', hv', _⟩ := h4.get (i := i) (List.getElem?_eq_getElem (by omega))
    exact ⟨vs, ws, v, v', SqT.step r0 st h1, SqT.step r0 st h3, hv, hv'⟩
  · obtain ⟨T, u, u', rfl, hT, rfl, y, y'⟩ := y
    have hl : i < min xs.length ys.length := by rw [← hlen]; exact (List.getElem?_eq_some_iff.mp hi).1
    have q1 : xs[i]? = some xs[i] := List.getElem?_eq_getElem (by omega)
    have q2 : ys[i]? = some ys[i] := List.getElem?_eq_getElem (by omega)
    have hi2 : iv = .tup [xs[i], ys[i]] := by
      simp only [zipI, List.getElem?_map, List.zip, List.getElem?_zipWith, q1, q2, Option.map_some, Option.some.injEq] at hi
      exact hi.symm
    subst hi2
    obtain ⟨v, hv, rv⟩ := h2.get q1
    obtain ⟨v', hv', rv'⟩ := h4.get q2
    have := y vs (SqT.step r0 st h1)
    rw [hv] at this; cases this
    have := y' ws (SqT.step r0 st h3)
    rw [hv'] at this; cases this
    obtain ⟨r1, st1⟩ := r.upd_new (o := .tup [u, u']) hT
    exact ⟨r1, st1, .inr ⟨rfl, _, T, _, rfl, rfl, .inl (.inl upd_same), .cons ((rv.step r0 st).step r st1) (.cons ((rv'.step r0 st).step r st1) .nil)⟩⟩
  · rw [hlen] at hi
    refine ⟨vs, ws, SqT.step r0 st h1, SqT.step r0 st h3, ?_⟩
    rw [h2.length, h4.length]
    rcases Nat.le_total xs.length ys.length with q | q
    · rw [Nat.min_eq_left q] at hi; exact .inl hi
    · rw [Nat.min_eq_right q] at hi; exact .inr hi
theorem sound_enum {pp pos tpos : Pos} {elts : List Expr} {kk : Nat} (hg : Gl X "enumerate") (hm : X.mg "enumerate" = none) (ha : PA X [e] (tIs X.K cm W (evEs Γ [p]))) (hs : starEach [e] X.env = [(false, eval e X.env)]) : PI X (.Tuple elts kk tpos) (.Call (.Name "enumerate" pp) [e] [] pos) (tW true X.K cm W (evI Γ (.enum p))) := by
  refine PI.weak (pi_enumA hg hm ha hs) fun σ H R q => ?_
  obtain ⟨ι, S, τ, rl, rs, o⟩ := q
  refine ⟨ι, S, τ, rl, rs, ?_⟩
  simp only [evI] at o
  simp only [evEs]
  cases e1 : evE Γ p τ S with
  | bad => rw [e1] at o; exact o.elim
  | exc c S1 => rw [e1] at o; exact o
  | ok a S1 =>
    rw [e1] at o
    simp only [Rs.bind] at o ⊢
    intro ι1 H1 vs st r1 rv
    obtain ⟨v, rfl, rx⟩ := RVs.one (S := S1) (X := X) (by exact rv)
    cases a with
    | tup xs =>
      simp only [enumV] at o
      simp only [RV] at rx
      obtain ⟨a, vs, rfl, h1, h2⟩ := rx
      exact ⟨a, vs, rfl, .inr ⟨h1.toT, o ι1 H1 _ st r1 (wk_enumT r1 h1.toT h2)⟩⟩
    | ref n =>
      simp only [enumV] at o
      simp only [RV] at rx
      obtain ⟨hn, rfl⟩ := rx
      cases e2 : S1[n]? with
      | none => rw [e2] at o; exact o.elim
      | some c =>
        rw [e2] at o
        have hc := r1.cell n c e2
        cases c with
        | lst xs => obtain ⟨vs, a1, a2⟩ := hc; exact ⟨_, vs, rfl, .inl ⟨.inl (.inl a1), o ι1 H1 _ st r1 (wk_enumL hn (.inl rfl))⟩⟩
        | frz xs => obtain ⟨ob, vs, a1, a2⟩ := hc; exact ⟨_, vs, rfl, .inl ⟨.inl (.inr ⟨ob, a1⟩), o ι1 H1 _ st r1 (wk_enumL hn (.inr rfl))⟩⟩
        | dct kvs => exact o.elim
        | ins c fs => exact o.elim
    | str z => exact o.elim
    | non => exact o.elim
    | bl b => exact o.elim
    | int i => exact o.elim
    | cls i => exact o.elim
theorem sound_zip {pp pos tpos : Pos} {elts : List Expr} {kk : Nat} {e2 : Expr} {p2 : PX} (hg : Gl X "zip") (hm : X.mg "zip" = none) (ha : PA X [e, e2] (tIs X.K cm W (evEs Γ [p, p2]))) (hs : starEach [e, e2] X.env = (false, eval e X.env) :: starEach [e2] X.env) (hpl : (backTo pos (starEach [e2] X.env)).any (·.1) = false) : PI X (.Tuple elts kk tpos) (.Call (.Name "zip" pp) [e, e2] [] pos) (tW true X.K cm W (evI Γ (.zip p p2))) := by
  refine PI.weak (pi_zipA hg hm ha hs hpl) fun σ H R q => ?_
  obtain ⟨ι, S, τ, rl, rs, o⟩ := q
  refine ⟨ι, S, τ, rl, rs, ?_⟩
  simp only [evI] at o
  simp only [evEs]
  cases e1 : evE Γ p τ S with
  | bad => rw [e1] at o; exact o.elim
  | exc c S1 => rw [e1] at o; exact o
  | ok a S1 =>
    rw [e1] at o
    simp only [Rs.bind] at o ⊢
    cases e2 : evE Γ p2 τ S1 with
    | bad => rw [e2] at o; exact o.elim
    | exc c S2 => rw [e2] at o; exact o
    | ok b S2 =>
      rw [e2] at o
      intro ι1 H1 vs st r1 rv
      obtain ⟨v, v', rfl, rx, ry⟩ := RVs.two (S := S2) (X := X) (by exact rv)
      cases a with
      | tup xs =>
        cases b with
        | tup ys =>
          simp only [RV] at rx ry
          obtain ⟨a, vs, rfl, h1, h2⟩ := rx
          obtain ⟨b, ws, rfl, h3, h4⟩ := ry
          exact ⟨a, b, vs, ws, rfl, .inr ⟨h1.toT, h3.toT, o ι1 H1 _ st r1 (wk_zipT r1 h1.toT h2 h3.toT h4)⟩⟩
        | _ => exact o.elim
      | _ => exact o.elim
theorem one_len {Γ : Gam} {p : PX} {τ : Sl} {S S1 : Sto} {a : List IV} (h : evEs Γ [p] τ S = .ok a S1) : a.length = 1 := by
  simp only [evEs] at h
  cases e : evE Γ p τ S with
  | bad => rw [e] at h; cases h
  | exc c S1 => rw [e] at h; cases h
  | ok x S2 => rw [e] at h; cases h; rfl
theorem two_len {Γ : Gam} {p p2 : PX} {τ : Sl} {S S1 : Sto} {a : List IV} (h : evEs Γ [p, p2] τ S = .ok a S1) : a.length = 2 := by
  simp only [evEs] at h
  cases e : evE Γ p τ S with
  | bad => rw [e] at h; cases h
  | exc c S1 => rw [e] at h; cases h
  | ok x S2 =>
    rw [e] at h
    simp only [Rs.bind] at h
    cases e2 : evE Γ p2 τ S2 with
    | bad => rw [e2] at h; cases h
    | exc c S1 => rw [e2] at h; cases h
    | ok y S3 => rw [e2] at h; cases h; rfl
theorem sound_rng {bb : Bool} {pp pos : Pos} (hg : Gl X "range") (hm : X.mg "range" = none) (ha : PA X [e] (tIs X.K cm W (evEs Γ [p]))) (hs : starEach [e] X.env = [(false, eval e X.env)]) : PI X tg (.Call (.Name "range" pp) [e] [] pos) (tW bb X.K cm W (evI Γ (.rng [p]))) := by
  refine PI.weak (pi_range1 hg hm ha hs) fun σ H R q => ?_
  obtain ⟨ι, S, τ, rl, rs, o⟩ := q
  refine ⟨ι, S, τ, rl, rs, ?_⟩
  simp only [evI] at o
  cases e1 : evEs Γ [p] τ S with
  | bad => rw [e1] at o; exact o.elim
  | exc c S1 => rw [e1] at o; exact o
  | ok a S1 =>
    rw [e1] at o
    simp only [Rs.bind] at o
    intro ι1 H1 v st r1 rv
    split at o
    · rename_i n
      split at o
      · rename_i hb
        simp only [Bool.and_eq_true, decide_eq_true_eq] at hb
        obtain ⟨x, rfl, rx⟩ := RVs.one (S := S1) (X := X) (by exact rv)
        simp only [RV] at rx; subst rx
        exact ⟨n, rfl, hb.1, hb.2, o ι1 H1 _ st r1 wk_rng⟩
      · exact o.elim
    · exact absurd (one_len e1) (by simp)
    · exact o.elim
theorem sound_rng2 {bb : Bool} {e2 : Expr} {p2 : PX} {pp pos : Pos} (hg : Gl X "range") (hm : X.mg "range" = none) (ha : PA X [e, e2] (tIs X.K cm W (evEs Γ [p, p2]))) (hs : starEach [e, e2] X.env = (false, eval e X.env) :: starEach [e2] X.env) (hs2 : starEach [e2] X.env = [(false, eval e2 X.env)]) : PI X tg (.Call (.Name "range" pp) [e, e2] [] pos) (tW bb X.K cm W (evI Γ (.rng [p, p2]))) := by
  refine PI.weak (pi_range2 hg hm ha (by rw [hs, hs2]) hs2) fun σ H R q => ?_
  obtain ⟨ι, S, τ, rl, rs, o⟩ := q
  refine ⟨ι, S, τ, rl, rs, ?_⟩
  simp only [evI] at o
  cases e1 : evEs Γ [p, p2] τ S with
  | bad => rw [e1] at o; exact o.elim
  | exc c S1 => rw [e1] at o; exact o
  | ok a S1 =>
    rw [e1] at o
    simp only [Rs.bind] at o
    intro ι1 H1 v st r1 rv
    split at o
    · exact absurd (two_len e1) (by simp)
    · rename_i n m
      split at o
      · rename_i hb
        simp only [Bool.and_eq_true, decide_eq_true_eq] at hb
        obtain ⟨x, y, rfl, rx, ry⟩ := RVs.two (S := S1) (X := X) (by exact rv)
        simp only [RV] at rx ry; subst rx ry
        exact ⟨n, m, rfl, ⟨by omega, by omega, by omega, by omega⟩, o ι1 H1 _ st r1 wk_rngJ⟩
      · exact o.elim
    · exact o.elim
end
end Wg
/-! WgK: comprehensions; all expressions. -/
namespace Wg
open PySem PySem.Spec PyProof.Rows L2
section
variable {K : PySem.W.Frag} {cm : Cm} {ι ι1 : Nat → Addr} {S S1 : Sto} {H H1 : Hp} {D : Addr} {vs ws : List V}
/-- a list that is tracked and no cell: it is changed -/
theorem Rel.side (r : Rel K cm ι S H) (hD : H D = some (.lst vs)) (hn : ∀ m, m < S.length → ι m ≠ D) : Rel K cm ι S (upd H D (.lst ws)) ∧ ∀ a us, SqN K H a us → SqN K (upd H D (.lst ws)) a us := by
  have ht : ∀ a us, SqN K H a us → SqN K (upd H D (.lst ws)) a us := fun a us h => h.upd_at fun _ _ z => by rw [hD] at z; cases z
  refine ⟨⟨fun i c e => ?_, r.inj⟩, ht⟩
  have hi : i < S.length := (List.getElem?_eq_some_iff.mp e).1
  exact (r.cell i c e).map (by rw [upd_ne (hn i hi)]) ht (fun _ _ => rfl) (Nat.le_refl _)
/-- .. it becomes a cell -/
theorem Rel.adopt {xs : List IV} (r : Rel K cm ι S H) (hD : H D = some (.lst vs)) (hn : ∀ m, m < S.length → ι m ≠ D) (rv : RVs K ι S.length H xs vs) : Rel K cm (more ι S.length D) (S ++ [.lst xs]) H := by
  have hl : (S ++ [Cell.lst xs]).length = S.length + 1 := by simp
  refine ⟨fun i d e => ?_, fun i j hi hj q => ?_⟩
  · rw [hl]
    by_cases hi : i < S.length
    · rw [List.getElem?_append_left hi] at e
      rw [more_lt hi]
      exact (r.cell i d e).map rfl (fun _ _ q => q) (fun m hm => more_lt hm) (Nat.le_succ _)
    · have hi2 : i = S.length := by
        have := (List.getElem?_eq_some_iff.mp e).1
        rw [hl] at this; omega
      subst hi2
      rw [List.getElem?_append_right (Nat.le_refl _), Nat.sub_self] at e
      cases e
      rw [more_eq]
      exact ⟨vs, hD, rv.map (fun _ _ q => q) (fun m hm => more_lt hm) (Nat.le_succ _)⟩
  · rw [hl] at hi hj
    by_cases h1 : i < S.length
    · by_cases h2 : j < S.length
      · rw [more_lt h1, more_lt h2] at q; exact r.inj i j h1 h2 q
      · have : j = S.length := by omega
        subst this
        rw [more_lt h1, more_eq] at q
        exact absurd q (hn i h1)
    · have : i = S.length := by omega
      subst this
      by_cases h2 : j < S.length
      · rw [more_lt h2, more_eq] at q
        exact absurd q.symm (hn j h2)
      · omega
/-- the state within a comprehension: D its list -/
structure Mid (K : PySem.W.Frag) (cm : Cm) (ι1 : Nat → Addr) (S1 : Sto) (H1 : Hp) (D : Addr) (ι : Nat → Addr) (S : Sto) (H : Hp) (acc : List IV) : Prop where
  st : Step ι1 S1 H1 ι S H
  rel : Rel K cm ι S H
  off : ∀ m, m < S.length → ι m ≠ D
  lst : ∃ vs, H D = some (.lst vs) ∧ RVs K ι S.length H acc vs
theorem Mid.start (r1 : Rel K cm ι1 S1 H1) (hD : H1 D = none) : Mid K cm ι1 S1 H1 D ι1 S1 (upd H1 D (.lst [])) [] := by
  obtain ⟨a, b⟩ := r1.upd_new (o := .lst []) hD
  refine ⟨b, a, fun m hm e => ?_, [], upd_same, .nil⟩
  obtain ⟨o, eo, _⟩ := r1.there hm
  rw [e, hD] at eo; cases eo
variable {acc : List IV} {ι2 : Nat → Addr} {S2 : Sto} {H2 : Hp}
theorem Mid.step (M : Mid K cm ι1 S1 H1 D ι S H acc) (st : Step ι S H ι2 S2 H2) (r2 : Rel K cm ι2 S2 H2) : Mid K cm ι1 S1 H1 D ι2 S2 H2 acc := by
  obtain ⟨vs, hD, rv⟩ := M.lst
  refine ⟨Step.trans M.rel M.st st, r2, fun m hm e => ?_, vs, st.frm D _ hD M.off, rv.step M.rel st⟩
  by_cases h : m < S.length
  · rw [st.ext m h] at e; exact M.off m h e
  · have := st.new m (Nat.le_of_not_lt h) hm
    rw [e, hD] at this; cases this
theorem Mid.push (M : Mid K cm ι1 S1 H1 D ι S H acc) (hD1 : H1 D = none) {y : IV} {v : V} (rv : RV K ι S.length H y v) : ∃ vs, H D = some (.lst vs) ∧ vs.length = acc.length ∧ Mid K cm ι1 S1 H1 D ι S (upd H D (.lst (vs ++ [v]))) (acc ++ [y]) := by
  obtain ⟨vs, hD, rvs⟩ := M.lst
  obtain ⟨r2, ht⟩ := M.rel.side (ws := vs ++ [v]) hD M.off
  refine ⟨vs, hD, rvs.length, ⟨M.st.len, M.st.ext, fun a o e h => ?_, M.st.new⟩, r2, M.off, _, upd_same, (rvs.append (.cons rv .nil)).map ht (fun _ _ => rfl) (Nat.le_refl _)⟩
  rw [upd_ne (ne_of_none e hD1)]
  exact M.st.frm a o e h
theorem Mid.done (M : Mid K cm ι1 S1 H1 D ι S H acc) (hD1 : H1 D = none) {Q : VK} {W : WX} {σ : L2.St} (o : Out K cm W ι1 S1 H1 σ (RVS K) (alloc (.lst acc) S) Q) : Q (.ref D) H := by
  obtain ⟨vs, hD, rvs⟩ := M.lst
  refine o (more ι S.length D) H _ ⟨?_, fun m hm => ?_, fun a u e h => M.st.frm a u e h, fun m h1 h2 => ?_⟩ (M.rel.adopt hD M.off rvs) ?_
  · rw [List.length_append]; exact Nat.le_trans M.st.len (Nat.le_add_right _ _)
  · rw [more_lt (Nat.lt_of_lt_of_le hm M.st.len), M.st.ext m hm]
  · by_cases h : m < S.length
    · rw [more_lt h]; exact M.st.new m h1 h
    · have : m = S.length := by simp at h2; omega
      subst this
      rw [more_eq]; exact hD1
  · simp only [RVS, RV]
    exact ⟨by simp, by rw [more_eq]⟩
end
/-! ### a comprehension's reading -/
/-- one turn -/
def oneI (Γ : Gam) (tg : Tg) (ifs : List PX) (elt : PX) (τ : Sl) : IV → Sto → Rs (Option IV) := fun x S2 => match setT tg x τ with
  | none => .bad
  | some τ' => (evTs Γ ifs τ' S2).bind fun k S3 => if k then (evE Γ elt τ' S3).bind fun y S4 => .ok (some y) S4 else .ok none S3
abbrev tTs (K : PySem.W.Frag) (cm : Cm) (W : WX) (m : Sl → Sto → Rs Bool) : TT := tG K cm W RId m
abbrev W0 : WX := fun _ _ _ _ => False
theorem wipe_same : ∀ (js : List Nat) (σ σ' : L2.St), OffT js (L2.wipe σ js) σ' → L2.wipe σ' js = L2.wipe σ js := by
  intro js σ σ' h
  have get : ∀ (ks : List Nat) (ρ : L2.St) (i : Nat), (L2.wipe ρ ks)[i]? = if i ∈ ks ∧ i < ρ.length then some none else ρ[i]? := by
    intro ks
    induction ks with
    | nil => intro ρ i; simp [L2.wipe]
    | cons k ks ih =>
      intro ρ i
      simp only [L2.wipe]
      by_cases hk : k = i
      · subst hk
        by_cases hl : k < ρ.length
        · rw [List.getElem?_set_self (by rw [L2.wipe_length]; exact hl)]
          simp [hl]
        · rw [List.getElem?_eq_none (by rw [List.length_set, L2.wipe_length]; omega)]
          rw [if_neg (fun z => hl z.2), List.getElem?_eq_none (by omega)]
      · rw [List.getElem?_set_ne hk, ih]
        have : (i ∈ k :: ks) ↔ i ∈ ks := by simp [Ne.symm hk]
        simp only [this]
  have hl : σ'.length = σ.length := by rw [h.1, L2.wipe_length]
  refine List.ext_getElem? fun i => ?_
  rw [get, get]
  by_cases hi : i ∈ js ∧ i < σ'.length
  · rw [if_pos hi, if_pos ⟨hi.1, by rw [← hl]; exact hi.2⟩]
  · rw [if_neg hi]
    by_cases hj : i ∈ js
    · have : ¬ i < σ'.length := fun z => hi ⟨hj, z⟩
      rw [List.getElem?_eq_none (by omega), if_neg (fun z => this (by rw [hl]; exact z.2)), List.getElem?_eq_none (by omega)]
    · rw [h.2 i hj, get]
theorem OffT.sub {js ks : List Nat} {σ σ' : L2.St} (h : OffT js σ σ') (hs : ∀ i ∈ js, i ∈ ks) : OffT ks σ σ' := ⟨h.1, fun i hi => h.2 i fun z => hi (hs i z)⟩
section
variable {K : PySem.W.Frag} {cm : Cm} {W : WX} {Γ : Gam} {own : List Nat} {tg : Tg} {it : PIt} {ifs : List PX} {elt : PX} {σ : L2.St} {H : Hp} {Q : VK}
theorem tLc_of {bb : Bool} (hbb : bb = true → ∃ ts, tg = .tp ts) (hown : ∀ i ∈ tg.ins, i ∈ own) (h : tI K cm W (evE Γ (.lc own tg it ifs elt)) σ H Q) :
    tLc (tW bb K cm W (evI Γ it)) (gTg K tg) (tTs K cm W0 (evTs Γ ifs)) (tI K cm W0 (evE Γ elt)) own σ H Q := by
  have h' : tI K cm W (fun τ S => (evI Γ it τ S).bind fun wk S1 => (lcGo (oneI Γ tg ifs elt (wipeI τ own)) wk.held wk.items [] S1).bind fun ys S2 => alloc (.lst ys) S2) σ H Q := by
    obtain ⟨ι, S, τ, rl, rs, o⟩ := h
    exact ⟨ι, S, τ, rl, rs, by simp only [evE] at o; exact o⟩
  refine tG.bind (f := fun τ wk S1 => (lcGo (oneI Γ tg ifs elt (wipeI τ own)) wk.held wk.items [] S1).bind fun ys S2 => alloc (.lst ys) S2) h' fun ι1 S1 H1 τ wk J r1 rs1 hw o1 => ?_
  intro D hD
  refine ⟨fun i m H => ∃ ι S acc, Mid K cm ι1 S1 H1 D ι S H acc ∧ m = wk.items.length - i ∧ i ≤ wk.items.length ∧
      Out K cm W ι1 S1 H1 σ (RVS K) ((lcGo (oneI Γ tg ifs elt (wipeI τ own)) wk.held (wk.items.drop i) acc S).bind fun ys S2 => alloc (.lst ys) S2) Q,
    ⟨_, ι1, S1, [], Mid.start r1 hD, rfl, Nat.zero_le _, by rw [List.drop_zero]; exact o1⟩, ?_⟩
  rintro i m H2 ⟨ι, S, acc, M, rfl, hi, o⟩
  by_cases hlt : i < wk.items.length
  · have hd : wk.items.drop i = wk.items[i] :: wk.items.drop (i + 1) := by rw [List.drop_eq_getElem_cons hlt]
    rw [hd] at o
    simp only [lcGo] at o
    split at o
    · rename_i hh
      have hget : wk.items[i]? = some wk.items[i] := List.getElem?_eq_getElem hlt
      refine .inr ⟨hw.go i ι S H2 M.st M.rel hh hlt, fun H' => ∃ ι S acc, Mid K cm ι1 S1 H1 D ι S H' acc ∧ Out K cm W ι1 S1 H1 σ (RVS K) ((lcGo (oneI Γ tg ifs elt (wipeI τ own)) wk.held (wk.items.drop (i + 1)) acc S).bind fun ys S2 => alloc (.lst ys) S2) Q,
        fun H' ⟨ι', S', acc', M', o'⟩ => ⟨wk.items.length - (i + 1), by omega, ι', S', acc', M', rfl, hlt, o'⟩, fun x H' hy => ?_⟩
      obtain ⟨rA, stA, rvx⟩ := hw.yld i ι S H2 x H' _ M.st M.rel hh hget hy
      have MA := M.step stA rA
      -- the turn gives a value, or nothing
      cases e1 : setT tg wk.items[i] (wipeI τ own) with
      | none =>
        simp only [oneI, e1, Rs.bind] at o
        exact o.elim
      | some τ' =>
        simp only [oneI, e1] at o
        have rsw : RSl K ι S.length H' (wipeI τ own) (L2.wipe σ own) := (rs1.step r1 MA.st).wipe own
        refine setT_okW tg hbb _ x _ τ' _ e1 rvx rsw _ fun σ2 rs2 off => ⟨wipe_same own σ σ2 (off.sub hown), ι, S, τ', rA, rs2, ?_⟩
        cases e2 : evTs Γ ifs τ' S with
        | bad => rw [e2] at o; exact o.elim
        | exc c S3 => rw [e2] at o; exact o.elim
        | ok b S3 =>
          rw [e2] at o
          simp only [Rs.bind] at o
          intro ι3 H3 b' st3 r3 eb
          obtain rfl : b = b' := eb
          have M3 := MA.step st3 r3
          cases b with
          | false =>
            simp only [Bool.false_eq_true, if_false] at o ⊢
            exact ⟨ι3, S3, acc, M3, o⟩
          | true =>
            simp only [if_true] at o ⊢
            refine ⟨ι3, S3, τ', r3, rs2.step rA st3, ?_⟩
            cases e3 : evE Γ elt τ' S3 with
            | bad => rw [e3] at o; exact o.elim
            | exc c S4 => rw [e3] at o; exact o.elim
            | ok y S4 =>
              rw [e3] at o
              simp only [] at o
              intro ι4 H4 v st4 r4 rv4
              have M4 := M3.step st4 r4
              by_cases hz : szOk (acc.length + 1) = true
              · rw [if_pos hz] at o
                obtain ⟨vs, hv, hl, M5⟩ := M4.push hD rv4
                refine ⟨vs, hv, ?_, ι4, S4, _, M5, o⟩
                have hz' : acc.length + 1 ≤ 16777216 := by simpa [szOk] using hz
                rw [hl, sizeLine_eq]; omega
              · rw [if_neg hz] at o; exact o.elim
    · exact o.elim
  · have e : i = wk.items.length := by omega
    subst e
    rw [List.drop_length] at o
    simp only [lcGo] at o
    split at o
    · rename_i hh
      exact .inl ⟨hw.stop _ ι S H2 M.st M.rel hh (Nat.le_refl _), M.done hD (by simpa only [Rs.bind] using o)⟩
    · exact o.elim
end
end Wg
/-! WgL: all expressions. -/
namespace Wg
open PySem PySem.Spec PyProof.Rows L2
section
variable {K : PySem.W.Frag} {cm : Cm} {W : WX} {Γ : Gam} {σ : L2.St} {H : Hp} {Q : VK}
theorem k_st {v : IV} {x : V} (hv : ∀ ι n H, RV K ι n H v x) (h : tI K cm W (evE Γ (.k v)) σ H Q) : Q x H := by
  obtain ⟨ι, S, τ, rl, rs, o⟩ := h
  simp only [evE] at o
  exact o ι H x Step.refl rl (hv _ _ _)
theorem loc_st {i : Nat} (h : tI K cm W (evE Γ (.loc i)) σ H Q) : tVar i σ H Q := by
  obtain ⟨ι, S, τ, rl, rs, o⟩ := h
  simp only [evE] at o
  split at o
  · rename_i v e
    obtain ⟨x, hx, rv⟩ := rs.2 i v e
    exact ⟨x, hx, o ι H x Step.refl rl rv⟩
  · exact o.elim
theorem tNil_st {Q : List V → Hp → Prop} (h : tIs K cm W (evEs Γ []) σ H Q) : tNil σ H Q := by
  obtain ⟨ι, S, τ, rl, rs, o⟩ := h
  simp only [evEs] at o
  exact o ι H [] Step.refl rl RVs.nil
theorem tCons_st {p : PX} {ps : List PX} {Q : List V → Hp → Prop} (h : tIs K cm W (evEs Γ (p :: ps)) σ H Q) : tCons (tI K cm W (evE Γ p)) (tIs K cm W (evEs Γ ps)) σ H Q := by
  have h' : tIs K cm W (fun τ S => (evE Γ p τ S).bind fun x S1 => (evEs Γ ps τ S1).bind fun xs S2 => .ok (x :: xs) S2) σ H Q := by
    obtain ⟨ι, S, τ, rl, rs, o⟩ := h
    exact ⟨ι, S, τ, rl, rs, by simp only [evEs] at o; exact o⟩
  refine tG.bind (f := fun τ x S1 => (evEs Γ ps τ S1).bind fun xs S2 => .ok (x :: xs) S2) h' fun ι1 S1 H1 τ a v r1 rs1 ra o1 => ⟨ι1, S1, τ, r1, rs1, Out.bindR o1 fun b S2 ι2 H2 y _ st r2 rb o2 => ?_⟩
  exact o2 ι2 H2 _ Step.refl r2 (RVs.cons (RV.step ra r1 st) rb)
/-- (a, b, ..), its object seen whole -/
def tTupN (t : TA) : TE := fun σ H Q => t σ H fun xs H1 => xs.length ≤ sizeLine ∧ ∀ (p : Addr) (o : Obj), H1 p = none → o.dict = none → Q (.ref p) (upd H1 p (.frz o (.tup xs)))
theorem pe_tupN {X : Cx} {es : List Expr} {pos : Pos} {t : TA} {x1} (h : PA X es t) : PE X (.Tuple es x1 pos) (tTupN t) := ⟨fun pins s σ H Q I hq =>
  wpAny_Tuple_spliced (thn (h.run pos pins s σ H _ I hq) fun us s1 ⟨xs, H1, I1, w, hz, q⟩ => ⟨by rw [← w.length]; exact hz, by
    obtain ⟨I2, hf⟩ := tNew I1 w hz
    exact ⟨.ref _, _, I2, rfl, q _ _ hf rfl⟩⟩)⟩
theorem tTup_st {ps : List PX} (h : tI K cm W (evE Γ (.tup ps)) σ H Q) : tTupN (tIs K cm W (evEs Γ ps)) σ H Q := by
  have h' : tI K cm W (fun τ S => (evEs Γ ps τ S).bind fun xs S1 => if szOk xs.length then .ok (.tup xs) S1 else .bad) σ H Q := by
    obtain ⟨ι, S, τ, rl, rs, o⟩ := h
    exact ⟨ι, S, τ, rl, rs, by simp only [evE] at o; exact o⟩
  refine tG.bind (f := fun τ (xs : List IV) S1 => if szOk xs.length then .ok (IV.tup xs) S1 else .bad) h' fun ι1 S1 H1 τ a v r1 rs1 ra o1 => ?_
  by_cases hz : szOk a.length = true
  · rw [if_pos hz] at o1
    exact ⟨by rw [RVs.length ra]; exact sz_le hz, OutV.tup (OutV.of o1 fun _ _ => by simp) r1 ra⟩
  · rw [if_neg hz] at o1; exact o1.elim
theorem tLst_st {ps : List PX} (h : tI K cm W (evE Γ (.lst ps)) σ H Q) : tLst (tIs K cm W (evEs Γ ps)) σ H Q := by
  have h' : tI K cm W (fun τ S => (evEs Γ ps τ S).bind fun xs S1 => if szOk xs.length then alloc (.lst xs) S1 else .bad) σ H Q := by
    obtain ⟨ι, S, τ, rl, rs, o⟩ := h
    exact ⟨ι, S, τ, rl, rs, by simp only [evE] at o; exact o⟩
  refine tG.bind (f := fun τ (xs : List IV) S1 => if szOk xs.length then alloc (.lst xs) S1 else .bad) h' fun ι1 S1 H1 τ a v r1 rs1 ra o1 => ?_
  by_cases hz : szOk a.length = true
  · rw [if_pos hz] at o1
    exact ⟨by rw [RVs.length ra]; exact sz_le hz, OutV.lst (OutV.of o1 fun _ _ => by simp [alloc]) r1 ra⟩
  · rw [if_neg hz] at o1; exact o1.elim
theorem dnew_st (h : tI K cm W (evE Γ (.dct [])) σ H Q) : tDNewK σ H Q := by
  obtain ⟨ι, S, τ, rl, rs, o⟩ := h
  simp only [evE] at o
  intro p hp
  obtain ⟨r1, st⟩ := rl.add (o := .dK []) (c := .dct []) hp ⟨[], upd_same, rfl, .nil⟩
  refine o _ _ _ st r1 ?_
  simp only [RVS, RV]
  exact ⟨by simp, by rw [more_eq]⟩
theorem ddisp_st {i j : Int} (h : tI K cm W (evE Γ (.dct [(.k (.int i), .k (.int j))])) σ H Q) : tDisp [(tC (.int i), tC (.int j))] σ H Q := by
  obtain ⟨ι, S, τ, rl, rs, o⟩ := h
  simp only [evE] at o
  intro p hp
  refine ⟨upd_same, [(Sum.inl i, .int j)], rfl, by simp, ?_⟩
  rw [upd_upd]
  obtain ⟨r1, st⟩ := rl.add (o := .dK (mergeK [] [(Sum.inl i, V.int j)])) (c := .dct [(Sum.inl i, .int j)]) hp ⟨_, upd_same, by simp [mergeK, putK], by
    simp only [mergeK, List.foldl, putK, List.map_cons, List.map_nil]
    exact .cons (by simp only [RV]) .nil⟩
  refine o _ _ _ st r1 ?_
  simp only [RVS, RV]
  exact ⟨by simp, by rw [more_eq]⟩
theorem tSl_st {p : PX} {l h : Option PX} (q : tI K cm W (evE Γ (.sl p l h)) σ H Q) : tSl (rISl K cm) (tI K cm W (evE Γ p)) (tIO K cm W (evO Γ l)) (tIO K cm W (evO Γ h)) σ H Q := by
  have q' : tI K cm W (fun τ S => (evE Γ p τ S).bind fun x S1 => (evO Γ l τ S1).bind fun a S2 => (evO Γ h τ S2).bind fun b S3 => slI x a b S3) σ H Q := by
    obtain ⟨ι, S, τ, rl, rs, o⟩ := q
    exact ⟨ι, S, τ, rl, rs, by simp only [evE] at o; exact o⟩
  refine tG.bind (f := fun τ x S1 => (evO Γ l τ S1).bind fun a S2 => (evO Γ h τ S2).bind fun b S3 => slI x a b S3) q' fun ι1 S1 H1 τ x v r1 rs1 ra o1 => ⟨ι1, S1, τ, r1, rs1, Out.bindR o1 fun a S2 ι2 H2 a' _ st r2 rb o2 => ?_⟩
  obtain rfl : a = a' := rb
  refine ⟨ι2, S2, τ, r2, rs1.step r1 st, Out.bindR o2 fun b S3 ι3 H3 b' _ st3 r3 rc o3 => ?_⟩
  obtain rfl : b = b' := rc
  exact ⟨ι3, S3, x, r3, (RV.step ra r1 st).step r2 st3, OutV.of o3 fun _ _ => slI_ne⟩
theorem tO_none {Q : Option Int → Hp → Prop} (h : tIO K cm W (evO Γ none) σ H Q) : tNoPart σ H Q := by
  obtain ⟨ι, S, τ, rl, rs, o⟩ := h
  simp only [evO] at o
  exact o ι H none Step.refl rl rfl
theorem tO_some {p : PX} {Q : Option Int → Hp → Prop} (h : tIO K cm W (evO Γ (some p)) σ H Q) : tPart (tI K cm W (evE Γ p)) σ H Q := by
  obtain ⟨ι, S, τ, rl, rs, o⟩ := h
  simp only [evO] at o
  refine ⟨ι, S, τ, rl, rs, Out.bindR (RA := RVS K) o fun a S1 ι1 H1 v _ st r1 ra o1 => ?_⟩
  cases a with
  | int i =>
    have : v = .int i := by simpa only [RVS, RV] using ra
    exact ⟨i, this, o1 ι1 H1 _ Step.refl r1 rfl⟩
  | non => exact o1.elim
  | bl b => exact o1.elim
  | str b => exact o1.elim
  | tup b => exact o1.elim
  | ref b => exact o1.elim
  | cls b => exact o1.elim
theorem tCB_st {f : List IV → Sto → Rs IV} {ps : List PX} (hn : ∀ a S c S', f a S ≠ .exc c S') (h : tI K cm W (fun τ S => (evEs Γ ps τ S).bind fun xs S1 => f xs S1) σ H Q) : tCB (rIl K cm f) (tIs K cm W (evEs Γ ps)) σ H Q :=
  tG.bind (f := fun τ xs S1 => f xs S1) h fun ι1 S1 H1 τ a v r1 rs ra o1 => ⟨ι1, S1, a, r1, ra, OutV.of o1 fun _ _ => hn _ _ _ _⟩
theorem tCall_st {f : List IV → Sto → Rs IV} {ps : List PX} (h : tI K cm W (fun τ S => (evEs Γ ps τ S).bind fun xs S1 => f xs S1) σ H Q) : tCallS (spI K cm f) (WE W) (tIs K cm W (evEs Γ ps)) σ H Q :=
  tG.bind (f := fun τ xs S1 => f xs S1) h fun ι1 S1 H1 τ a v r1 rs ra o1 => ⟨ι1, S1, a, r1, ra, by
    cases e : f a S1 with
    | ok b S2 => rw [e] at o1; exact o1
    | exc c S2 => rw [e] at o1; exact o1
    | bad => rw [e] at o1; exact o1⟩
/-- the class of a built-in value, and no dict of its own -/
def TyD (X : Cx) (T : String) (x : V) (H : Hp) : Prop := ∀ (pins : List (Addr × Obj)) (s : Shared) (σ : L2.St) (v : Value), L2.Inv X pins σ H s → RelV x v → s.TypeIs v T ∧ ∀ a, v = .ref a → ∃ ob, s.heap.get? a = some ob ∧ ob.dict = none
/-- o.m(e, ..) of a built-in whose class is seen when o is there -/
theorem pe_bmL {X : Cx} {o e : Expr} {es : List Expr} {to : TE} {t : TA} {name : Str} {apos cpos : Pos} (ho : PE X o to) (ha : PA X (e :: es) t)
    (hbase : attributeBase o name X.env (eval o X.env) = eval o X.env)
    (hfew : ((backTo cpos (starEach (e :: es) X.env)).all (fun x => !x.1) && (backToKw cpos (keywordEach [] X.env)).all (fun x => x.1.isSome)
      && decide ((e :: es).length + ([] : List Keyword).length + (if ([] : List Keyword).isEmpty then 0 else 1) < 30)) = true)
    (hline : (apos.endLine == cpos.line) = true) (hs : starEach (e :: es) X.env = (false, eval e X.env) :: starEach es X.env) (hplain : (backTo cpos (starEach es X.env)).any (·.1) = false) :
    PE X (.Call (.Attribute o name apos) (e :: es) [] cpos) (fun σ H Q => to σ H fun x H1 => ∃ T id r, PlainAttrs T ∧ Slot T name id ∧ typeOf (.builtin id) = pure (.type "method_descriptor") ∧ MtR X id r ∧ TyD X T x H1 ∧ t σ H1 fun xs H2 => r x xs H2 Q) := by
  refine ⟨fun pins s σ H Q I h => ?_⟩
  refine wpAny_Call_method_late hbase hfew hline rfl (thn (ho.run pins s σ H _ I h) fun v s1 ⟨x, H1, I1, r1, T, id, r, pa, slot, hty, hm, ty, q1⟩ => ?_)
  obtain ⟨h1, h2⟩ := ty pins s1 σ v I1 r1
  refine ⟨T, id, pa, slot, hty, h1, h2, ?_⟩
  have hA := ha.run cpos pins s1 σ H1 _ I1 q1
  rw [hs] at hA ⊢
  refine Calls.callWith_builtin (by show (false || (backTo cpos (starEach es X.env)).any (·.1)) = false; rw [hplain] <;> rfl) (Calls.evalArgs_plain ?_)
  exact thn hA fun us s2 ⟨vs, H2, I2, r2, q2⟩ => hm pins s2 σ H2 x vs v us Q I2 r1 r2 q2
theorem mth_st {X : Cx} {Q : VK} {m : Str} {id : String} {r : V → List V → Hp → VK → Prop} (slot : Slot "list" m id) (hty : typeOf (.builtin id) = pure (.type "method_descriptor")) (hmt : MtR X id r)
    (hr0 : ∀ (H : Hp) (x y : V) (Q : VK), (∃ ι S a b, Rel X.K cm ι S H ∧ RV X.K ι S.length H a x ∧ RV X.K ι S.length H b y ∧ OutV X.K cm ι S H (mthI m a [b] S) Q) → r x [y] H Q) {p q : PX} (h : tI X.K cm W (evE Γ (.mth m p [q])) σ H Q) :
    tI X.K cm W (evE Γ p) σ H fun x H1 => ∃ T id r, PlainAttrs T ∧ Slot T m id ∧ typeOf (.builtin id) = pure (.type "method_descriptor") ∧ MtR X id r ∧ TyD X T x H1 ∧ tIs X.K cm W (evEs Γ [q]) σ H1 fun xs H2 => r x xs H2 Q := by
  have h' : tI X.K cm W (fun τ S => (evE Γ p τ S).bind fun x S1 => if rcvI x S1 then (evEs Γ [q] τ S1).bind fun xs S2 => mthI m x xs S2 else if rcv2 m x S1 then (evEs Γ [q] τ S1).bind fun xs S2 => mth2 m x xs S2 else .bad) σ H Q := by
    obtain ⟨ι, S, τ, rl, rs, o⟩ := h
    exact ⟨ι, S, τ, rl, rs, by simp only [evE] at o; exact o⟩
  refine tG.bind (f := fun τ x S1 => if rcvI x S1 then (evEs Γ [q] τ S1).bind fun xs S2 => mthI m x xs S2 else if rcv2 m x S1 then (evEs Γ [q] τ S1).bind fun xs S2 => mth2 m x xs S2 else .bad) h' fun ι1 S1 H1 τ a v r1 rs1 ra o1 => ?_
  by_cases hr : rcvI a S1 = true
  · rw [if_pos hr] at o1
    refine ⟨"list", id, r, PySem.F.plainAttrs_list, slot, hty, hmt, ?_, ι1, S1, τ, r1, rs1, Out.bindR o1 fun b S2 ι2 H2 y eb st r2 rb o2 => ?_⟩
    · cases a with
      | ref n =>
        simp only [rcvI] at hr
        split at hr
        · rename_i xs e
          obtain ⟨vs, rfl, h1, _⟩ := lst_ok r1 ra e
          exact fun pins s σ v I r => tyV_is I r (.inl ⟨rfl, vs, .inl (.inl h1)⟩)
        · cases hr
      | non => simp [rcvI] at hr
      | bl b => simp [rcvI] at hr
      | int b => simp [rcvI] at hr
      | str b => simp [rcvI] at hr
      | cls b => simp [rcvI] at hr
      | tup b => simp [rcvI] at hr
    · match b, eb, rb, o2 with
      | [], _, _, o2 => exact absurd o2 (by unfold mthI; cases a <;> simp [Out])
      | [z], _, rb, o2 =>
        obtain ⟨w, rr, rfl, hw, hr2⟩ := RVs.uncons rb
        simp only [RVs] at hr2; subst hr2
        exact hr0 H2 v w Q ⟨ι2, S2, a, z, r2, RV.step ra r1 st, hw, OutV.of o2 fun _ _ => mthI_ne⟩
      | z :: z' :: zs, _, _, o2 => exact absurd o2 (by unfold mthI; cases a <;> simp [Out])
  · rw [if_neg hr] at o1
    by_cases h2 : rcv2 m a S1 = true
    · rw [if_pos h2] at o1
      cases a with
      | tup ys =>
        have hm : m = "index" := by simpa [rcv2] using h2
        subst hm
        have ra' := ra
        simp only [RVS, RV] at ra'
        obtain ⟨ad, vs, rfl, q1, q2⟩ := ra'
        refine ⟨"tuple", "tuple.index", _, PySem.F.plainAttrs_tuple, PySem.F.slot_tuple_index, PySem.F.type_tuple_index, mt_tidxA (cm := cm), fun pins s σ v I r => by cases r; exact q1.ty I, ι1, S1, τ, r1, rs1, Out.bindR o1 fun b S2 ι2 H2 y eb st r2 rb o2 => ?_⟩
        exact ⟨ι2, S2, ys, b, r2, RV.step ra r1 st, rb, OutV.of o2 fun _ _ => mth2_ne⟩
      | _ => simp [rcv2] at h2
    · rw [if_neg h2] at o1; exact o1.elim
/-- {a: b} -/
theorem dc1_st {K : PySem.W.Frag} {Q : VK} {p q : PX} (h : tI K cm W (evE Γ (.dc1 p q)) σ H Q) : tDisp [(tI K cm W (evE Γ p), tI K cm W (evE Γ q))] σ H Q := by
  obtain ⟨ι, S, τ, rl, rs, o⟩ := h
  intro a ha
  simp only [evE] at o
  obtain ⟨r1, st1⟩ := rl.add ha (o := .dK []) (c := .dct []) ⟨[], upd_same, rfl, .nil⟩
  have o1 := Out.shift o r1 st1
  refine ⟨_, _, τ, r1, rs.step rl st1, Out.bindR o1 fun x S1 ι2 H2 xv ex st2 r2 rx o2 => ?_⟩
  refine ⟨ι2, S1, τ, r2, (rs.step rl st1).step r1 st2, Out.bindR o2 fun y S2 ι3 H3 yv ey st3 r3 ry o3 => ?_⟩
  show H3 a = some (.dK []) ∧ _
  have o4 := OutV.of o3 fun _ _ => dc1I_ne
  unfold dc1I at o4
  split at o4
  · rename_i k e1 e2
    have hn2 : S.length < S2.length := (List.getElem?_eq_some_iff.mp e1).1
    have hn1 : S.length < (S ++ [Cell.dct []]).length := by simp
    have ei : ι3 S.length = a := by
      rw [st3.ext _ (Nat.lt_of_lt_of_le hn1 st2.len), st2.ext _ hn1, more_eq]
    obtain ⟨ps, h1, h2, h3⟩ := r3.cell _ _ e1
    rw [ei] at h1
    have hps : ps = [] := by simpa using h2
    subst hps
    have rx3 := RV.step rx r2 st3
    have hk : xv = kV k := by
      cases x <;> simp only [keyOf] at e2 <;> cases e2 <;> (simp only [RV] at rx3; exact rx3)
    refine ⟨h1, [(k, yv)], by rw [hk]; rfl, by show (1 : Nat) ≤ 15; decide, ?_⟩
    have ht : ∀ b us, SqN K H3 b us → SqN K (upd H3 (ι3 S.length) (.dK (mergeK [] [(k, yv)]))) b us := fun _ _ hq => hq.upd_at fun _ _ z => by rw [ei, h1] at z; cases z
    have em : mergeK [] [(k, yv)] = [(k, yv)] := rfl
    obtain ⟨r4, st4⟩ := r3.put hn2 (o := .dK (mergeK [] [(k, yv)])) (c := .dct [(k, y)]) ⟨_, upd_same, by rw [em]; rfl, by
      rw [em]
      exact (RVs.cons ry .nil).map ht (fun _ _ => rfl) (Nat.le_refl _)⟩
    rw [ei] at r4 st4
    refine o4 ι3 _ _ st4 r4 ?_
    simp only [RV]
    exact ⟨by simpa using hn2, by rw [ei]⟩
  · exact o4.elim
theorem and_st {p q : PX} (h : tI K cm W (evE Γ (.and p q)) σ H Q) : tAndV (tI K cm W (evE Γ p)) (tI K cm W (evE Γ q)) σ H Q := by
  have h' : tI K cm W (fun τ S => (evE Γ p τ S).bind fun v S1 => match v with | .bl b => (if b then evE Γ q τ S1 else .ok (.bl false) S1) | _ => .bad) σ H Q := by
    obtain ⟨ι, S, τ, rl, rs, o⟩ := h
    exact ⟨ι, S, τ, rl, rs, by simp only [evE, truth] at o; exact o⟩
  refine tG.bind (RA := RVS K) (f := fun τ v S1 => match v with | .bl b => (if b then evE Γ q τ S1 else .ok (.bl false) S1) | _ => .bad) h' fun ι1 S1 H1 τ a v r1 rs ra o1 => ?_
  cases a with
  | bl b =>
    have : v = .bl b := by simpa only [RVS, RV] using ra
    refine ⟨b, this, ?_⟩
    cases b with
    | true => simp only [if_true] at o1 ⊢; exact ⟨ι1, S1, τ, r1, rs, o1⟩
    | false => simp only [Bool.false_eq_true, if_false] at o1 ⊢; exact o1 ι1 H1 _ Step.refl r1 (by simp only [RVS, RV])
  | non => exact o1.elim
  | int b => exact o1.elim
  | str b => exact o1.elim
  | tup b => exact o1.elim
  | ref b => exact o1.elim
  | cls b => exact o1.elim
theorem or_st {p q : PX} (h : tI K cm W (evE Γ (.or p q)) σ H Q) : tOrV (tI K cm W (evE Γ p)) (tI K cm W (evE Γ q)) σ H Q := by
  have h' : tI K cm W (fun τ S => (evE Γ p τ S).bind fun v S1 => match v with | .bl b => (if b then .ok (.bl true) S1 else evE Γ q τ S1) | _ => .bad) σ H Q := by
    obtain ⟨ι, S, τ, rl, rs, o⟩ := h
    exact ⟨ι, S, τ, rl, rs, by simp only [evE, truth] at o; exact o⟩
  refine tG.bind (RA := RVS K) (f := fun τ v S1 => match v with | .bl b => (if b then .ok (.bl true) S1 else evE Γ q τ S1) | _ => .bad) h' fun ι1 S1 H1 τ a v r1 rs ra o1 => ?_
  cases a with
  | bl b =>
    have : v = .bl b := by simpa only [RVS, RV] using ra
    refine ⟨b, this, ?_⟩
    cases b with
    | false => simp only [Bool.false_eq_true, if_false] at o1 ⊢; exact ⟨ι1, S1, τ, r1, rs, o1⟩
    | true => simp only [if_true] at o1 ⊢; exact o1 ι1 H1 _ Step.refl r1 (by simp only [RVS, RV])
  | non => exact o1.elim
  | int b => exact o1.elim
  | str b => exact o1.elim
  | tup b => exact o1.elim
  | ref b => exact o1.elim
  | cls b => exact o1.elim
theorem not_st {p : PX} (h : tI K cm W (evE Γ (.not p)) σ H Q) : tNotV (tI K cm W (evE Γ p)) σ H Q := by
  have h' : tI K cm W (fun τ S => (evE Γ p τ S).bind fun v S1 => match v with | .bl b => .ok (.bl (!b)) S1 | _ => .bad) σ H Q := by
    obtain ⟨ι, S, τ, rl, rs, o⟩ := h
    exact ⟨ι, S, τ, rl, rs, by simp only [evE, truth] at o; exact o⟩
  refine tG.bind (RA := RVS K) (f := fun τ (v : IV) S1 => match v with | .bl b => .ok (IV.bl (!b)) S1 | _ => .bad) h' fun ι1 S1 H1 τ a v r1 rs ra o1 => ?_
  cases a with
  | bl b =>
    have : v = .bl b := by simpa only [RVS, RV] using ra
    exact ⟨b, this, o1 ι1 H1 _ Step.refl r1 (by simp only [RVS, RV])⟩
  | non => exact o1.elim
  | int b => exact o1.elim
  | str b => exact o1.elim
  | tup b => exact o1.elim
  | ref b => exact o1.elim
  | cls b => exact o1.elim
theorem ite_st {p q r : PX} (h : tI K cm W (evE Γ (.ite p q r)) σ H Q) : tIf (tT K cm W (evE Γ p)) (tI K cm W (evE Γ q)) (tI K cm W (evE Γ r)) σ H Q := by
  refine tT_bind (f := fun τ b S1 => if b then evE Γ q τ S1 else evE Γ r τ S1) (RC := RVS K) (Q := Q) ?_ fun ι1 S1 H1 τ b r1 rs o => ?_
  · obtain ⟨ι, S, τ, rl, rs, o⟩ := h
    exact ⟨ι, S, τ, rl, rs, by simp only [evE, truth] at o; exact o⟩
  · cases b with
    | true => simp only [if_true] at o ⊢; exact ⟨ι1, S1, τ, r1, rs, o⟩
    | false => simp only [Bool.false_eq_true, if_false] at o ⊢; exact ⟨ι1, S1, τ, r1, rs, o⟩
/-! ### tests -/
variable {R : Bool → Hp → Prop}
theorem t_and {p q : PX} (h : tT K cm W (evE Γ (.and p q)) σ H R) : tAnd (tT K cm W (evE Γ p)) (tT K cm W (evE Γ q)) σ H R := by
  refine tT_bind (f := fun τ b S1 => if b then asB (evE Γ q τ S1) else .ok false S1) (RC := RId) (Q := R) ?_ fun ι1 S1 H1 τ b r1 rs o => ?_
  · obtain ⟨ι, S, τ, rl, rs, o⟩ := h
    refine ⟨ι, S, τ, rl, rs, ?_⟩
    simp only [evE, truth, asB] at o ⊢
    cases e : evE Γ p τ S with
    | bad => rw [e] at o; exact o
    | exc c S1 => rw [e] at o; exact o
    | ok a S1 =>
      rw [e] at o
      cases a with
      | bl b => cases b <;> exact o
      | non => exact o
      | int b => exact o
      | str b => exact o
      | tup b => exact o
      | ref b => exact o
      | cls b => exact o
  · cases b with
    | true => simp only [if_true] at o ⊢; exact ⟨ι1, S1, τ, r1, rs, o⟩
    | false => simp only [Bool.false_eq_true, if_false] at o ⊢; exact o ι1 H1 false Step.refl r1 rfl
theorem t_or {p q : PX} (h : tT K cm W (evE Γ (.or p q)) σ H R) : tOr (tT K cm W (evE Γ p)) (tT K cm W (evE Γ q)) σ H R := by
  refine tT_bind (f := fun τ b S1 => if b then .ok true S1 else asB (evE Γ q τ S1)) (RC := RId) (Q := R) ?_ fun ι1 S1 H1 τ b r1 rs o => ?_
  · obtain ⟨ι, S, τ, rl, rs, o⟩ := h
    refine ⟨ι, S, τ, rl, rs, ?_⟩
    simp only [evE, truth, asB] at o ⊢
    cases e : evE Γ p τ S with
    | bad => rw [e] at o; exact o
    | exc c S1 => rw [e] at o; exact o
    | ok a S1 =>
      rw [e] at o
      cases a with
      | bl b => cases b <;> exact o
      | non => exact o
      | int b => exact o
      | str b => exact o
      | tup b => exact o
      | ref b => exact o
      | cls b => exact o
  · cases b with
    | false => simp only [Bool.false_eq_true, if_false] at o ⊢; exact ⟨ι1, S1, τ, r1, rs, o⟩
    | true => simp only [if_true] at o ⊢; exact o ι1 H1 true Step.refl r1 rfl
theorem t_not {p : PX} (h : tT K cm W (evE Γ (.not p)) σ H R) : tNot (tT K cm W (evE Γ p)) σ H R := by
  refine tT_bind (f := fun τ b S1 => .ok (!b) S1) (RC := RId) (Q := R) ?_ fun ι1 S1 H1 τ b r1 rs o => ?_
  · obtain ⟨ι, S, τ, rl, rs, o⟩ := h
    refine ⟨ι, S, τ, rl, rs, ?_⟩
    simp only [evE, truth, asB] at o ⊢
    cases e : evE Γ p τ S with
    | bad => rw [e] at o; exact o
    | exc c S1 => rw [e] at o; exact o
    | ok a S1 =>
      rw [e] at o
      cases a with
      | bl b => exact o
      | non => exact o
      | int b => exact o
      | str b => exact o
      | tup b => exact o
      | ref b => exact o
      | cls b => exact o
  · exact o ι1 H1 _ Step.refl r1 rfl
theorem chain_st {o o' : Cop} {p q r : PX} (h : tI K cm W (evE Γ (.chain o o' p q r)) σ H Q) : tChain (rI2 K cm (cmpI o)) (rI2 K cm (cmpI o')) (tI K cm W (evE Γ p)) (tI K cm W (evE Γ q)) (tI K cm W (evE Γ r)) σ H Q := by
  have h' : tI K cm W (fun τ S => (evE Γ p τ S).bind fun x S1 => (evE Γ q τ S1).bind fun y S2 => (cmpI o x y S2).bind fun v S3 => match v with
      | .bl k => (if k then (evE Γ r τ S3).bind fun z S4 => cmpI o' y z S4 else .ok (.bl false) S3) | _ => .bad) σ H Q := by
    obtain ⟨ι, S, τ, rl, rs, o⟩ := h
    exact ⟨ι, S, τ, rl, rs, by simp only [evE, truth] at o; exact o⟩
  refine tG.bind (f := fun τ x S1 => (evE Γ q τ S1).bind fun y S2 => (cmpI o x y S2).bind fun v S3 => match v with
      | .bl k => (if k then (evE Γ r τ S3).bind fun z S4 => cmpI o' y z S4 else .ok (.bl false) S3) | _ => .bad) h' fun ι1 S1 H1 τ a v r1 rs ra o1 => ⟨ι1, S1, τ, r1, rs, Out.bindR o1 fun b S2 ι2 H2 y _ st r2 rb o2 => ?_⟩
  refine ⟨ι2, S2, a, b, r2, RV.step ra r1 st, rb, ?_⟩
  cases e : cmpI o a b S2 with
  | bad => rw [e] at o2; exact o2.elim
  | exc c S3 => exact absurd e cmpI_ne
  | ok w S3 =>
    rw [e] at o2
    intro ι3 H3 z st3 r3 rz
    have o3 := Out.shift o2 r3 st3
    cases w with
    | bl k =>
      have : z = .bl k := by simpa only [RV] using rz
      refine ⟨k, this, ?_⟩
      cases k with
      | true =>
        simp only [if_true] at o3 ⊢
        refine ⟨ι3, S3, τ, r3, (rs.step r1 st).step r2 st3, Out.bindR o3 fun d S4 ι4 H4 u _ st4 r4 rd o4 => ?_⟩
        exact ⟨ι4, S4, b, d, r4, (RV.step rb r2 st3).step r3 st4, rd, OutV.of o4 fun _ _ => cmpI_ne⟩
      | false => simp only [Bool.false_eq_true, if_false] at o3 ⊢; exact o3 ι3 H3 _ Step.refl r3 (by simp only [RVS, RV])
    | non => exact o2.elim
    | int b => exact o2.elim
    | str b => exact o2.elim
    | tup b => exact o2.elim
    | ref b => exact o2.elim
    | cls b => exact o2.elim
end
end Wg
/-! WiC: the readings of attributes, methods, new instances, starred calls. -/
namespace Wg
open PySem PySem.Spec PyProof.Rows L2 StX ClX
/-! ### what a callee leaves is dropped -/
section
variable {K : PySem.W.Frag} {cm : Cm} {ι ι' : Nat → Addr} {S S' : Sto} {H H' : Hp}
mutual
theorem RV.down {n n' : Nat} : ∀ {iv : IV} {v : V}, iv.lt n = true → RV K ι n' H iv v → RV K ι n H iv v
  | .non, v, _, h => by simpa only [RV] using h
  | .bl b, v, _, h => by simpa only [RV] using h
  | .int b, v, _, h => by simpa only [RV] using h
  | .str b, v, _, h => by simpa only [RV] using h
  | .cls b, v, _, h => by simpa only [RV] using h
  | .tup xs, v, e, h => by
    simp only [RV] at h ⊢
    obtain ⟨a, vs, e1, q, r⟩ := h
    exact ⟨a, vs, e1, q, RVs.down (by simpa only [IV.lt] using e) r⟩
  | .ref k, v, e, h => by
    simp only [RV] at h ⊢
    exact ⟨by simpa [IV.lt] using e, h.2⟩
theorem RVs.down {n n' : Nat} : ∀ {xs : List IV} {vs : List V}, ltAll n xs = true → RVs K ι n' H xs vs → RVs K ι n H xs vs
  | [], vs, _, h => by simpa only [RVs] using h
  | x :: xs, vs, e, h => by
    simp only [ltAll, Bool.and_eq_true] at e
    obtain ⟨v, r, rfl, h1, h2⟩ := h.uncons
    exact .cons (RV.down e.1 h1) (RVs.down e.2 h2)
end
theorem CellOk.down {n n' : Nat} {a : Addr} {c : Cell} (e : c.lt n = true) (h : CellOk K cm ι n' H a c) : CellOk K cm ι n H a c := by
  cases c with
  | lst xs => obtain ⟨vs, e1, r⟩ := h; exact ⟨vs, e1, RVs.down e r⟩
  | frz xs => obtain ⟨o, vs, e1, r⟩ := h; exact ⟨o, vs, e1, RVs.down e r⟩
  | dct kvs => obtain ⟨ps, e1, k, r⟩ := h; exact ⟨ps, e1, k, RVs.down e r⟩
  | ins c fs => obtain ⟨C, dx, ps, e1, q, k, r⟩ := h; exact ⟨C, dx, ps, e1, q, k, RVs.down e r⟩
mutual
theorem RV.lt_of {n : Nat} : ∀ {iv : IV} {v : V}, RV K ι n H iv v → iv.lt n = true
  | .non, v, _ => rfl
  | .bl b, v, _ => rfl
  | .int b, v, _ => rfl
  | .str b, v, _ => rfl
  | .cls b, v, _ => rfl
  | .tup xs, v, h => by
    simp only [RV] at h
    obtain ⟨a, vs, e1, q, r⟩ := h
    simp only [IV.lt]
    exact RVs.lt_of r
  | .ref k, v, h => by
    simp only [RV] at h
    simpa [IV.lt] using h.1
theorem RVs.lt_of {n : Nat} : ∀ {xs : List IV} {vs : List V}, RVs K ι n H xs vs → ltAll n xs = true
  | [], vs, _ => rfl
  | x :: xs, vs, h => by
    obtain ⟨v, r, rfl, h1, h2⟩ := h.uncons
    simp only [ltAll, Bool.and_eq_true]
    exact ⟨RV.lt_of h1, RVs.lt_of h2⟩
end
theorem CellOk.lt_of {n : Nat} {a : Addr} {c : Cell} (h : CellOk K cm ι n H a c) : c.lt n = true := by
  cases c with
  | lst xs => obtain ⟨vs, e1, r⟩ := h; exact RVs.lt_of r
  | frz xs => obtain ⟨o, vs, e1, r⟩ := h; exact RVs.lt_of r
  | dct kvs => obtain ⟨ps, e1, k, r⟩ := h; exact RVs.lt_of r
  | ins c fs => obtain ⟨C, dx, ps, e1, q, k, r⟩ := h; exact RVs.lt_of r
theorem okOld_at {n : Nat} : ∀ {m : Nat}, okOld n m S S' = true → ∀ i, i < m → ∃ c, S'[i]? = some c ∧ (c.lt n = true ∨ S[i]? = some c)
  | 0, _, i, hi => by omega
  | m + 1, h, i, hi => by
    simp only [okOld, Bool.and_eq_true] at h
    by_cases e : i = m
    · subst e
      have h1 := h.1
      split at h1
      · cases h1
      · rename_i c ec
        refine ⟨c, ec, ?_⟩
        rw [Bool.or_eq_true] at h1
        rcases h1 with h1 | h1
        · exact .inl h1
        · split at h1
          · rename_i d ed
            rw [← Cell.eq_of_eqb d c h1]
            exact .inr ed
          · cases h1
    · exact okOld_at h.2 i (by omega)
theorem settle_ok {v : IV} {x : V} (r0 : Rel K cm ι S H) (st : Step ι S H ι' S' H') (r : Rel K cm ι' S' H') (rv : RV K ι' S'.length H' v x) :
    Step ι S H ι' (settle S v S') H' ∧ Rel K cm ι' (settle S v S') H' ∧ RV K ι' (settle S v S').length H' v x := by
  unfold settle
  split
  · rename_i h
    rw [Bool.and_eq_true] at h
    have hl : (S'.take S.length).length = S.length := by rw [List.length_take]; exact Nat.min_eq_left st.len
    refine ⟨⟨by rw [hl]; exact Nat.le_refl _, st.ext, st.frm, fun m a b => ?_⟩, ⟨fun i c e => ?_, fun i j hi hj q => ?_⟩, by rw [hl]; exact RV.down h.1 rv⟩
    · rw [hl] at b; exact absurd (Nat.lt_of_lt_of_le b a) (Nat.lt_irrefl _)
    · rw [hl]
      have hi : i < S.length := by have := (List.getElem?_eq_some_iff.mp e).1; rw [hl] at this; exact this
      rw [List.getElem?_take_of_lt hi] at e
      obtain ⟨c', e', hc⟩ := okOld_at h.2 i hi
      rw [e] at e'; cases e'
      refine CellOk.down ?_ (r.cell i c e)
      rcases hc with hc | hc
      · exact hc
      · exact (r0.cell i c hc).lt_of
    · rw [hl] at hi hj
      exact r.inj i j (Nat.lt_of_lt_of_le hi st.len) (Nat.lt_of_lt_of_le hj st.len) q
  · exact ⟨st, r, rv⟩
end
/-- what an expression has left is dropped -/
theorem settle_st {K : PySem.W.Frag} {cm : Cm} {W : WX} {σ : L2.St} {H : Hp} {Q : VK} {m : Sl → Sto → Rs IV} (h : tI K cm W (fun τ S => (m τ S).settle S) σ H Q) : tI K cm W m σ H Q := by
  obtain ⟨ι, S, τ, rl, rs, o⟩ := h
  refine ⟨ι, S, τ, rl, rs, ?_⟩
  dsimp only at o
  cases e : m τ S with
  | bad => rw [e] at o; exact o
  | exc c S1 =>
    rw [e] at o
    intro ι1 H1 st r1 C hC
    obtain ⟨a1, a2, a3⟩ := settle_ok (v := .non) (x := .non) rl st r1 (by simp only [RV])
    exact o ι1 H1 a1 a2 C hC
  | ok v S1 =>
    rw [e] at o
    intro ι1 H1 x st r1 rv
    obtain ⟨a1, a2, a3⟩ := settle_ok rl st r1 rv
    exact o ι1 H1 x a1 a2 a3
section
variable {K : PySem.W.Frag} {ι : Nat → Addr} {n : Nat} {H : Hp}
theorem fs_look : ∀ {fs : List (Str × IV)} {ps : List (Str × V)} {f : Str}, ps.map (·.1) = fs.map (·.1) → RVs K ι n H (fs.map (·.2)) (ps.map (·.2)) →
    (fs.lookup f = none → ps.lookup f = none) ∧ ∀ w, fs.lookup f = some w → ∃ v, ps.lookup f = some v ∧ RV K ι n H w v
  | [], [], _, _, _ => ⟨fun _ => rfl, fun w h => by simp at h⟩
  | [], p :: ps, _, h, _ => by simp at h
  | q :: fs, [], _, h, _ => by simp at h
  | (k, w) :: fs, (k', v) :: ps, f, h, r => by
    simp only [List.map_cons, List.cons.injEq] at h
    obtain ⟨hk, ht⟩ := h
    subst hk
    simp only [List.map_cons] at r
    obtain ⟨v', r', e, r1, r2⟩ := r.uncons
    simp only [List.cons.injEq] at e
    obtain ⟨rfl, rfl⟩ := e
    obtain ⟨i1, i2⟩ := fs_look (f := f) ht r2
    simp only [List.lookup_cons]
    cases e : f == k' with
    | true => refine ⟨fun z => ?_, fun w' z => ?_⟩
              · cases z
              · cases z; exact ⟨v, rfl, r1⟩
    | false => exact ⟨i1, i2⟩
theorem putI_keys (f : Str) (w : IV) (v : V) : ∀ {fs : List (Str × IV)} {ps : List (Str × V)}, ps.map (·.1) = fs.map (·.1) → (putF f v ps).map (·.1) = (putI f w fs).map (·.1)
  | [], [], _ => rfl
  | [], p :: ps, h => by simp at h
  | q :: fs, [], h => by simp at h
  | (k, x) :: fs, (k', y) :: ps, h => by
    simp only [List.map_cons, List.cons.injEq] at h
    obtain ⟨hk, ht⟩ := h
    subst hk
    simp only [putF, putI]
    by_cases e : k' = f
    · simp [e, ht]
    · simp [e, putI_keys f w v ht]
theorem putI_vals {f : Str} {w : IV} {v : V} (rw_ : RV K ι n H w v) : ∀ {fs : List (Str × IV)} {ps : List (Str × V)}, ps.map (·.1) = fs.map (·.1) → RVs K ι n H (fs.map (·.2)) (ps.map (·.2)) → RVs K ι n H ((putI f w fs).map (·.2)) ((putF f v ps).map (·.2))
  | [], [], _, _ => .cons rw_ .nil
  | [], p :: ps, h, _ => by simp at h
  | q :: fs, [], h, _ => by simp at h
  | (k, x) :: fs, (k', y) :: ps, h, r => by
    simp only [List.map_cons, List.cons.injEq] at h
    obtain ⟨hk, ht⟩ := h
    subst hk
    simp only [List.map_cons] at r
    obtain ⟨v', r', e, r1, r2⟩ := r.uncons
    simp only [List.cons.injEq] at e
    obtain ⟨rfl, rfl⟩ := e
    simp only [putF, putI]
    by_cases e : k' = f
    · simp only [e, if_true, List.map_cons]; exact .cons rw_ r2
    · simp only [e, if_false, List.map_cons]; exact .cons r1 (putI_vals rw_ ht r2)
end
section
variable {g : GI} {c : CC} {cm : Cm} {Γ : Gam} {X : Cx} {W : WX} {k : Nat} {σ : L2.St} {H : Hp} {Q : VK}
theorem OutC.of_ok {K : PySem.W.Frag} {ι : Nat → Addr} {S : Sto} {r : Rs IV} {E : XK} (h : OutV K cm ι S H (okOnly r) Q) : OutC K cm ι S H r Q E := by
  cases r with
  | ok v S' => exact h
  | exc c S' => exact h.elim
  | bad => exact h.elim
theorem attI_ne {f : Str} {x : IV} {S : Sto} {c : Str} {S' : Sto} : attI Γ f x S ≠ .exc c S' := by
  intro h
  unfold attI at h
  repeat' split at h
  all_goals first | (cases h; done) | skip
  unfold okOnly at h
  split at h <;> cases h
theorem att_R (D : Wd g X.prog X.w X.K X.mg X.base cm Γ k) {f : Str} (hf : f ∈ g.atts) {ι : Nat → Addr} {S : Sto} {a : IV} {x : V} (rl : Rel X.K cm ι S H) (ra : RV X.K ι S.length H a x) (o : OutV X.K cm ι S H (attI Γ f a S) Q) : AttR X k f x H Q := by
  unfold attI at o
  cases a with
  | ref n =>
    simp only [RV] at ra
    obtain ⟨hn, rfl⟩ := ra
    simp only [] at o
    cases e : S[n]? with
    | none => rw [e] at o; exact o.elim
    | some cl =>
      rw [e] at o
      cases cl with
      | ins c fs =>
        obtain ⟨C, dx, ps, h1, h2, h3, h4⟩ := rl.cell n _ e
        have ck := D.at h2
        have at_ := ck.at_ f hf
        obtain ⟨l1, l2⟩ := fs_look (f := f) h3 h4
        simp only [] at o
        cases ea : Γ.att c f with
        | none =>
          rw [ea] at o at_
          simp only [] at o
          cases el : fs.lookup f with
          | none => rw [el] at o; exact o.elim
          | some w =>
            rw [el] at o
            obtain ⟨v, hv, rv⟩ := l2 w el
            exact .inl ⟨_, C, dx, ps, v, rfl, h1, ck.cl, at_, hv, o.here rl rv⟩
        | some at1 =>
          rw [ea] at o at_
          cases at1 with
          | meth q => exact o.elim
          | cmeth q => exact o.elim
          | con v =>
            simp only [] at o
            obtain ⟨z, u, hc, hz, _⟩ := at_
            cases el : fs.lookup f with
            | some w => rw [el] at o; exact o.elim
            | none =>
              rw [el] at o
              exact .inr (.inl ⟨_, C, dx, ps, z, u, rfl, h1, ck.cl, hc, l1 el, o.here rl (hz _ _ _)⟩)
          | prop gq sq =>
            simp only [] at o
            obtain ⟨p, a, ha, hp, _⟩ := at_
            refine .inr (.inr (.inl ⟨_, C, dx, ps, p, a, _, rfl, h1, ck.cl, hp, D.meth gq a ha, ι, S, [.ref n], rl, ?_, OutC.of_ok o⟩))
            exact .cons (by simp only [RV]; exact ⟨hn, trivial⟩) .nil
      | lst xs => exact o.elim
      | frz xs => exact o.elim
      | dct xs => exact o.elim
  | cls c =>
    simp only [RV] at ra
    obtain ⟨C, rfl, hC⟩ := ra
    simp only [] at o
    cases ea : Γ.att c f with
    | none => rw [ea] at o; exact o.elim
    | some at1 =>
      obtain ⟨C', h1, ck⟩ := D.cls c (D.attc c f _ ea)
      have at_ := ck.at_ f hf
      rw [ea] at o at_
      cases at1 with
      | con v =>
        obtain ⟨z, u, hc, hz, mc, m1, m2⟩ := at_
        have : C = C' := by
          have := ck.ns
          rw [hC] at this
          simp only [Option.some.injEq, Value.ref.injEq] at this
          exact this
        subst this
        exact .inr (.inr (.inr ⟨C, mc, z, u, rfl, m1, m2, o.here rl (hz _ _ _)⟩))
      | meth q => exact o.elim
      | cmeth q => exact o.elim
      | prop gq sq => exact o.elim
  | non => exact o.elim
  | bl b => exact o.elim
  | int b => exact o.elim
  | str b => exact o.elim
  | tup b => exact o.elim
theorem att_st (D : Wd g X.prog X.w X.K X.mg X.base cm Γ k) {f : Str} (hf : f ∈ g.atts) {p : PX} (h : tI X.K cm W (evE Γ (.att f p)) σ H Q) : tI X.K cm W (evE Γ p) σ H fun x H1 => AttR X k f x H1 Q := by
  have h' : tI X.K cm W (fun τ S => (evE Γ p τ S).bind fun x S1 => attI Γ f x S1) σ H Q := by
    obtain ⟨ι, S, τ, rl, rs, o⟩ := h
    exact ⟨ι, S, τ, rl, rs, by simp only [evE] at o; exact o⟩
  exact tG.bind (f := fun τ x S1 => attI Γ f x S1) h' fun ι1 S1 H1 τ a v r1 rs ra o1 => att_R D hf r1 ra (OutV.of o1 fun _ _ => attI_ne)
/-- a call whose result is as wanted -/
theorem OutC.of_out {K : PySem.W.Frag} {ι : Nat → Addr} {S : Sto} {r : Rs IV} (h : Out K cm W ι S H σ (RVS K) r Q) : OutC K cm ι S H r Q (WE W σ) := by
  cases r with
  | ok v S' => exact h
  | exc c S' => exact h
  | bad => exact h
theorem met_R (D : Wd g X.prog X.w X.K X.mg X.base cm Γ k) {m q : Str} (hm : m ∈ g.atts) {ι : Nat → Addr} {S : Sto} {a : IV} {x : V} (rl : Rel X.K cm ι S H) (ra : RV X.K ι S.length H a x) {em : Bool} (e : metI Γ m em a S = some q) : (∃ a C dx fs g, x = .ref a ∧ H a = some (.ins C dx fs) ∧ Cls X.K C ∧ Meth X.K C m g ∧ fs.lookup m = none ∧ FnG X.prog X.w X.K X.mg X.base k g (spI X.K cm (Γ.call q))) ∨
    (em = false ∧ ∃ C mc p g, x = .ref C ∧ CRead X.K C mc ∧ CMet X.K C mc m p g ∧ FnG X.prog X.w X.K X.mg X.base k g (spI X.K cm (Γ.call q))) := by
  unfold metI at e
  cases a with
  | ref n =>
    simp only [RV] at ra
    obtain ⟨hn, rfl⟩ := ra
    simp only [] at e
    cases e1 : S[n]? with
    | none => rw [e1] at e; cases e
    | some cl =>
      rw [e1] at e
      cases cl with
      | ins c fs =>
        obtain ⟨C, dx, ps, h1, h2, h3, h4⟩ := rl.cell n _ e1
        have ck := D.at h2
        have at_ := ck.at_ m hm
        obtain ⟨l1, l2⟩ := fs_look (f := m) h3 h4
        simp only [] at e
        split at e
        · rename_i q' ea el
          cases e
          rw [ea] at at_
          obtain ⟨a, ha, hM⟩ := at_
          exact .inl ⟨_, C, dx, ps, a, rfl, h1, ck.cl, hM, l1 el, D.meth q a ha⟩
        · cases e
      | lst xs => cases e
      | frz xs => cases e
      | dct xs => cases e
  | cls c =>
    simp only [RV] at ra
    obtain ⟨C, rfl, hC⟩ := ra
    simp only [] at e
    split at e
    · rename_i q' ea
      cases em with
      | true => cases e
      | false =>
      simp only [Bool.false_eq_true, if_false, Option.some.injEq] at e
      subst e
      obtain ⟨C', h1, ck⟩ := D.cls c (D.attc c m _ ea)
      have at_ := ck.at_ m hm
      rw [ea] at at_
      obtain ⟨a, p, mc, ha, m1, m2⟩ := at_
      have : C = C' := by
        have := ck.ns
        rw [hC] at this
        simp only [Option.some.injEq, Value.ref.injEq] at this
        exact this
      subst this
      exact .inr ⟨rfl, C, mc, p, a, rfl, m1, m2, D.meth _ a ha⟩
    · cases e
  | non => cases e
  | bl b => cases e
  | int b => cases e
  | str b => cases e
  | tup b => cases e
theorem met_st (D : Wd g X.prog X.w X.K X.mg X.base cm Γ k) {m : Str} (hm : m ∈ g.atts) {p : PX} {ps : List PX} (h : tI X.K cm W (evE Γ (.met m p ps)) σ H Q) : tMetG X k W m (tI X.K cm W (evE Γ p)) (tIs X.K cm W (evEs Γ ps)) σ H Q := by
  have h' : tI X.K cm W (fun τ S => (evE Γ p τ S).bind fun x S1 => match metI Γ m ps.isEmpty x S1 with
      | some q => (evEs Γ ps τ S1).bind fun xs S2 => Γ.call q (x :: xs) S2
      | none => .bad) σ H Q := by
    obtain ⟨ι, S, τ, rl, rs, o⟩ := h
    exact ⟨ι, S, τ, rl, rs, by simp only [evE] at o; exact o⟩
  refine tG.bind (f := fun τ x S1 => match metI Γ m ps.isEmpty x S1 with
      | some q => (evEs Γ ps τ S1).bind fun xs S2 => Γ.call q (x :: xs) S2
      | none => .bad) h' fun ι1 S1 H1 τ a v r1 rs ra o1 => ?_
  cases e : metI Γ m ps.isEmpty a S1 with
  | none => rw [e] at o1; exact o1.elim
  | some q =>
    rw [e] at o1
    refine ⟨_, (met_R D hm r1 ra e).imp id (fun z => z.2), ι1, S1, τ, r1, rs, Out.bindR o1 fun xs S2 ι2 H2 vs _ st r2 rv o2 => ?_⟩
    exact ⟨ι2, S2, a :: xs, r2, .cons (RV.step ra r1 st) rv, OutC.of_out o2⟩
theorem met_st0 (D : Wd g X.prog X.w X.K X.mg X.base cm Γ k) {m : Str} (hm : m ∈ g.atts) {p : PX} (h : tI X.K cm W (evE Γ (.met m p [])) σ H Q) : tI X.K cm W (evE Γ p) σ H fun x H1 => ∃ a C dx fs g sp, x = .ref a ∧ H1 a = some (.ins C dx fs) ∧ Cls X.K C ∧ Meth X.K C m g ∧ fs.lookup m = none ∧ FnG X.prog X.w X.K X.mg X.base k g sp ∧ sp [x] H1 Q (WE W σ) := by
  have h' : tI X.K cm W (fun τ S => (evE Γ p τ S).bind fun x S1 => match metI Γ m true x S1 with
      | some q => (evEs Γ [] τ S1).bind fun xs S2 => Γ.call q (x :: xs) S2
      | none => .bad) σ H Q := by
    obtain ⟨ι, S, τ, rl, rs, o⟩ := h
    exact ⟨ι, S, τ, rl, rs, by simp only [evE, List.isEmpty_nil] at o; exact o⟩
  refine tG.bind (f := fun τ x S1 => match metI Γ m true x S1 with
      | some q => (evEs Γ [] τ S1).bind fun xs S2 => Γ.call q (x :: xs) S2
      | none => .bad) h' fun ι1 S1 H1 τ a v r1 rs ra o1 => ?_
  cases e : metI Γ m true a S1 with
  | none => rw [e] at o1; exact o1.elim
  | some q =>
    rw [e] at o1
    simp only [evEs, Rs.bind] at o1
    rcases met_R D hm r1 ra e with ⟨b, C, dx, fs, gg, hx, h1, h2, h3, h4, h5⟩ | ⟨z, _⟩
    · exact ⟨b, C, dx, fs, gg, _, hx, h1, h2, h3, h4, h5, ι1, S1, [a], r1, .cons ra .nil, OutC.of_out o1⟩
    · cases z
/-- the new instance's promise, by its evaluation -/
theorem new_Q {C : Addr} {c q : Str} {ι : Nat → Addr} {S : Sto} {xs : List IV} {vs : List V} (rl : Rel X.K cm ι S H) (rv : RVs X.K ι S.length H xs vs) (hC : cm.ins c = some C) (hq : Γ.att c "__init__" = some (.meth q))
    (o : Out X.K cm W ι S H σ (RVS X.K) (mkI Γ c xs S) Q) : NewQ W σ C (spI X.K cm (Γ.call q)) vs H Q := by
  intro x dx hx hdx hne
  obtain ⟨r0, st0⟩ := rl.upd_new (o := .own x) hdx
  have hx' : upd H dx (.own x) x = none := by rw [upd_ne (Ne.symm hne)]; exact hx
  obtain ⟨r1, st1⟩ := r0.add (o := .ins C dx []) (c := .ins c []) hx' ⟨C, dx, [], upd_same, hC, rfl, .nil⟩
  have st := Step.trans r0 st0 st1
  have hm : more ι S.length x S.length = x := more_eq
  refine ⟨more ι S.length x, S ++ [.ins c []], .ref S.length :: xs, r1, .cons ?_ (rv.step rl st), ?_⟩
  · simp only [RV]
    exact ⟨by simp, by rw [hm]⟩
  · simp only [mkI, hq] at o
    cases e : Γ.call q (.ref S.length :: xs) (S ++ [.ins c []]) with
    | bad => rw [e] at o; exact o.elim
    | exc cn S2 =>
      rw [e] at o
      exact fun ι' H' st' r' Cn hCn => o ι' H' (Step.trans r1 st st') r' Cn hCn
    | ok v S2 =>
      rw [e] at o
      intro ι' H' z st' r' rz
      cases v with
      | non =>
        simp only [RV] at rz
        refine ⟨rz, ?_⟩
        refine o ι' H' (.ref x) (Step.trans r1 st st') r' ?_
        simp only [RVS, RV]
        refine ⟨?_, ?_⟩
        · have := st'.len
          simp at this; omega
        · rw [st'.ext S.length (by simp), hm]
      | bl b => exact o.elim
      | int b => exact o.elim
      | str b => exact o.elim
      | tup b => exact o.elim
      | ref b => exact o.elim
      | cls b => exact o.elim
theorem hasInit_ok {c : Str} (h : hasInit Γ c = true) : ∃ q, Γ.att c "__init__" = some (.meth q) := by
  unfold hasInit at h
  split at h
  · exact ⟨_, by assumption⟩
  · cases h
theorem cls_mk (D : Wd g X.prog X.w X.K X.mg X.base cm Γ k) {c q : Str} {C : Addr} (hq : Γ.att c "__init__" = some (.meth q)) (hC : PySem.W.nsIn X.K mainGlobals c = some (some (.ref C))) : cm.ins c = some C ∧ MkG X k C (spI X.K cm (Γ.call q)) := by
  obtain ⟨C', h1, ck⟩ := D.cls c (D.attc c _ _ hq)
  have : C = C' := by
    have := ck.ns
    rw [hC] at this
    simp only [Option.some.injEq, Value.ref.injEq] at this
    exact this
  subst this
  obtain ⟨a, ha, M⟩ := ck.init q hq
  exact ⟨h1, a, M, D.meth q a ha⟩
theorem new_st (D : Wd g X.prog X.w X.K X.mg X.base cm Γ k) {p : PX} {ps : List PX} (h : tI X.K cm W (evE Γ (.new p ps)) σ H Q) : tNewG X k W (tI X.K cm W (evE Γ p)) (tIs X.K cm W (evEs Γ ps)) σ H Q := by
  have h' : tI X.K cm W (fun τ S => (evE Γ p τ S).bind fun y S0 => match y with
    | .cls c => if hasInit Γ c then (evEs Γ ps τ S0).bind fun xs S1 => mkI Γ c xs S1 else .bad
    | _ => .bad) σ H Q := by
    obtain ⟨ι, S, τ, rl, rs, o⟩ := h
    exact ⟨ι, S, τ, rl, rs, by simp only [evE] at o; exact o⟩
  refine tG.bind (RA := RVS X.K) (f := fun τ y S0 => match y with
    | .cls c => if hasInit Γ c then (evEs Γ ps τ S0).bind fun xs S1 => mkI Γ c xs S1 else .bad
    | _ => .bad) h' fun ι1 S1 H1 τ a v r1 rs ra o1 => ?_
  cases a with
  | cls c =>
    simp only [RVS, RV] at ra
    obtain ⟨C, rfl, hC⟩ := ra
    by_cases hh : hasInit Γ c = true
    · simp only [hh, if_true] at o1
      obtain ⟨q, hq⟩ := hasInit_ok hh
      obtain ⟨hi, M⟩ := cls_mk D hq hC
      exact ⟨C, _, rfl, M, ι1, S1, τ, r1, rs, Out.bindR o1 fun xs S2 ι2 H2 vs _ st r2 rv o2 => new_Q r2 rv hi hq o2⟩
    · simp only [hh, if_false] at o1; exact o1.elim
  | non => exact o1.elim
  | bl b => exact o1.elim
  | int b => exact o1.elim
  | str b => exact o1.elim
  | tup b => exact o1.elim
  | ref b => exact o1.elim
/-- the items behind a star -/
theorem star_items {ι : Nat → Addr} {S : Sto} {y : IV} {z : V} {ys : List IV} (rl : Rel X.K cm ι S H) (ry : RV X.K ι S.length H y z) (e : itemsI y S = some ys) : ∃ a xs, z = V.ref a ∧ (SqT X.K H a xs ∨ SqL X.K H a xs) ∧ RVs X.K ι S.length H ys xs := by
  obtain ⟨p, vs, h1, h2, h3⟩ := items_ok rl ry e
  exact ⟨p, vs, h1, h2.symm, h3⟩
/-- arguments with a star at their end -/
def evA (Γ : Gam) (ps : List PX) (q : PX) (τ : Sl) (S : Sto) : Rs (List IV) := (evEs Γ ps τ S).bind fun xs S1 => (evE Γ q τ S1).bind fun y S2 => match itemsI y S2 with
  | some ys => .ok (xs ++ ys) S2
  | none => .bad
theorem star1_st {q : PX} {R : List V → Hp → Prop} (h : tIs X.K cm W (evA Γ [] q) σ H R) : tI X.K cm W (evE Γ q) σ H fun z H1 => ∃ a xs, z = V.ref a ∧ (SqT X.K H1 a xs ∨ SqL X.K H1 a xs) ∧ R xs H1 := by
  have h' : tIs X.K cm W (fun τ S => (evE Γ q τ S).bind fun y S2 => match itemsI y S2 with
    | some ys => .ok ys S2
    | none => .bad) σ H R := by
    obtain ⟨ι, S, τ, rl, rs, o⟩ := h
    refine ⟨ι, S, τ, rl, rs, ?_⟩
    simp only [evA, evEs, Rs.bind, List.nil_append] at o
    exact o
  refine tG.bind (f := fun τ y S2 => match itemsI y S2 with
    | some ys => .ok ys S2
    | none => .bad) h' fun ι1 S1 H1 τ a v r1 rs ra o1 => ?_
  cases e : itemsI a S1 with
  | none => rw [e] at o1; exact o1.elim
  | some ys =>
    rw [e] at o1
    obtain ⟨b, xs, h1, h2, h3⟩ := star_items r1 ra e
    exact ⟨b, xs, h1, h2, o1 ι1 H1 xs Step.refl r1 h3⟩
theorem starL_st {q : PX} {R : List V → Hp → Prop} (h : tIs X.K cm W (evA Γ [] q) σ H R) : tStar X.K (tI X.K cm W (evE Γ q)) tNil σ H R := by
  have := star1_st h
  obtain ⟨ι, S, τ, rl, rs, o⟩ := this
  refine ⟨ι, S, τ, rl, rs, Out.imp o fun z H1 hz => ?_⟩
  obtain ⟨a, xs, h1, h2, h3⟩ := hz
  exact ⟨a, xs, h1, h2, by show R (xs ++ []) H1; rw [List.append_nil]; exact h3⟩
theorem starC_st {p q : PX} {ps : List PX} {R : List V → Hp → Prop} (h : tIs X.K cm W (evA Γ (p :: ps) q) σ H R) : tCons (tI X.K cm W (evE Γ p)) (tIs X.K cm W (evA Γ ps q)) σ H R := by
  have h' : tIs X.K cm W (fun τ S => (evE Γ p τ S).bind fun x S1 => (evA Γ ps q τ S1).bind fun xs S2 => .ok (x :: xs) S2) σ H R := by
    obtain ⟨ι, S, τ, rl, rs, o⟩ := h
    refine ⟨ι, S, τ, rl, rs, ?_⟩
    simp only [evA, evEs] at o
    dsimp only
    cases e1 : evE Γ p τ S with
    | bad => rw [e1] at o; exact o
    | exc c S1 => rw [e1] at o; exact o
    | ok x S1 =>
      rw [e1] at o
      simp only [Rs.bind, evA] at o ⊢
      cases e2 : evEs Γ ps τ S1 with
      | bad => rw [e2] at o; exact o
      | exc c S2 => rw [e2] at o; exact o
      | ok xs S2 =>
        rw [e2] at o
        simp only [] at o ⊢
        cases e3 : evE Γ q τ S2 with
        | bad => rw [e3] at o; exact o
        | exc c S3 => rw [e3] at o; exact o
        | ok y S3 =>
          rw [e3] at o
          simp only [] at o ⊢
          cases e4 : itemsI y S3 with
          | none => rw [e4] at o; exact o
          | some ys => rw [e4] at o; exact o
  refine tG.bind (f := fun τ x S1 => (evA Γ ps q τ S1).bind fun xs S2 => .ok (x :: xs) S2) h' fun ι1 S1 H1 τ a v r1 rs1 ra o1 => ⟨ι1, S1, τ, r1, rs1, Out.bindR o1 fun b S2 ι2 H2 y _ st r2 rb o2 => ?_⟩
  exact o2 ι2 H2 _ Step.refl r2 (RVs.cons (RV.step ra r1 st) rb)
theorem evA_bind {β : Type} {ps : List PX} {q : PX} {τ : Sl} {S : Sto} {f : List IV → Sto → Rs β} : ((evEs Γ ps τ S).bind fun xs S1 => (evE Γ q τ S1).bind fun y S2 => match itemsI y S2 with
    | some ys => f (xs ++ ys) S2
    | none => .bad) = (evA Γ ps q τ S).bind f := by
  unfold evA
  cases e1 : evEs Γ ps τ S with
  | bad => rfl
  | exc c S1 => rfl
  | ok xs S1 =>
    simp only [Rs.bind]
    cases e2 : evE Γ q τ S1 with
    | bad => rfl
    | exc c S2 => rfl
    | ok y S2 =>
      simp only []
      cases e3 : itemsI y S2 with
      | none => rfl
      | some ys => rfl
theorem calls_st {f : Str} {ps : List PX} {q : PX} (h : tI X.K cm W (evE Γ (.calls f ps q)) σ H Q) : tCallS (spI X.K cm (Γ.call f)) (WE W) (tIs X.K cm W (evA Γ ps q)) σ H Q := by
  have h' : tI X.K cm W (fun τ S => (evA Γ ps q τ S).bind fun xs S1 => Γ.call f xs S1) σ H Q := by
    obtain ⟨ι, S, τ, rl, rs, o⟩ := h
    refine ⟨ι, S, τ, rl, rs, ?_⟩
    simp only [evE] at o
    dsimp only
    rw [← evA_bind]; exact o
  exact tG.bind (f := fun τ xs S1 => Γ.call f xs S1) h' fun ι1 S1 H1 τ a v r1 rs ra o1 => ⟨ι1, S1, a, r1, ra, OutC.of_out o1⟩
theorem news_st (D : Wd g X.prog X.w X.K X.mg X.base cm Γ k) {p q : PX} {ps : List PX} (h : tI X.K cm W (evE Γ (.news p ps q)) σ H Q) : tNewG X k W (tI X.K cm W (evE Γ p)) (tIs X.K cm W (evA Γ ps q)) σ H Q := by
  have h' : tI X.K cm W (fun τ S => (evE Γ p τ S).bind fun y S0 => match y with
    | .cls c => if hasInit Γ c then (evA Γ ps q τ S0).bind fun xs S1 => mkI Γ c xs S1 else .bad
    | _ => .bad) σ H Q := by
    obtain ⟨ι, S, τ, rl, rs, o⟩ := h
    refine ⟨ι, S, τ, rl, rs, ?_⟩
    simp only [evE] at o
    dsimp only
    cases e1 : evE Γ p τ S with
    | bad => rw [e1] at o; exact o
    | exc c S1 => rw [e1] at o; exact o
    | ok z S0 =>
      rw [e1] at o
      simp only [Rs.bind] at o ⊢
      cases z with
      | cls c =>
        simp only [] at o ⊢
        by_cases hh : hasInit Γ c = true
        · simp only [hh, if_true] at o ⊢
          have := evA_bind (Γ := Γ) (ps := ps) (q := q) (τ := τ) (S := S0) (f := fun xs S1 => mkI Γ c xs S1)
          simp only [Rs.bind] at this o ⊢
          rw [← this]; exact o
        · simp only [hh, if_false] at o; exact o.elim
      | non => exact o
      | bl b => exact o
      | int b => exact o
      | str b => exact o
      | tup b => exact o
      | ref b => exact o
  refine tG.bind (RA := RVS X.K) (f := fun τ y S0 => match y with
    | .cls c => if hasInit Γ c then (evA Γ ps q τ S0).bind fun xs S1 => mkI Γ c xs S1 else .bad
    | _ => .bad) h' fun ι1 S1 H1 τ a v r1 rs ra o1 => ?_
  cases a with
  | cls c =>
    simp only [RVS, RV] at ra
    obtain ⟨C, rfl, hC⟩ := ra
    by_cases hh : hasInit Γ c = true
    · simp only [hh, if_true] at o1
      obtain ⟨q, hq⟩ := hasInit_ok hh
      obtain ⟨hi, M⟩ := cls_mk D hq hC
      exact ⟨C, _, rfl, M, ι1, S1, τ, r1, rs, Out.bindR o1 fun xs S2 ι2 H2 vs _ st r2 rv o2 => new_Q r2 rv hi hq o2⟩
    · simp only [hh, if_false] at o1; exact o1.elim
  | non => exact o1.elim
  | bl b => exact o1.elim
  | int b => exact o1.elim
  | str b => exact o1.elim
  | tup b => exact o1.elim
  | ref b => exact o1.elim
/-! ### isinstance of an own class -/
theorem isoI_ne {x : IV} {d : Str} {S : Sto} {c : Str} {S' : Sto} : isoI Γ x d S ≠ .exc c S' := by
  intro h
  unfold isoI at h
  repeat' split at h
  all_goals cases h
theorem iso_R (D : Wd g X.prog X.w X.K X.mg X.base cm Γ k) {d : Str} {C : Addr} (hd : d ∈ g.cls) (hC : PySem.W.nsIn X.K mainGlobals d = some (some (.ref C))) {ι : Nat → Addr} {S : Sto} {a : IV} {x : V} (rl : Rel X.K cm ι S H) (ra : RV X.K ι S.length H a x) (o : OutV X.K cm ι S H (isoI Γ a d S) Q) : rIsi X.K [x, .ref C] H Q := by
  obtain ⟨C', h1, ck⟩ := D.cls d hd
  have : C = C' := by
    have := ck.ns
    rw [hC] at this
    simp only [Option.some.injEq, Value.ref.injEq] at this
    exact this
  subst this
  have go : ∀ (t : String), t ∈ baseTys → isoI Γ a d S = .ok (.bl false) S → TyX X.K H x (.type t) → rIsi X.K [x, .ref C] H Q := fun t ht h0 h1 => by
    refine ⟨x, _, .type t, .ref C, false, rfl, .own C, h1, ck.isb t ht, ?_⟩
    rw [h0] at o
    exact o.here rl (by simp only [RV])
  cases a with
  | non => simp only [RV] at ra; subst ra; exact go "NoneType" (by decide) rfl (.base .non)
  | bl b => simp only [RV] at ra; subst ra; exact go "bool" (by decide) rfl (.base (.bl b))
  | int b => simp only [RV] at ra; subst ra; exact go "int" (by decide) rfl (.base (.int b))
  | str b => simp only [RV] at ra; subst ra; exact go "str" (by decide) rfl (.base (.str b))
  | tup xs =>
    simp only [RV] at ra
    obtain ⟨p, vs, rfl, h2, _⟩ := ra
    exact go "tuple" (by decide) rfl (sq_ty h2.toT)
  | cls b => exact o.elim
  | ref n =>
    simp only [RV] at ra
    obtain ⟨hn, rfl⟩ := ra
    cases e : S[n]? with
    | none => simp only [isoI, e] at o; exact o.elim
    | some cl =>
      have hc := rl.cell n cl e
      cases cl with
      | lst ys => obtain ⟨vs, e1, _⟩ := hc; exact go "list" (by decide) (by simp only [isoI, e]) (.base (.lst e1))
      | frz ys => obtain ⟨ob, vs, e1, _⟩ := hc; exact go "list" (by decide) (by simp only [isoI, e]) (.base (.frz e1))
      | dct ys => obtain ⟨vs, e1, _⟩ := hc; exact go "dict" (by decide) (by simp only [isoI, e]) (.base (.dK e1))
      | ins c fs =>
        obtain ⟨C1, dx, ps, e1, e2, _⟩ := hc
        have c1 := D.at e2
        refine ⟨_, _, .ref C1, .ref C, Γ.isub c d, rfl, .own C, .base (.ins e1 c1.cl c1.ha c1.hn c1.htk c1.hm), ck.iso c C1 e2, ?_⟩
        simp only [isoI, e] at o
        exact o.here rl (by simp only [RV])
end
end Wg
set_option maxHeartbeats 2000000
/-! WiD: zip of so many tuples, at the library's level. -/
namespace WZ
open PySem
open PySem.Sem (wp)
abbrev IsZipG (h : Heap) (z TI TO : Addr) (f0 : Value) (b : Bool) : Prop :=
  h.get? z = some { cls := .type "zip", dict := none, data := .fields #[f0, .bool b, .bool false, .ref TI, .ref TO], slots := #[] }
abbrev IsTupN (h : Heap) (T : Addr) (xs : List Value) : Prop := h.get? T = some { cls := .type "tuple", data := .seq xs.toArray }
theorem wp_forIn {M : Model} {A : Around} {E : Value → Shared → Prop} {α σ : Type} {f : α → σ → Sem (ForInStep σ)} (I : Nat → σ → Shared → Prop) {Q : σ → Shared → Prop} :
    ∀ (l : List α) (k : Nat) (st : σ) (s : Shared), (∀ i x st s, l[i]? = some x → I (k + i) st s → wpAny M A (f x st) (fun r s' => ∃ st', r = .yield st' ∧ I (k + i + 1) st' s') E s) → I k st s → (∀ st s', I (k + l.length) st s' → Q st s') → wpAny M A (forIn l st f) Q E s
  | [], k, st, s, _, h0, hQ => by rw [List.forIn_nil]; exact wpAny_pure (hQ st s h0)
  | x :: l, k, st, s, hb, h0, hQ => by
    rw [List.forIn_cons]
    refine wpAny_bind (wpAny_mono (hb 0 x st s rfl h0) (fun r s' h => ?_) fun _ _ z => z)
    obtain ⟨st', rfl, h'⟩ := h
    refine wp_forIn I l (k + 1) st' s' (fun i y st s hi h => ?_) h' (fun st s' h => hQ st s' ?_)
    · have := hb (i + 1) y st s (by simpa using hi) (by rw [← Nat.add_assoc, Nat.add_right_comm]; exact h)
      rw [show k + (i + 1) + 1 = k + 1 + i + 1 by omega] at this
      exact this
    · rw [List.length_cons, show k + (l.length + 1) = k + 1 + l.length by omega]
      exact h
/-- the first turn of a loop raises -/
theorem wp_forIn_raise {M : Model} {A : Around} {E : Value → Shared → Prop} {α σ : Type} {f : α → σ → Sem (ForInStep σ)} {Q : σ → Shared → Prop} {x : α} {l : List α} {st : σ} {s : Shared} (h : wpAny M A (f x st) (fun _ _ => False) E s) : wpAny M A (forIn (x :: l) st f) Q E s := by
  rw [List.forIn_cons]
  exact wpAny_bind (wpAny_mono h (fun _ _ z => z.elim) fun _ _ z => z)
section
variable {prog : Program} {w : World} {A : Around} {E : Value → Shared → Prop} {s : Shared}
theorem updateSeq_N {T : Addr} {ks : List Value} {x : Value} {k : Nat} {Q : Unit → Shared → Prop} (hT : IsTupN s.heap T ks) (hl : ks.length ≤ 1000) (h : ∀ h', IsTupN h' T (ks.set k x) → Heap.SameBut T s.heap h' → Q () { s with heap := h' }) :
    wpAny (model prog w) A (updateSeq T (·.setIfInBounds k x)) Q E s := by
  refine wpAny_updateSeq hT rfl (h _ ?_ (Heap.SameBut.update ..)) ?_ ?_
  · show Heap.get? _ T = _
    rw [Heap.get?_update_self _ hT rfl]
    simp [Obj.mapSeq]
  · rw [List.size_toArray]; exact Nat.le_trans hl (by decide)
  · simp only [Array.size_setIfInBounds, List.size_toArray]; exact Nat.le_trans hl (by decide)
/-- what a zip is made of, all apart -/
structure ZA (z TI TO : Addr) (its ls : List Addr) : Prop where
  TIz : TI ≠ z
  TOz : TO ≠ z
  TITO : TI ≠ TO
  nd : its.Nodup
  iz : ∀ i ∈ its, i ≠ z ∧ i ≠ TI ∧ i ≠ TO
  lz : ∀ l ∈ ls, l ≠ z ∧ l ≠ TI ∧ l ≠ TO ∧ l ∉ its
  len : its.length = ls.length
  ne : its ≠ []
  few : its.length ≤ 1000
/-- a zip at turn i -/
structure ZS (h : Heap) (z TI TO : Addr) (its ls : List Addr) (i : Nat) : Prop where
  z : ∃ f0 b, IsZipG h z TI TO f0 b ∧ (f0 = .none ∨ ∃ a, f0 = rawInt a)
  ti : IsTupN h TI (its.map .ref)
  to : ∃ ks, ks.length = its.length ∧ IsTupN h TO ks
  it : ∀ (k : Nat) (j l : Addr), its[k]? = some j → ls[k]? = some l → h.IsTupleIter j l i
theorem ZS.keep {h h' : Heap} {z TI TO : Addr} {its ls : List Addr} {i : Nat} (S : ZS h z TI TO its ls i) (len : its.length = ls.length) (k : ∀ b ∈ z :: TI :: TO :: its, ∀ o, h.get? b = some o → h'.get? b = some o) : ZS h' z TI TO its ls i := by
  obtain ⟨f0, b, h1, h2⟩ := S.z
  obtain ⟨ks, h3, h4⟩ := S.to
  refine ⟨⟨f0, b, k z (by simp) _ h1, h2⟩, k TI (by simp) _ S.ti, ⟨ks, h3, k TO (by simp) _ h4⟩, fun n j l hj hl => ?_⟩
  obtain ⟨o, e, r⟩ := S.it n j l hj hl
  exact ⟨o, k j (by simp [List.mem_of_getElem? hj]) _ e, r⟩
/-- the heap while the items are drawn -/
structure ZM (s0 : Heap) (h : Heap) (z TI TO : Addr) (its ls : List Addr) (i k : Nat) : Prop where
  sz : h.objs.size = s0.objs.size
  ti : IsTupN h TI (its.map .ref)
  it : ∀ (n : Nat) (j l : Addr), its[n]? = some j → ls[n]? = some l → h.IsTupleIter j l (if n < k then i + 1 else i)
  keep : ∀ c o, c ∉ z :: TI :: TO :: its → s0.get? c = some o → h.get? c = some o
theorem ZM.next {s0 h h' : Heap} {z TI TO : Addr} {its ls : List Addr} {i k : Nat} {j l : Addr} (D : ZA z TI TO its ls) (M : ZM s0 h z TI TO its ls i k) (hj : its[k]? = some j) (hl : ls[k]? = some l) (hi : h'.IsTupleIter j l (i + 1)) (sb : Heap.SameBut j h h') : ZM s0 h' z TI TO its ls i (k + 1) := by
  have jm := List.mem_of_getElem? hj
  obtain ⟨j1, j2, j3⟩ := D.iz j jm
  refine ⟨sb.1.trans M.sz, (sb.2 _ (Ne.symm j2)).trans M.ti, fun n j' l' hj' hl' => ?_, fun c o hc e => ?_⟩
  · by_cases hn : n = k
    · subst hn
      rw [hj] at hj'; cases hj'
      rw [hl] at hl'; cases hl'
      rw [if_pos (by omega)]
      exact hi
    · have hne : j' ≠ j := fun e => by
        subst e
        have a1 := (List.getElem?_eq_some_iff.mp hj)
        have a2 := (List.getElem?_eq_some_iff.mp hj')
        obtain ⟨b1, b2⟩ := a1
        obtain ⟨c1, c2⟩ := a2
        exact hn ((List.getElem_inj D.nd).mp (c2.trans b2.symm))
      have := M.it n j' l' hj' hl'
      rw [show (if n < k + 1 then i + 1 else i) = (if n < k then i + 1 else i) by by_cases q : n < k <;> simp [q] <;> omega]
      obtain ⟨o, e, r⟩ := this
      exact ⟨o, (sb.2 _ hne).trans e, r⟩
  · have hcj : c ≠ j := fun e => hc (by subst e; simp [jm])
    exact (sb.2 c hcj).trans (M.keep c o hc e)
theorem ZM.same {s0 h h' : Heap} {z TI TO : Addr} {its ls : List Addr} {i k : Nat} {c : Addr} (D : ZA z TI TO its ls) (M : ZM s0 h z TI TO its ls i k) (hc : c = z ∨ c = TO) (sb : Heap.SameBut c h h') : ZM s0 h' z TI TO its ls i k := by
  have nc : ∀ j ∈ its, j ≠ c := fun j hj e => by
    obtain ⟨a, b, d⟩ := D.iz j hj
    rcases hc with q | q
    · exact a (e.trans q)
    · exact d (e.trans q)
  have nt : TI ≠ c := fun e => by
    rcases hc with q | q
    · exact D.TIz (e.trans q)
    · exact D.TITO (e.trans q)
  refine ⟨sb.1.trans M.sz, (sb.2 _ nt).trans M.ti, fun n j l hj hl => ?_, fun b o hb e => ?_⟩
  · obtain ⟨o, e, r⟩ := M.it n j l hj hl
    exact ⟨o, (sb.2 _ (nc j (List.mem_of_getElem? hj))).trans e, r⟩
  · have hbc : b ≠ c := fun e => hb (by
      rcases hc with q | q
      · subst e; subst q; simp
      · subst e; subst q; simp)
    exact (sb.2 b hbc).trans (M.keep b o hb e)
theorem free_none {z TI TO : Addr} {b : Bool} {Q : Bool → Shared → Prop} (hz : IsZipG s.heap z TI TO .none b) (h : Q true s) : wpAny (model prog w) A (Builtin.SmallTypes.ownedTupleIsFree (.ref z)) Q E s := by
  unfold Builtin.SmallTypes.ownedTupleIsFree
  exact wpAny_bind (wpAny_field hz rfl (x := .none) rfl (wpAny_pure h))
theorem wpAny_ifAlive {a : Addr} {Q : Option Obj → Shared → Prop} (h : Q (s.heap.get? a) s) : wpAny (model prog w) A (loadIfAlive a) Q E s := fun Γ p hΓ => by
  unfold loadIfAlive
  rw [Sem.wp_loadIfAlive]
  rw [Sem.wp_pure]
  exact h
theorem free_int {z TI TO : Addr} {b : Bool} {a : Int} {Q : Bool → Shared → Prop} (hz : IsZipG s.heap z TI TO (rawInt a) b) (h1 : Q true s) (h2 : ∀ h' b', IsZipG h' z TI TO (rawInt a) b' → Heap.SameBut z s.heap h' → Q false { s with heap := h' }) : wpAny (model prog w) A (Builtin.SmallTypes.ownedTupleIsFree (.ref z)) Q E s := by
  unfold Builtin.SmallTypes.ownedTupleIsFree
  refine wpAny_bind (wpAny_field hz rfl (x := rawInt a) rfl ?_)
  show wpAny _ _ (loadIfAlive a.toNat >>= _) _ _ _
  refine wpAny_bind (wpAny_ifAlive ?_)
  cases e : s.heap.get? a.toNat with
  | none =>
    show wpAny _ _ (pure true) _ _ _
    exact wpAny_pure h1
  | some o =>
    show wpAny _ _ (field (.ref z) 1 >>= _) _ _ _
    refine wpAny_bind (wpAny_field hz rfl (x := .bool b) rfl ?_)
    cases b with
    | true =>
      show wpAny _ _ (pure false) _ _ _
      exact wpAny_pure (h2 s.heap true hz (Heap.SameBut.refl _ _))
    | false =>
      show wpAny _ _ (setField (.ref z) 1 (.bool true) >>= _) _ _ _
      refine wpAny_bind (wpAny_setField_rec hz (by simp) fun h' hz' hs => wpAny_pure ?_)
      exact h2 h' true hz' hs
end
end WZ
set_option maxHeartbeats 2000000
/-! WiE: the next item of such a zip, its end. -/
namespace WZ
open PySem
open PySem.Sem (wp)
section
variable {prog : Program} {w : World} {A : Around} {E : Value → Shared → Prop} {s : Shared}
theorem items_of {h : Heap} {its ls : List Addr} {i : Nat} {row : List Value} (hr : ∀ (k : Nat) (l : Addr), ls[k]? = some l → ∃ xs x, h.IsTuple l xs ∧ xs[i]? = some x ∧ row[k]? = some x) (len : its.length = ls.length) {k : Nat} {j : Addr} (hj : its[k]? = some j) :
    ∃ l xs x, ls[k]? = some l ∧ h.IsTuple l xs ∧ xs[i]? = some x ∧ row[k]? = some x := by
  have hk := (List.getElem?_eq_some_iff.mp hj).1
  have hl : ls[k]? = some ls[k] := List.getElem?_eq_getElem (by omega)
  obtain ⟨xs, x, h1, h2, h3⟩ := hr k _ hl
  exact ⟨_, xs, x, hl, h1, h2, h3⟩
theorem isFree {z TI TO : Addr} {f0 : Value} {b : Bool} (hz : IsZipG s.heap z TI TO f0 b) (hf : f0 = .none ∨ ∃ a, f0 = rawInt a) :
    wpAny (model prog w) A (Builtin.SmallTypes.ownedTupleIsFree (.ref z)) (fun r s' => ∃ h0 f0 b, s' = { s with heap := h0 } ∧ IsZipG h0 z TI TO f0 b ∧ Heap.SameBut z s.heap h0 ∧ (r = false → ∃ a, f0 = rawInt a)) E s := by
  rcases hf with rfl | ⟨a, rfl⟩
  · exact free_none hz ⟨s.heap, _, _, rfl, hz, Heap.SameBut.refl _ _, fun h => by cases h⟩
  · exact free_int hz ⟨s.heap, _, _, rfl, hz, Heap.SameBut.refl _ _, fun h => by cases h⟩ fun h' b' hz' hs => ⟨h', _, _, rfl, hz', hs, fun _ => ⟨a, rfl⟩⟩
theorem zipN_item {z TI TO : Addr} {its ls : List Addr} {i : Nat} {row : List Value} {Q : Value → Shared → Prop} (D : ZA z TI TO its ls) (Z : ZS s.heap z TI TO its ls i)
    (hr : ∀ (k : Nat) (l : Addr), ls[k]? = some l → ∃ xs x, s.heap.IsTuple l xs ∧ xs[i]? = some x ∧ row[k]? = some x) (hrl : row.length = its.length)
    (hQ : ∀ h', ZS h' z TI TO its ls (i + 1) → IsTupN h' s.heap.objs.size row → h'.objs.size = s.heap.objs.size + 1 → (∀ c o, c ∉ z :: TI :: TO :: its → s.heap.get? c = some o → h'.get? c = some o) → Q (.ref s.heap.objs.size) { s with heap := h' }) :
    wpAny (model prog w) A (Builtin.«zip.__next__» ⟨[.ref z], []⟩) (fun fin s' => ∃ v, fin = .done (.ret v) ∧ Q v s') E s := by
  obtain ⟨f0, b, hz, hf⟩ := Z.z
  obtain ⟨ks, hks, hTO⟩ := Z.to
  have few := D.few
  have hne : (its.map Value.ref).toArray.isEmpty = false := by
    have := D.ne
    cases its with
    | nil => exact absurd rfl this
    | cons a r => simp
  have tup : ∀ {h : Heap} {l : Addr} {xs : Array Value}, (∀ c o, c ∉ z :: TI :: TO :: its → s.heap.get? c = some o → h.get? c = some o) → l ∈ ls → s.heap.IsTuple l xs → h.IsTuple l xs := fun {h l xs} kp hl ⟨o, e, r⟩ => by
    obtain ⟨a1, a2, a3, a4⟩ := D.lz l hl
    exact ⟨o, kp l o (by simp [a1, a2, a3, a4]) e, r⟩
  show wpAny _ _ (field (.ref z) 2 >>= _) _ _ _
  refine wpAny_bind (wpAny_field hz rfl (x := .bool false) rfl ?_)
  show wpAny _ _ (field (.ref z) 3 >>= _) _ _ _
  refine wpAny_bind (wpAny_field hz rfl (x := .ref TI) rfl ?_)
  refine wpAny_bind (wpAny_seqItems Z.ti rfl ?_)
  dsimp only
  rw [if_neg (by rw [hne]; exact Bool.false_ne_true)]
  refine wpAny_bind (wpAny_mono (isFree hz hf) (fun r s1 hr1 => ?_) fun _ _ z => z)
  obtain ⟨h0, f0, b, rfl, hz0, sb0, hint⟩ := hr1
  have hTO0 : IsTupN h0 TO ks := (sb0.2 _ D.TOz).trans hTO
  have M0 : ZM s.heap h0 z TI TO its ls i 0 := by
    refine ZM.same D ⟨rfl, Z.ti, fun n j l hj hl => ?_, fun c o _ e => e⟩ (.inl rfl) sb0
    rw [if_neg (by omega)]
    exact Z.it n j l hj hl
  cases r with
  | true =>
    rw [if_pos rfl]
    refine wpAny_bind (wpAny_rule ?_)
    refine wpAny_bind (wpAny_field hz0 rfl (x := .ref TO) rfl ?_)
    dsimp only
    refine wpAny_bind (wpAny_setField_rec hz0 (by simp) fun h₁ hz₁ hs₁ => ?_)
    replace hz₁ : IsZipG h₁ z TI TO .ellipsis b := hz₁
    have M1 := M0.same D (.inl rfl) hs₁
    have hTO₁ : IsTupN h₁ TO ks := (hs₁.2 _ D.TOz).trans hTO0
    refine wpAny_bind (wp_forIn (fun k st s' => st = (none, ()) ∧ ∃ h', s' = { s with heap := h' } ∧ IsZipG h' z TI TO .ellipsis b ∧ ZM s.heap h' z TI TO its ls i k ∧ ∃ ks', ks'.length = its.length ∧ IsTupN h' TO ks' ∧ ∀ n, n < k → ks'[n]? = row[n]?) _ 0 _ _ ?_ ⟨rfl, h₁, rfl, hz₁, M1, ks, hks, hTO₁, fun n hn => absurd hn (by omega)⟩ ?_)
    · rintro n ⟨it, k⟩ st s1 hn ⟨rfl, h', rfl, hz', M, ks', hks', hTO', hrow⟩
      rw [Nat.zero_add] at M hrow ⊢
      obtain ⟨j, hj, rfl, rfl⟩ : ∃ j, its[n]? = some j ∧ it = .ref j ∧ k = n := by
        simp only [List.getElem?_zipIdx, List.getElem?_map] at hn
        cases e : its[n]? with
        | none => rw [e] at hn; simp at hn
        | some j => rw [e] at hn; simp at hn; exact ⟨j, rfl, hn.1.symm, by omega⟩
      obtain ⟨l, xs, x, hl, t1, t2, t3⟩ := items_of hr D.len hj
      have jm := List.mem_of_getElem? hj
      obtain ⟨j1, j2, j3⟩ := D.iz j jm
      have ij := M.it k j l hj hl
      rw [if_neg (by omega)] at ij
      refine wpAny_bind (wpAny_onRaise ?_)
      show wpAny _ _ (Builtin.SmallTypes.nextOf (.ref j) >>= _) _ _ _
      refine wpAny_bind (RZ.nextOf_tuple_item ij (tup M.keep (List.mem_of_getElem? hl) t1) t2 fun h₂ h1₂ hs₂ => wpAny_pure ?_)
      have M2 := M.next D hj hl h1₂ hs₂
      have hz₂ : IsZipG h₂ z TI TO .ellipsis b := (hs₂.2 _ (Ne.symm j1)).trans hz'
      have hTO₂ : IsTupN h₂ TO ks' := (hs₂.2 _ (Ne.symm j3)).trans hTO'
      refine wpAny_bind (wpAny_seqItems hTO₂ rfl ?_)
      refine wpAny_bind (updateSeq_N hTO₂ (by omega) fun h₃ hTO₃ hs₃ => ?_)
      refine wpAny_bind (wpAny_letGo (wpAny_pure ⟨_, rfl, rfl, h₃, rfl, (hs₃.2 _ (Ne.symm D.TOz)).trans hz₂, M2.same D (.inr rfl) hs₃, _, by simpa using hks', hTO₃, fun q hq => ?_⟩))
      by_cases hqk : q = k
      · subst hqk
        have hlt := (List.getElem?_eq_some_iff.mp hj).1
        rw [t3, List.getElem?_set_self (by omega)]
      · rw [List.getElem?_set_ne (fun e => hqk e.symm)]
        exact hrow q (by omega)
    · rintro st s1 ⟨rfl, h', rfl, hz', M, ks', hks', hTO', hrow⟩
      simp only [List.length_zipIdx, List.length_map, Nat.zero_add] at M hrow
      have ek : ks' = row := by
        apply List.ext_getElem?
        intro n
        by_cases hn : n < its.length
        · exact hrow n hn
        · rw [List.getElem?_eq_none (by omega), List.getElem?_eq_none (by omega)]
      subst ek
      refine wpAny_bind (wpAny_seqItems hTO' rfl ?_)
      refine wpAny_bind (wpAny_newTuple ?_ (by simp; exact Nat.le_trans (by omega : ks'.length ≤ 1000) (by decide)))
      show wpAny _ _ (Builtin.SmallTypes.ownedTupleHandOut (.ref z) (.ref h'.objs.size) >>= _) _ _ _
      refine wpAny_bind ?_
      unfold Builtin.SmallTypes.ownedTupleHandOut
      have hz₆ : IsZipG (h'.push { cls := .type "tuple", data := .seq ks'.toArray }) z TI TO .ellipsis b := Heap.get?_push_of_some _ hz'
      refine wpAny_bind (wpAny_setField_rec (by simpa using hz₆) (by simp) fun h₇ hz₇ hs₇ => ?_)
      replace hz₇ : IsZipG h₇ z TI TO (rawInt h'.objs.size) b := hz₇
      refine wpAny_setField_rec hz₇ (by simp) fun h₈ hz₈ hs₈ => ?_
      replace hz₈ : IsZipG h₈ z TI TO (rawInt h'.objs.size) false := hz₈
      have zlt : z < h'.objs.size := Heap.lt_size hz'
      have up : ∀ c o, c ≠ z → h'.get? c = some o → h₈.get? c = some o := fun c o c1 e => (hs₈.2 _ c1).trans ((hs₇.2 _ c1).trans (by simpa using Heap.get?_push_of_some _ e))
      have hT₈ : IsTupN h₈ h'.objs.size ks' := (hs₈.2 _ (Nat.ne_of_gt zlt)).trans ((hs₇.2 _ (Nat.ne_of_gt zlt)).trans (by simpa using Heap.get?_push_size _ rfl))
      have sz8 : h₈.objs.size = h'.objs.size + 1 := by rw [hs₈.1, hs₇.1]; simp [Heap.size_push]
      rw [M.sz] at hT₈ sz8 hz₈
      refine wpAny_pure ⟨_, rfl, ?_⟩
      show Q (.ref h'.objs.size) _
      rw [M.sz]
      refine hQ h₈ ⟨⟨_, _, hz₈, .inr ⟨_, rfl⟩⟩, up _ _ D.TIz M.ti, ⟨ks', hks', up _ _ D.TOz hTO'⟩, fun n j l hj hl => ?_⟩ hT₈ sz8 fun c o hc e => up c o (fun q => hc (by simp [q])) (M.keep c o hc e)
      have ij := M.it n j l hj hl
      have hlt := (List.getElem?_eq_some_iff.mp hj).1
      rw [if_pos hlt] at ij
      obtain ⟨o, e, r⟩ := ij
      exact ⟨o, up j o (D.iz j (List.mem_of_getElem? hj)).1 e, r⟩
  | false =>
    rw [if_neg Bool.false_ne_true]
    obtain ⟨a0, rfl⟩ := hint rfl
    rw [List.forIn_toArray]
    refine wpAny_bind (wp_forIn (fun k st s' => st.1 = none ∧ st.2.toList = row.take k ∧ ∃ h' b', s' = { s with heap := h' } ∧ IsZipG h' z TI TO (rawInt a0) b' ∧ IsTupN h' TO ks ∧ ZM s.heap h' z TI TO its ls i k) _ 0 _ _ ?_ ⟨rfl, by simp, h0, b, rfl, hz0, hTO0, M0⟩ ?_)
    · rintro n it ⟨st1, st2⟩ s1 hn ⟨e1, e2, h', b', rfl, hz', hTO', M⟩
      rw [Nat.zero_add] at M e2 ⊢
      simp only at e1 e2
      subst e1
      obtain ⟨j, hj, rfl⟩ : ∃ j, its[n]? = some j ∧ it = .ref j := by
        rw [List.getElem?_map] at hn
        cases e : its[n]? with
        | none => rw [e] at hn; simp at hn
        | some j => rw [e] at hn; simp at hn; exact ⟨j, rfl, hn.symm⟩
      obtain ⟨l, xs, x, hl, t1, t2, t3⟩ := items_of hr D.len hj
      have jm := List.mem_of_getElem? hj
      obtain ⟨j1, j2, j3⟩ := D.iz j jm
      have ij := M.it n j l hj hl
      rw [if_neg (by omega)] at ij
      refine wpAny_bind (wpAny_holding ?_)
      show wpAny _ _ (Builtin.SmallTypes.nextOf (.ref j) >>= _) _ _ _
      refine wpAny_bind (RZ.nextOf_tuple_item ij (tup M.keep (List.mem_of_getElem? hl) t1) t2 fun h₂ h1₂ hs₂ => wpAny_pure ?_)
      refine wpAny_pure ⟨_, rfl, rfl, ?_, h₂, b', rfl, (hs₂.2 _ (Ne.symm j1)).trans hz', (hs₂.2 _ (Ne.symm j3)).trans hTO', M.next D hj hl h1₂ hs₂⟩
      show (st2.push x).toList = _
      rw [Array.toList_push, e2, List.take_add_one, t3]
      rfl
    · rintro ⟨st1, st2⟩ s1 ⟨e1, e2, h', b', rfl, hz', hTO', M⟩
      simp only [List.length_map, Nat.zero_add] at M e2
      simp only at e1
      subst e1
      rw [← hrl, List.take_length] at e2
      dsimp only
      rw [e2]
      have zlt : z < h'.objs.size := Heap.lt_size hz'
      refine wpAny_bind (wpAny_newTuple ?_ (by rw [hrl]; exact Nat.le_trans few (by decide)))
      refine wpAny_pure ⟨_, rfl, ?_⟩
      show Q (.ref h'.objs.size) _
      have up : ∀ c o, h'.get? c = some o → (h'.push { cls := .type "tuple", data := .seq row.toArray }).get? c = some o := fun c o e => Heap.get?_push_of_some _ e
      have hT : IsTupN (h'.push { cls := .type "tuple", data := .seq row.toArray }) h'.objs.size row := Heap.get?_push_size _ rfl
      have szp : (h'.push { cls := .type "tuple", data := .seq row.toArray }).objs.size = h'.objs.size + 1 := Heap.size_push ..
      rw [M.sz] at hT szp
      rw [M.sz]
      refine hQ _ ⟨⟨_, _, up _ _ hz', .inr ⟨_, rfl⟩⟩, up _ _ M.ti, ⟨ks, hks, up _ _ hTO'⟩, fun n j l hj hl => ?_⟩ hT szp fun c o hc e => up _ _ (M.keep c o hc e)
      have ij := M.it n j l hj hl
      have hlt := (List.getElem?_eq_some_iff.mp hj).1
      rw [if_pos hlt] at ij
      obtain ⟨o, e, r⟩ := ij
      exact ⟨o, up _ _ e, r⟩
end
end WZ
set_option maxHeartbeats 2000000
/-! WiF: such a zip made, its iteration's end. -/
namespace WZ
open PySem
theorem typeCall_n : ∀ args : List Value, 1 ≤ args.length → args.length ≤ 6 → checkTypeCall "zip" ⟨args, []⟩ = pure ()
  | [a], _, _ => by kernel_rfl
  | [a, b], _, _ => by kernel_rfl
  | [a, b, c], _, _ => by kernel_rfl
  | [a, b, c, d], _, _ => by kernel_rfl
  | [a, b, c, d, e], _, _ => by kernel_rfl
  | [a, b, c, d, e, f], _, _ => by kernel_rfl
  | [], h, _ => by simp at h
  | _ :: _ :: _ :: _ :: _ :: _ :: _ :: _, _, h => by simp at h
theorem newCall_n : ∀ args : List Value, 1 ≤ args.length → args.length ≤ 6 → checkBuiltinCall "zip.__new__" ⟨.type "zip" :: args, []⟩ = pure ()
  | [a], _, _ => by kernel_rfl
  | [a, b], _, _ => by kernel_rfl
  | [a, b, c], _, _ => by kernel_rfl
  | [a, b, c, d], _, _ => by kernel_rfl
  | [a, b, c, d, e], _, _ => by kernel_rfl
  | [a, b, c, d, e, f], _, _ => by kernel_rfl
  | [], h, _ => by simp at h
  | _ :: _ :: _ :: _ :: _ :: _ :: _ :: _, _, h => by simp at h
theorem init_n (args : List Value) (h1 : 1 ≤ args.length) (h2 : args.length ≤ 6) (obj : Value) : argsOk "object.__init__" ⟨obj :: args, []⟩ := by
  unfold argsOk
  rw [signature?_of (id := "object.__init__") (n := ['_', '_', 't', 'i', 'n', 'i', '_', '_']) (o := ['t', 'c', 'e', 'j', 'b', 'o']) (by kernel_rfl) F.owner_object]
  match args, h1, h2 with
  | [a], _, _ => kernel_rfl
  | [a, b], _, _ => kernel_rfl
  | [a, b, c], _, _ => kernel_rfl
  | [a, b, c, d], _, _ => kernel_rfl
  | [a, b, c, d, e], _, _ => kernel_rfl
  | [a, b, c, d, e, f], _, _ => kernel_rfl
  | [], h, _ => simp at h
  | _ :: _ :: _ :: _ :: _ :: _ :: _ :: _, _, h => simp at h
section
variable {prog : Program} {w : World} {A : Around} {E : Value → Shared → Prop} {s : Shared}
/-- the iterators of so many tuples -/
theorem iterAll_n {ls : List Addr} {Q : List Value → Shared → Prop} (hl : ∀ l ∈ ls, ∃ xs, s.heap.IsTuple l xs)
    (h : ∀ h' its, its = (List.range ls.length).map (fun k => s.heap.objs.size + k) → h'.objs.size = s.heap.objs.size + ls.length → (∀ (k : Nat) (j l : Addr), its[k]? = some j → ls[k]? = some l → h'.IsTupleIter j l 0) → (∀ c o, s.heap.get? c = some o → h'.get? c = some o) → Q (its.map .ref) { s with heap := h' }) :
    wpAny (model prog w) A (Builtin.SmallTypes.iterAll (ls.map .ref)) Q E s := by
  unfold Builtin.SmallTypes.iterAll
  refine wpAny_bind (wp_forIn (fun k st s' => ∃ h', s' = { s with heap := h' } ∧ st.toList = ((List.range k).map (fun k => s.heap.objs.size + k)).map .ref ∧ h'.objs.size = s.heap.objs.size + k ∧ (∀ (n : Nat) (l : Addr), n < k → ls[n]? = some l → h'.IsTupleIter (s.heap.objs.size + n) l 0) ∧ (∀ c o, s.heap.get? c = some o → h'.get? c = some o)) _ 0 _ _ ?_ ⟨s.heap, rfl, rfl, rfl, fun n l hn => absurd hn (by omega), fun _ _ e => e⟩ ?_)
  · rintro n x st s1 hn ⟨h', rfl, e1, e2, e3, e4⟩
    rw [Nat.zero_add] at e1 e2 e3 ⊢
    obtain ⟨l, hln, rfl⟩ : ∃ l, ls[n]? = some l ∧ x = .ref l := by
      rw [List.getElem?_map] at hn
      cases e : ls[n]? with
      | none => rw [e] at hn; simp at hn
      | some j => rw [e] at hn; simp at hn; exact ⟨j, rfl, hn.symm⟩
    obtain ⟨xs, o, ho, r⟩ := hl l (List.mem_of_getElem? hln)
    have ht : Heap.IsTuple (Shared.heap { s with heap := h' }) l xs := ⟨o, e4 _ _ ho, r⟩
    refine wpAny_bind (wpAny_holding (wpAny_pyIter_tuple ht ?_))
    refine wpAny_pure ⟨_, rfl, _, rfl, ?_, ?_, fun q l' hq hl' => ?_, fun c o e => Heap.get?_push_of_some _ (e4 c o e)⟩
    · show (st.push (.ref h'.objs.size)).toList = _
      rw [Array.toList_push, e1, e2, List.range_succ]
      simp
    · show (h'.push _).objs.size = _
      rw [Heap.size_push, e2]
      rfl
    · by_cases hqn : q < n
      · obtain ⟨o, e, r⟩ := e3 q l' hqn hl'
        exact ⟨o, Heap.get?_push_of_some _ e, r⟩
      · have : q = n := by omega
        subst this
        rw [hln] at hl'; cases hl'
        have g : (h'.push { cls := .type "tuple_iterator", data := .fields #[.ref l, .int 0 0] }).get? h'.objs.size = some _ := Heap.get?_push_size _ rfl
        rw [e2] at g
        exact ⟨_, g, rfl, rfl⟩
  · rintro st s1 ⟨h', rfl, e1, e2, e3, e4⟩
    simp only [List.length_map, Nat.zero_add] at e1 e2 e3
    refine wpAny_pure ?_
    rw [e1]
    refine h h' _ rfl e2 (fun k j l hj hl' => ?_) e4
    have hk := (List.getElem?_eq_some_iff.mp hl').1
    rw [List.getElem?_map, List.getElem?_range hk] at hj
    simp at hj
    subst hj
    exact e3 k l hk hl'
end
def itsAt (n k : Nat) : List Addr := (List.range k).map fun j => n + j
/-- such a zip, as it is made -/
structure ZNew (h0 h : Heap) (ls : List Addr) : Prop where
  st : ZS h (h0.objs.size + ls.length + 2) (h0.objs.size + ls.length) (h0.objs.size + ls.length + 1) (itsAt h0.objs.size ls.length) ls 0
  up : ∀ c o, h0.get? c = some o → h.get? c = some o
  zp : ∃ f0 b, IsZipG h (h0.objs.size + ls.length + 2) (h0.objs.size + ls.length) (h0.objs.size + ls.length + 1) f0 b
abbrev zt (h : Heap) (xs : List Value) : Heap := h.push { cls := .type "tuple", data := .seq xs.toArray }
abbrev zz (h : Heap) (TI TO : Addr) : Heap := h.push { cls := .type "zip", data := .fields #[.none, .bool false, .bool false, .ref TI, .ref TO] }
theorem znew {h0 h' : Heap} {ls : List Addr} (hsz : h'.objs.size = h0.objs.size + ls.length) (hit : ∀ (k : Nat) (j l : Addr), (itsAt h0.objs.size ls.length)[k]? = some j → ls[k]? = some l → h'.IsTupleIter j l 0) (up : ∀ c o, h0.get? c = some o → h'.get? c = some o) {A B : List Value} (hA : A = (itsAt h0.objs.size ls.length).map .ref) (hB : B.length = ls.length) :
    (zt (zt h' A) B).objs.size = h0.objs.size + ls.length + 2 ∧ ZNew h0 (zz (zt (zt h' A) B) h'.objs.size (zt h' A).objs.size) ls := by
  have s1 : (zt h' A).objs.size = h0.objs.size + ls.length + 1 := by rw [Heap.size_push, hsz]
  have s2 : (zt (zt h' A) B).objs.size = h0.objs.size + ls.length + 2 := by rw [Heap.size_push, s1]
  have g0 : (zz (zt (zt h' A) B) h'.objs.size (zt h' A).objs.size).get? h'.objs.size = some { cls := .type "tuple", data := .seq A.toArray } := Heap.get?_push_of_some _ (Heap.get?_push_of_some _ (Heap.get?_push_size _ rfl))
  have g1 : (zz (zt (zt h' A) B) h'.objs.size (zt h' A).objs.size).get? (zt h' A).objs.size = some { cls := .type "tuple", data := .seq B.toArray } := Heap.get?_push_of_some _ (Heap.get?_push_size _ rfl)
  have g2 : (zz (zt (zt h' A) B) h'.objs.size (zt h' A).objs.size).get? (zt (zt h' A) B).objs.size = some { cls := .type "zip", data := .fields #[.none, .bool false, .bool false, .ref h'.objs.size, .ref (zt h' A).objs.size] } := Heap.get?_push_size _ rfl
  have uu : ∀ c o, h'.get? c = some o → (zz (zt (zt h' A) B) h'.objs.size (zt h' A).objs.size).get? c = some o := fun c o e => Heap.get?_push_of_some _ (Heap.get?_push_of_some _ (Heap.get?_push_of_some _ e))
  refine ⟨s2, ?_⟩
  generalize zz (zt (zt h' A) B) h'.objs.size (zt h' A).objs.size = hh at *
  rw [s2, s1, hsz] at g2
  rw [s1] at g1
  rw [hsz] at g0
  subst hA
  exact ⟨⟨⟨_, _, g2, .inl rfl⟩, g0, ⟨B, by simp [itsAt, hB], g1⟩, fun k j l hj hl => by
    obtain ⟨o, e, r⟩ := hit k j l hj hl
    exact ⟨o, uu _ _ e, r⟩⟩, fun c o e => uu _ _ (up c o e), ⟨_, _, g2⟩⟩
theorem meets_n (ls : List Addr) :
    Meets (Builtin.«zip.__new__» ⟨.type "zip" :: ls.map .ref, []⟩) (fun _ R s => (∀ l ∈ ls, ∃ xs, s.heap.IsTuple l xs) ∧ ls.length ≤ 100 ∧
      ∀ h', ZNew s.heap h' ls → R (.ok (.ret (.ref (s.heap.objs.size + ls.length + 2)))) { s with heap := h' }) :=
  .of_wp fun prog w A R s h => by
    have hsub := sub_zip
    obtain ⟨hl, hn, h⟩ := h
    wp_walk using iterAll_n hl
    intro h' its hits hsz hit up
    subst hits
    have sl : ls.length ≤ sizeLine := Nat.le_trans hn (by decide)
    refine wpAny_bind (wpAny_newTuple ?_ (by simpa using sl))
    refine wpAny_bind (wpAny_newTuple ?_ (by simpa using sl))
    refine wpAny_bind ?_
    unfold Builtin.SmallTypes.newRecord
    refine wpAny_newObj_type ?_ (by simp only [sizeOk, sizeLine_eq]; show 5 ≤ 16777216 + 2; decide)
    refine wpAny_pure ⟨_, rfl, ?_⟩
    obtain ⟨z1, z2⟩ := znew (h0 := s.heap) (ls := ls) hsz hit up (A := (itsAt s.heap.objs.size ls.length).map .ref) (B := ((itsAt s.heap.objs.size ls.length).map Value.ref).map fun _ => Value.none) rfl (by simp [itsAt])
    have := h _ z2
    rw [← z1] at this
    exact this
section
variable {prog : Program} {w : World} {A : Around} {E : Value → Shared → Prop} {s : Shared}
/-- zip(..) of one to six tuples -/
theorem call_zipN {ls : List Addr} {Q : Value → Shared → Prop} (h1 : 1 ≤ ls.length) (h6 : ls.length ≤ 6) (hl : ∀ l ∈ ls, ∃ xs, s.heap.IsTuple l xs) (h : ∀ h', ZNew s.heap h' ls → Q (.ref (s.heap.objs.size + ls.length + 2)) { s with heap := h' }) :
    wpAny (model prog w) A (call (.type "zip") (ls.map .ref)) Q E s := by
  refine callType_new F.called_zip (by decide) (typeCall_n _ (by simpa using h1) (by simpa using h6)) (newCall_n _ (by simpa using h1) (by simpa using h6)) (fun obj => init_n _ (by simpa using h1) (by simpa using h6) obj) F.entry_zip_new (meets_n ls) ⟨hl, by omega, fun h' Z => ?_⟩
  obtain ⟨f0, b, hz⟩ := Z.zp
  exact ⟨⟨_, hz, rfl⟩, h h' Z⟩
theorem zipN_end {z TI TO : Addr} {its ls : List Addr} {i : Nat} {Q : Fin → Shared → Prop} (hh : A.handled = none) (D : ZA z TI TO its ls) (Z : ZS s.heap z TI TO its ls i)
    (hr : ∀ l ∈ ls, ∃ xs, s.heap.IsTuple l xs ∧ xs[i]? = none)
    (hE : ∀ h' e, (∀ c o, c ∉ z :: TI :: TO :: its → s.heap.get? c = some o → h'.get? c = some o) → (∃ o, h'.get? e = some o ∧ o.cls = .type "StopIteration") → E (.ref e) { s with heap := h' }) :
    wpAny (model prog w) A (Builtin.«zip.__next__» ⟨[.ref z], []⟩) Q E s := by
  obtain ⟨f0, b, hz, hf⟩ := Z.z
  obtain ⟨ks, hks, hTO⟩ := Z.to
  obtain ⟨j, its', rfl⟩ : ∃ j its', its = j :: its' := by
    cases e : its with
    | nil => exact absurd e D.ne
    | cons a r => exact ⟨a, r, rfl⟩
  obtain ⟨l, ls', rfl⟩ : ∃ l ls', ls = l :: ls' := by
    cases e : ls with
    | nil => have := D.len; rw [e] at this; simp at this
    | cons a r => exact ⟨a, r, rfl⟩
  obtain ⟨xs, ht, hx⟩ := hr l (by simp)
  obtain ⟨j1, j2, j3⟩ := D.iz j (by simp)
  obtain ⟨l1, l2, l3, l4⟩ := D.lz l (by simp)
  have lj : l ≠ j := fun e => l4 (by simp [e])
  have ij := Z.it 0 j l rfl rfl
  show wpAny _ _ (field (.ref z) 2 >>= _) _ _ _
  refine wpAny_bind (wpAny_field hz rfl (x := .bool false) rfl ?_)
  show wpAny _ _ (field (.ref z) 3 >>= _) _ _ _
  refine wpAny_bind (wpAny_field hz rfl (x := .ref TI) rfl ?_)
  refine wpAny_bind (wpAny_seqItems Z.ti rfl ?_)
  dsimp only
  rw [if_neg (by simp)]
  refine wpAny_bind (wpAny_mono (isFree hz hf) (fun r s1 hr1 => ?_) fun _ _ z => z)
  obtain ⟨h0, f0, b, rfl, hz0, sb0, hint⟩ := hr1
  have ij0 : h0.IsTupleIter j l i := by obtain ⟨o, e, r⟩ := ij; exact ⟨o, (sb0.2 _ j1).trans e, r⟩
  have ht0 : h0.IsTuple l xs := by obtain ⟨o, e, r⟩ := ht; exact ⟨o, (sb0.2 _ l1).trans e, r⟩
  cases r with
  | true =>
    rw [if_pos rfl]
    refine wpAny_bind (wpAny_rule ?_)
    refine wpAny_bind (wpAny_field hz0 rfl (x := .ref TO) rfl ?_)
    dsimp only
    refine wpAny_bind (wpAny_setField_rec hz0 (by simp) fun h₁ hz₁ hs₁ => ?_)
    replace hz₁ : IsZipG h₁ z TI TO .ellipsis b := hz₁
    have ij1 : h₁.IsTupleIter j l i := by obtain ⟨o, e, r⟩ := ij0; exact ⟨o, (hs₁.2 _ j1).trans e, r⟩
    have ht1 : h₁.IsTuple l xs := by obtain ⟨o, e, r⟩ := ht0; exact ⟨o, (hs₁.2 _ l1).trans e, r⟩
    refine wpAny_bind ?_
    rw [List.map_cons, List.zipIdx_cons]
    refine wp_forIn_raise ?_
    refine wpAny_bind (wpAny_onRaise ?_)
    show wpAny _ _ (Builtin.SmallTypes.nextOf (.ref j) >>= _) _ _ _
    refine wpAny_bind (RZ.nextOf_tuple_end hh ij1 ht1 hx fun h₂ e hs₂ he => ?_)
    obtain ⟨oe, hoe, hce⟩ := he
    have hz₂ : IsZipG h₂ z TI TO .ellipsis b := hs₂ _ _ (Ne.symm j1) hz₁
    have hez : e ≠ z := fun x => by subst x; rw [hz₂] at hoe; cases hoe; simp at hce
    refine wpAny_setField_rec hz₂ (by simp) fun h₃ _ hs₃ => hE h₃ e (fun c o hc x => ?_) ⟨oe, hs₃.extBut _ _ hez hoe, hce⟩
    have c1 : c ≠ z := fun q => hc (by simp [q])
    have c2 : c ≠ j := fun q => hc (by simp [q])
    exact hs₃.extBut _ _ c1 (hs₂ _ _ c2 (hs₁.extBut _ _ c1 (sb0.extBut _ _ c1 x)))
  | false =>
    rw [if_neg Bool.false_ne_true]
    rw [List.forIn_toArray, List.map_cons]
    refine wpAny_bind (wp_forIn_raise ?_)
    refine wpAny_bind (wpAny_holding ?_)
    show wpAny _ _ (Builtin.SmallTypes.nextOf (.ref j) >>= _) _ _ _
    refine wpAny_bind (RZ.nextOf_tuple_end hh ij0 ht0 hx fun h₂ e hs₂ he => hE h₂ e (fun c o hc x => ?_) he)
    have c1 : c ≠ z := fun q => hc (by simp [q])
    have c2 : c ≠ j := fun q => hc (by simp [q])
    exact hs₂ _ _ c2 (sb0.extBut _ _ c1 x)
theorem pyNextN_item {z TI TO : Addr} {its ls : List Addr} {i : Nat} {row : List Value} {Q : Option Value → Shared → Prop} (D : ZA z TI TO its ls) (Z : ZS s.heap z TI TO its ls i)
    (hr : ∀ (k : Nat) (l : Addr), ls[k]? = some l → ∃ xs x, s.heap.IsTuple l xs ∧ xs[i]? = some x ∧ row[k]? = some x) (hrl : row.length = its.length)
    (hQ : ∀ h', ZS h' z TI TO its ls (i + 1) → IsTupN h' s.heap.objs.size row → h'.objs.size = s.heap.objs.size + 1 → (∀ c o, c ∉ z :: TI :: TO :: its → s.heap.get? c = some o → h'.get? c = some o) → Q (some (.ref s.heap.objs.size)) { s with heap := h' }) :
    wpAny (model prog w) A (pyNext (.ref z)) Q E s := by
  obtain ⟨f0, b, hz, hf⟩ := Z.z
  have hT : s.TypeIs (.ref z) "zip" := ⟨_, hz, rfl⟩
  unfold pyNext
  exact wpAny_bind (wpAny_attempt (wpAny_callSpecial?_slot (name := Str.ofString "__next__") hT F.slot_zip_next
    (wpAny_call_entry F.slot_zip_next hT F.entry_zip_next (zipN_item D Z hr hrl fun h' a1 a2 a3 a4 => wpAny_pure (hQ h' a1 a2 a3 a4)) (F.args_zip_next_1 _))))
theorem pyNextN_end {z TI TO : Addr} {its ls : List Addr} {i : Nat} {Q : Option Value → Shared → Prop} (hh : A.handled = none) (D : ZA z TI TO its ls) (Z : ZS s.heap z TI TO its ls i)
    (hr : ∀ l ∈ ls, ∃ xs, s.heap.IsTuple l xs ∧ xs[i]? = none)
    (hQ : ∀ h', (∀ c o, c ∉ z :: TI :: TO :: its → s.heap.get? c = some o → h'.get? c = some o) → Q none { s with heap := h' }) : wpAny (model prog w) A (pyNext (.ref z)) Q E s := by
  obtain ⟨f0, b, hz, hf⟩ := Z.z
  have hT : s.TypeIs (.ref z) "zip" := ⟨_, hz, rfl⟩
  unfold pyNext
  refine wpAny_bind (wpAny_attempt (wpAny_callSpecial?_slot (name := Str.ofString "__next__") hT F.slot_zip_next
    (wpAny_call_entry F.slot_zip_next hT F.entry_zip_next (zipN_end hh D Z hr fun h' e hk he => ?_) (F.args_zip_next_1 _))))
  obtain ⟨o, ho, hc⟩ := he
  refine wpAny_bind (wpAny_isInstance (T := "StopIteration") (b := true) ⟨o, ho, hc⟩ isSubtype_stop ?_)
  exact wpAny_pure (hQ _ hk)
theorem pyIterN {z TI TO : Addr} {f0 : Value} {b : Bool} {Q : Value → Shared → Prop} (hz : IsZipG s.heap z TI TO f0 b) (h : Q (.ref z) s) : wpAny (model prog w) A (pyIter (.ref z)) Q E s := by
  have hT : s.TypeIs (.ref z) "zip" := ⟨_, hz, rfl⟩
  refine wpAny_pyIter_slot hT F.slot_zip_iter (wpAny_call_entry F.slot_zip_iter hT F.entry_zip_iter ?_ (F.args_zip_iter_1 _))
  show wpAny _ _ (ret (.ref z)) _ _ s
  exact wpAny_pure ⟨_, rfl, "zip", _, hT, F.slot_zip_next.lookup, h⟩
end
end WZ
set_option maxHeartbeats 2000000
/-! WiG: a loop or a comprehension over zip(*x), the target one name. -/
namespace Wg
open PySem PySem.Spec PyProof.Rows L2 WZ
/-- so many tuples at once, the items in new tuples -/
def ItzN (K : PySem.W.Frag) (as : List Addr) : It :=
  ⟨fun i H => ∃ row : List V, row.length = as.length ∧ ∀ (k : Nat) (a : Addr), as[k]? = some a → ∃ xs x, SqT K H a xs ∧ xs[i]? = some x ∧ row[k]? = some x,
    fun i H v H' => ∃ T o row, v = .ref T ∧ H T = none ∧ Obj.dict o = none ∧ H' = upd H T (.frz o (.tup row)) ∧ row.length = as.length ∧ ∀ (k : Nat) (a : Addr) (xs : List V), as[k]? = some a → SqT K H a xs → ∃ x, xs[i]? = some x ∧ row[k]? = some x,
    fun i H => ∀ a ∈ as, ∃ xs : List V, SqT K H a xs ∧ xs.length ≤ i⟩
theorem zrow {X : Cx} {pins : List (Addr × Obj)} {σ : L2.St} {H : Hp} {s : Shared} {i : Nat} (I : Inv X pins σ H s) : ∀ (as : List Addr) (row : List V), row.length = as.length → (∀ (k : Nat) (a : Addr), as[k]? = some a → ∃ xs x, SqT X.K H a xs ∧ xs[i]? = some x ∧ row[k]? = some x) →
    ∃ us : List Value, Vals row us ∧ us.length = as.length ∧ ∀ (k : Nat) (l : Addr), as[k]? = some l → ∃ xs x, s.heap.IsTuple l xs ∧ xs[i]? = some x ∧ us[k]? = some x
  | [], [], _, _ => ⟨[], .nil, rfl, fun k l h => by simp at h⟩
  | a :: as, r :: row, hl, h => by
    obtain ⟨us, h1, h2, h3⟩ := zrow I as row (by simpa using hl) fun k b hb => by simpa using h (k + 1) b (by simpa using hb)
    obtain ⟨xs, x, hq, hx, hr⟩ := h 0 a rfl
    simp at hr
    subst hr
    obtain ⟨its, rv, p, _⟩ := I.tuple hq
    obtain ⟨u, hu, ru⟩ := rv.get hx
    refine ⟨u :: us, .cons ru h1, by simp [h2], fun k l hk => ?_⟩
    cases k with
    | zero =>
      simp at hk
      subst hk
      exact ⟨its.toArray, u, p, by simpa using hu, rfl⟩
    | succ k =>
      simp at hk
      simpa using h3 k l hk
  | [], _ :: _, hl, _ => by simp at hl
  | _ :: _, [], hl, _ => by simp at hl
theorem turn_zipN {P : Program} {w : World} {K : PySem.W.Frag} {x : Str} {p : Pos} {as its : List Addr} {z TI TO : Addr} (D : ZA z TI TO its as) :
    Turn P w K (.Name x p) (ItzN K as) (z :: TI :: TO :: its) z (fun i h => ZS h z TI TO its as i) where
  mem := by simp
  obj := fun i h st c hc => by
    obtain ⟨f0, b, hz, _⟩ := st.z
    obtain ⟨ks, _, hTO⟩ := st.to
    rcases List.mem_cons.mp hc with rfl | hc
    · exact ⟨_, hz, fun v q => nomatch q⟩
    rcases List.mem_cons.mp hc with rfl | hc
    · exact ⟨_, st.ti, fun v q => nomatch q⟩
    rcases List.mem_cons.mp hc with rfl | hc
    · exact ⟨_, hTO, fun v q => nomatch q⟩
    obtain ⟨k, hk, e⟩ := List.mem_iff_getElem.mp hc
    have hk2 : k < as.length := by rw [← D.len]; exact hk
    obtain ⟨o, e1, _, d1⟩ := st.it k c as[k] (by rw [List.getElem?_eq_getElem hk, e]) (List.getElem?_eq_getElem hk2)
    exact ⟨o, e1, fun v q => by rw [d1] at q; cases q⟩
  keep := fun i h h' st k => st.keep D.len k
  item := by
    intro X hP hw hK hc i pins s σ H E I hf st hg
    subst hP hw hK
    obtain ⟨row, hl, hrow⟩ := hg
    obtain ⟨us, rv, ul, hus⟩ := zrow I as row hl hrow
    have lt : ∀ c ∈ z :: TI :: TO :: its, c < s.heap.objs.size := fun c hc => by
      obtain ⟨f0, b, hz, _⟩ := st.z
      obtain ⟨ks, _, hTO⟩ := st.to
      rcases List.mem_cons.mp hc with rfl | hc
      · exact Heap.lt_size hz
      rcases List.mem_cons.mp hc with rfl | hc
      · exact Heap.lt_size st.ti
      rcases List.mem_cons.mp hc with rfl | hc
      · exact Heap.lt_size hTO
      obtain ⟨k, hk, e⟩ := List.mem_iff_getElem.mp hc
      have hk2 : k < as.length := by rw [← D.len]; exact hk
      obtain ⟨o, e1, _, d1⟩ := st.it k c as[k] (by rw [List.getElem?_eq_getElem hk, e]) (List.getElem?_eq_getElem hk2)
      exact Heap.lt_size e1
    refine pyNextN_item D st hus (ul.trans D.len.symm) fun h' st' hT hsz hk => ?_
    have few : us.length ≤ 1000 := by rw [ul, ← D.len]; exact D.few
    have new : ObjOk X.prog X.w (upd H s.heap.objs.size (.frz { cls := .type "tuple", data := .seq us.toArray } (.tup row))) h' s.heap.objs.size (.frz { cls := .type "tuple", data := .seq us.toArray } (.tup row)) :=
      ⟨hT, by rw [hl, ← ul]; exact Nat.le_trans few (by decide), us, rv, ⟨_, hT, rfl, _, rfl⟩⟩
    have I1 : Inv X pins σ (upd H s.heap.objs.size (.frz { cls := .type "tuple", data := .seq us.toArray } (.tup row))) { s with heap := h' } :=
      I.turnedNew (t' := s.toks) (ch := z :: TI :: TO :: its) (fun c o hb q => hk c o hb q) hf (Nat.le_refl _) new
    refine ⟨_, rfl, wpAny_pure ⟨.ref s.heap.objs.size, _, I1, rfl, ⟨_, _, row, rfl, I.hok.fresh (Nat.le_refl _), rfl, rfl, hl, fun k a xs ha hq => ?_⟩, st', fun c hcm => ?_⟩⟩
    · obtain ⟨ys, y, h1, h2, h3⟩ := hrow k a ha
      rw [I.tuple_inj hq h1]
      exact ⟨y, h2, h3⟩
    · rw [upd_ne (Nat.ne_of_lt (lt c hcm))]
      exact (hf c hcm).1
  done := by
    intro X hP hw hK hc i pins s σ H E I hf st hg
    subst hP hw hK
    refine pyNextN_end (I.ok.hd hc) D st (fun l hl => ?_) fun h' hk => ⟨rfl, I.turnedL (t' := s.toks) (ch := z :: TI :: TO :: its) hk hf⟩
    obtain ⟨xs, hq, hx⟩ := hg l hl
    obtain ⟨its', rv, p, _⟩ := I.tuple hq
    have l1 := rv.length
    exact ⟨_, p, by simp; omega⟩
  self := fun A i s Q E st h => by
    obtain ⟨f0, b, hz, _⟩ := st.z
    exact pyIterN hz h
theorem za_new {n : Nat} {as : List Addr} (h1 : 1 ≤ as.length) (h6 : as.length ≤ 6) (lt : ∀ a ∈ as, a < n) : ZA (n + as.length + 2) (n + as.length) (n + as.length + 1) (itsAt n as.length) as := by
  have mem : ∀ i ∈ itsAt n as.length, ∃ j : Nat, j < as.length ∧ i = n + j := fun i hi => by
    simp only [itsAt, List.mem_map, List.mem_range] at hi
    obtain ⟨j, hj, rfl⟩ := hi
    exact ⟨j, hj, rfl⟩
  have neN : ∀ {a b : Nat}, a ≠ b → @Ne Addr a b := fun h => h
  constructor
  · exact neN (by omega)
  · exact neN (by omega)
  · exact neN (by omega)
  · unfold itsAt
    refine List.Pairwise.map _ (fun a b h => ?_) List.nodup_range
    have h' : @Ne Nat a b := h
    exact neN (by omega)
  · intro i hi
    obtain ⟨j, hj, rfl⟩ := mem i hi
    exact ⟨neN (by omega), neN (by omega), neN (by omega)⟩
  · intro l hl
    have q : @LT.lt Nat instLTNat l n := lt l hl
    refine ⟨neN (by omega), neN (by omega), neN (by omega), fun h => ?_⟩
    obtain ⟨j, hj, e⟩ := mem l h
    have e' : @Eq Nat l (n + j) := e
    omega
  · simp [itsAt]
  · intro h
    have := congrArg List.length h
    simp [itsAt] at this
    rw [this] at h1
    simp at h1
  · simp only [itsAt, List.length_map, List.length_range]
    omega
def iZipN (K : PySem.W.Frag) (te : TE) : L2.TI := fun σ H R => te σ H fun y H1 => ∃ a as, y = .ref a ∧ SqT K H1 a (as.map .ref) ∧ 1 ≤ as.length ∧ as.length ≤ 6 ∧ (∀ l ∈ as, ∃ xs, SqT K H1 l xs) ∧ R (ItzN K as) H1
theorem looks_type {M : Model} {h : Heap} {T : String} : ∃ k, (k = Keeper.frame ∨ k = Keeper.machine ∨ k = Keeper.boundFrame) ∧ PySem.W.Looks M h (keeperOf (.type T)) k :=
  ⟨.machine, .inr (.inl rfl), fun A Q E s k q => by unfold keeperOf; exact wpAny_pure q⟩
theorem pi_zipN {X : Cx} {e : Expr} {te : TE} {p pos tpos sp : Pos} {x : Str} (hg : Gl X "zip") (hm : X.mg "zip" = none) (he : PE X e te) (hst : starEach [.Starred e sp] X.env = [(true, eval e X.env)] := by rfl) :
    PI X (.Name x tpos) (.Call (.Name "zip" p) [.Starred e sp] [] pos) (iZipN X.K te) := by
  refine ⟨fun pins s σ H R I h => ?_⟩
  refine Call_ (ld_blt I hg hm PyProof.Rows.boot_zip ?_)
  rw [hst]
  refine PySem.W.ks_call (P := fun _ => True) rfl (fun _ _ => looks_type) (PySem.W.ks_lone (thn (he.run pins s σ H _ I h) fun v s1 ⟨y, H1, I1, ry, q⟩ => ?_))
  obtain ⟨a, as, rfl, hq, h1, h6, hl, q⟩ := q
  obtain rfl : v = Value.ref a := ry
  refine StX.star_any I1 (.inl hq) fun us s2 I2 rv => ⟨trivial, ?_⟩
  have e1 : us = as.map Value.ref := by
    clear hq hl q h1 h6
    induction as generalizing us with
    | nil => cases rv; rfl
    | cons b as ih =>
      cases rv with
      | cons r rr =>
        cases r
        rw [ih _ rr]
        rfl
  subst e1
  have tl : ∀ l ∈ as, ∃ xs, s2.heap.IsTuple l xs := fun l hm => by
    obtain ⟨xs, h⟩ := hl l hm
    obtain ⟨its, _, p, _⟩ := I2.tuple h
    exact ⟨_, p⟩
  have lt : ∀ l ∈ as, l < s2.heap.objs.size := fun l hm => by
    obtain ⟨xs, o, ho, _⟩ := tl l hm
    exact Heap.lt_size ho
  refine call_zipN h1 h6 tl fun h' Z => ?_
  obtain ⟨f0, b, hz⟩ := Z.zp
  refine pyIterN hz ?_
  have I3 : Inv X pins σ H1 { s2 with heap := h' } := I2.kept (t' := s2.toks) Z.up
  refine ⟨s2.heap.objs.size + as.length + 2, (s2.heap.objs.size + as.length + 2) :: (s2.heap.objs.size + as.length) :: (s2.heap.objs.size + as.length + 1) :: itsAt s2.heap.objs.size as.length, _, _, H1, rfl, I3, turn_zipN (za_new h1 h6 lt), Z.st, fun c hcm => ?_, q⟩
  have hle : s2.heap.objs.size ≤ c := by
    rcases List.mem_cons.mp hcm with rfl | hc
    · exact Nat.le_trans (Nat.le_add_right _ _) (Nat.le_add_right _ _)
    rcases List.mem_cons.mp hc with rfl | hc
    · exact Nat.le_add_right _ _
    rcases List.mem_cons.mp hc with rfl | hc
    · exact Nat.le_trans (Nat.le_add_right _ _) (Nat.le_add_right _ _)
    simp only [itsAt, List.mem_map, List.mem_range] at hc
    obtain ⟨j, hj, rfl⟩ := hc
    exact Nat.le_add_right _ _
  exact I2.fpOk hle (I2.hok.fresh hle)
/-! ### in the interpreter's terms -/
inductive ZR (K : PySem.W.Frag) (ι : Nat → Addr) (n : Nat) (H : Hp) : List (List IV) → List Addr → Prop
  | nil : ZR K ι n H [] []
  | cons {xs : List IV} {a : Addr} {vs : List V} {xss : List (List IV)} {as : List Addr} (h1 : SqT K H a vs) (h2 : RVs K ι n H xs vs) (h3 : ZR K ι n H xss as) : ZR K ι n H (xs :: xss) (a :: as)
theorem ZR.length {K : PySem.W.Frag} {ι : Nat → Addr} {n : Nat} {H : Hp} : ∀ {xss as}, ZR K ι n H xss as → as.length = xss.length
  | _, _, .nil => rfl
  | _, _, .cons _ _ h => by simp [ZR.length h]
theorem ZR.step {K : PySem.W.Frag} {cm : Cm} {ι ι' : Nat → Addr} {S S' : Sto} {H H' : Hp} (r : Rel K cm ι S H) (st : Step ι S H ι' S' H') : ∀ {xss as}, ZR K ι S.length H xss as → ZR K ι' S'.length H' xss as
  | _, _, .nil => .nil
  | _, _, .cons h1 h2 h3 => .cons (SqT.step r st h1) (h2.step r st) (ZR.step r st h3)
theorem ZR.tuple {K : PySem.W.Frag} {ι : Nat → Addr} {n : Nat} {H : Hp} : ∀ {xss as}, ZR K ι n H xss as → ∀ l ∈ as, ∃ vs, SqT K H l vs
  | _, _, .nil, l, hl => by simp at hl
  | _, _, .cons h1 h2 h3, l, hl => by
    rcases List.mem_cons.mp hl with rfl | hl
    · exact ⟨_, h1⟩
    · exact ZR.tuple h3 l hl
theorem zr_of {K : PySem.W.Frag} {ι : Nat → Addr} {n : Nat} {H : Hp} : ∀ {ts : List IV} {xss : List (List IV)} {vs : List V}, optAll tupsOf ts = some xss → RVs K ι n H ts vs → ∃ as, vs = as.map .ref ∧ ZR K ι n H xss as
  | [], xss, vs, e, h => by
    simp only [optAll, Option.some.injEq] at e
    subst e
    simp only [RVs] at h
    subst h
    exact ⟨[], rfl, .nil⟩
  | t :: ts, xss, vs, e, h => by
    obtain ⟨x, r, rfl, h1, h2⟩ := optAll_cons e
    obtain ⟨v, rest, rfl, k1, k2⟩ := h.uncons
    obtain ⟨as, rfl, z⟩ := zr_of h2 k2
    cases t with
    | tup xs =>
      simp only [tupsOf, Option.some.injEq] at h1
      subst h1
      simp only [RV] at k1
      obtain ⟨a, ws, rfl, q1, q2⟩ := k1
      exact ⟨a :: as, rfl, .cons q1.toT q2 z⟩
    | _ => simp [tupsOf] at h1
theorem row_go {K : PySem.W.Frag} {ι : Nat → Addr} {n m i : Nat} {H : Hp} (hi : i < m) : ∀ {xss as}, ZR K ι n H xss as → (∀ xs ∈ xss, xs.length = m) → ∃ row : List V, row.length = as.length ∧ ∀ (k : Nat) (a : Addr), as[k]? = some a → ∃ xs x, SqT K H a xs ∧ xs[i]? = some x ∧ row[k]? = some x
  | _, _, .nil, _ => ⟨[], rfl, fun k a h => by simp at h⟩
  | _, _, .cons (xs := xs) (vs := vs) h1 h2 h3, hl => by
    obtain ⟨row, r1, r2⟩ := row_go hi h3 fun ys hy => hl ys (List.mem_cons_of_mem _ hy)
    have hlt : i < xs.length := by rw [hl xs (by simp)]; exact hi
    have hx : xs[i]? = some xs[i] := List.getElem?_eq_getElem hlt
    obtain ⟨v, hv, _⟩ := h2.get hx
    refine ⟨v :: row, by simp [r1], fun k a ha => ?_⟩
    cases k with
    | zero =>
      simp at ha
      subst ha
      exact ⟨_, v, h1, hv, rfl⟩
    | succ k =>
      simp at ha
      simpa using r2 k a ha
theorem row_rv {K : PySem.W.Frag} {ι : Nat → Addr} {n m i : Nat} {H : Hp} (hi : i < m) : ∀ {xss as}, ZR K ι n H xss as → (∀ xs ∈ xss, xs.length = m) → ∀ row : List V, row.length = as.length → (∀ (k : Nat) (a : Addr) (xs : List V), as[k]? = some a → SqT K H a xs → ∃ x, xs[i]? = some x ∧ row[k]? = some x) → RVs K ι n H (xss.map fun xs => xs.getD i .non) row
  | _, _, .nil, _, row, hr, _ => by
    have : row = [] := by simpa using hr
    subst this
    exact .nil
  | _, _, .cons (xs := xs) (a := a) (vs := vs) h1 h2 h3, hl, row, hr, h => by
    cases row with
    | nil => simp at hr
    | cons r row =>
      have hlt : i < xs.length := by rw [hl xs (by simp)]; exact hi
      have hx : xs[i]? = some xs[i] := List.getElem?_eq_getElem hlt
      obtain ⟨v, hv, rv⟩ := h2.get hx
      obtain ⟨x, q1, q2⟩ := h 0 a vs rfl h1
      rw [hv] at q1; cases q1
      simp at q2
      subst q2
      refine .cons ?_ (row_rv hi h3 (fun ys hy => hl ys (List.mem_cons_of_mem _ hy)) row (by simpa using hr) fun k b ys hb hq => by simpa using h (k + 1) b ys (by simpa using hb) hq)
      have e : xs.getD i .non = xs[i] := by simp [List.getD, hx]
      show RV K ι n H (xs.getD i .non) r
      rw [e]
      exact rv
theorem wk_zipN {xss : List (List IV)} {as : List Addr} {K : PySem.W.Frag} {cm : Cm} {ι0 : Nat → Addr} {S0 : Sto} {H0 : Hp} {m : Nat} (r0 : Rel K cm ι0 S0 H0) (z : ZR K ι0 S0.length H0 xss as) (hl : ∀ xs ∈ xss, xs.length = m) : WkOk false K cm ι0 S0 H0 ⟨rowsI xss m, none⟩ (ItzN K as) := by
  have len : (rowsI xss m).length = m := by simp [rowsI]
  refine ⟨fun i ι S H st r h hi => ?_, fun i ι S H x H' iv st r h hi y => ?_, fun i ι S H st r h hi => ?_⟩
  · rw [len] at hi
    exact row_go hi (z.step r0 st) hl
  · have hi' : i < m := by rw [← len]; exact (List.getElem?_eq_some_iff.mp hi).1
    obtain ⟨T, o, row, rfl, hT, hd, rfl, hr, y⟩ := y
    have e : iv = .tup (xss.map fun xs => xs.getD i .non) := by
      simp only [rowsI, List.getElem?_map, List.getElem?_range hi', Option.map_some, Option.some.injEq] at hi
      exact hi.symm
    subst e
    have rv := row_rv hi' (z.step r0 st) hl row hr y
    obtain ⟨r1, st1⟩ := r.upd_new (o := .frz o (.tup row)) hT
    refine ⟨r1, st1, .inl ?_⟩
    simp only [RV]
    exact ⟨T, row, rfl, .inl ⟨o, hd, upd_same⟩, rv.step r st1⟩
  · rw [len] at hi
    have key : ∀ {xss as}, ZR K ι S.length H xss as → (∀ xs ∈ xss, xs.length = m) → ∀ a ∈ as, ∃ xs : List V, SqT K H a xs ∧ xs.length ≤ i := by
      intro xss as z
      induction z with
      | nil => intro _ a ha; simp at ha
      | cons h1 h2 h3 ih =>
        intro hl a ha
        rcases List.mem_cons.mp ha with rfl | ha
        · exact ⟨_, h1, by rw [h2.length, hl _ (by simp)]; exact hi⟩
        · exact ih (fun ys hy => hl ys (List.mem_cons_of_mem _ hy)) a ha
    exact key (z.step r0 st) hl
section
variable {X : Cx} {cm : Cm} {W : WX} {Γ : Gam} {tg e : Expr} {p : PX}
theorem sound_zips {pp pos tpos sp : Pos} {x : Str} (hg : Gl X "zip") (hm : X.mg "zip" = none) (he : PE X e (tI X.K cm W (evE Γ p))) (hst : starEach [.Starred e sp] X.env = [(true, eval e X.env)]) :
    PI X (.Name x tpos) (.Call (.Name "zip" pp) [.Starred e sp] [] pos) (tW (isTup (.Name x tpos)) X.K cm W (evI Γ (.zips p))) := by
  refine PI.weak (pi_zipN hg hm he hst) fun σ H R q => ?_
  obtain ⟨ι, S, τ, rl, rs, o⟩ := q
  refine ⟨ι, S, τ, rl, rs, ?_⟩
  simp only [evI] at o
  cases e1 : evE Γ p τ S with
  | bad => rw [e1] at o; exact o.elim
  | exc c S1 => rw [e1] at o; exact o
  | ok a S1 =>
    rw [e1] at o
    simp only [Rs.bind] at o ⊢
    intro ι1 H1 v st r1 rv
    cases a with
    | tup ts =>
      simp only [zipsV] at o
      cases e2 : optAll tupsOf ts with
      | none => rw [e2] at o; exact o.elim
      | some xss =>
        rw [e2] at o
        dsimp only at o
        cases e3 : sameL xss with
        | false => rw [e3] at o; exact o.elim
        | true =>
          rw [e3] at o
          simp only [RVS, RV] at rv
          obtain ⟨a, vs, rfl, h1, h2⟩ := rv
          obtain ⟨as, rfl, z⟩ := zr_of e2 h2
          simp only [sameL, Bool.and_eq_true, decide_eq_true_eq, List.all_eq_true, beq_iff_eq] at e3
          refine ⟨a, as, rfl, h1.toT, by rw [z.length]; exact e3.1.1, by rw [z.length]; exact e3.1.2, z.tuple, o ι1 H1 _ st r1 (wk_zipN r1 z e3.2)⟩
    | _ => exact o.elim
end
end Wg
/-! WgM: the soundness of expressions. -/
namespace Wg
open PySem PySem.Spec PyProof.Rows L2 StX ClX
theorem starEach_cons {e : Expr} {es : List Expr} {env : Env} (h : ∀ x p, e ≠ .Starred x p) : starEach (e :: es) env = (false, eval e env) :: starEach es env := by
  cases e <;> first | rfl | exact absurd rfl (h _ _)
theorem cpE_star {g : GI} {n : Nat} {c : CC} {e : Expr} {p : PX} (h : cpE g n c e = some p) : ∀ x q, e ≠ .Starred x q := by
  intro x q z
  subst z
  cases n <;> simp [cpE] at h
theorem cpEs_any {g : GI} {n : Nat} {c : CC} {env : Env} {pos : Pos} : ∀ {es : List Expr} {ps : List PX}, optAll (cpE g n c) es = some ps → (backTo pos (starEach es env)).any (·.1) = false
  | [], _, _ => rfl
  | e :: es, ps, h => by
    obtain ⟨p, r, rfl, h1, h2⟩ := optAll_cons h
    rw [starEach_cons (cpE_star h1)]
    have ih := cpEs_any (env := env) (pos := pos) h2
    simpa [backTo] using ih
theorem plainIx {g : GI} {n : Nat} {c : CC} {b : Expr} {p : PX} (h : cpE g n c b = some p) : PlainIx b := by
  intro o i
  cases b <;> first | rfl | (cases n <;> simp [cpE] at h)
theorem noSup_base {o : Expr} {m : Str} {env : Env} {w : Sem Value} (h : noSup o = true) : attributeBase o m env w = w := by
  unfold attributeBase
  split
  · simp [noSup] at h
  · rfl
theorem fold_no {e : Expr} {env : Env} (h : noFold e = true) : ∀ x, foldedSetIterable e env x = pure x := by
  intro x
  cases e <;> first | rfl | simp [noFold] at h
/-! ### names of a comprehension's block -/
theorem lookup_rel (sc : Scope) (x : Str) : ∀ names : List (Str × NameKind), (names.map fun (n, k) => if (k == .free && sc.kind == .function && sc.names.lookup n == some .cell) then (n, NameKind.cell) else (n, k)).lookup x
      = (names.lookup x).map fun k => if (k == .free && sc.kind == .function && sc.names.lookup x == some .cell) then .cell else k
  | [] => rfl
  | (n, k) :: r => by
    simp only [List.map_cons, List.lookup_cons]
    cases e : x == n with
    | true =>
      have : x = n := by simpa using e
      subst this
      by_cases hc : (k == .free && sc.kind == .function && sc.names.lookup x == some .cell) = true
      · rw [if_pos hc]; simp only [List.lookup_cons, beq_self_eq_true, Option.map_some]; rw [if_pos hc]
      · rw [if_neg hc]; simp only [List.lookup_cons, beq_self_eq_true, Option.map_some]; rw [if_neg hc]
    | false =>
      have ih := lookup_rel sc x r
      by_cases hc : (k == .free && sc.kind == .function && sc.names.lookup n == some .cell) = true
      · rw [if_pos hc]; simp only [List.lookup_cons, e]; exact ih
      · rw [if_neg hc]; simp only [List.lookup_cons, e]; exact ih
section
variable {g : GI} {c : CC} {cm : Cm} {Γ : Gam} {X : Cx} {W : WX} {k : Nat}
theorem CxE.blk (C : CxE g c cm Γ X W k) (hh : c.hot = false) (scope : Scope) (s : Shared) (H : Hp) (D : Addr) (cl : List (Str × Addr)) (fp : List Addr) : CxE g ⟨c.N, relS scope c.sc, false⟩ cm Γ (X.blk s H scope (compEnvC scope cl D X.env) fp) W0 k :=
  ⟨C.wd, C.N, C.nd, by rw [← C.sc]; rfl, fun _ => C.calm hh, fun _ => C.room hh, C.un, C.grd, takes0⟩
theorem PgOk.blk (C : CxE g c cm Γ X W k) (hh : c.hot = false) (scope : Scope) (s : Shared) (H : Hp) (D : Addr) (cl : List (Str × Addr)) (fp : List Addr) : PgOk (X.blk s H scope (compEnvC scope cl D X.env) fp) ⟨c.N, scope, false⟩ := by
  refine ⟨C.N, C.nd, fun _ => C.calm hh, fun x hx => ?_⟩
  have hx : scope.names.lookup x = some .local ∨ scope.names.lookup x = some .cell := hx
  have e : (compEnvC scope cl D X.env).scope.names.lookup x = (scope.names.lookup x).map fun k => if (k == .free && X.env.scope.kind == .function && X.env.scope.names.lookup x == some .cell) then .cell else k := lookup_rel X.env.scope x scope.names
  rcases hx with hx | hx
  · have e2 : (compEnvC scope cl D X.env).scope.names.lookup x = some .local := by rw [e, hx]; rfl
    exact ⟨.inl e2, .inr e2⟩
  · have e2 : (compEnvC scope cl D X.env).scope.names.lookup x = some .cell := by rw [e, hx]; rfl
    exact ⟨.inr e2, .inl (by show (scope.names.lookup x == some .cell) = true; rw [hx]; rfl)⟩
theorem CxE.units (C : CxE g c cm Γ X W k) : X.A.units + 70 < cLine := C.un
theorem CxE.room1 (C : CxE g c cm Γ X W k) (hh : c.hot = false) : Room (2 * k + 1) X.A := (C.room hh).mono (by omega)
/-- several expressions -/
theorem sound_A (C : CxE g c cm Γ X W k) {n : Nat} (ih : ∀ e p, cpE g n c e = some p → PE X e (tI X.K cm W (evE Γ p))) : ∀ (es : List Expr) (ps : List PX), optAll (cpE g n c) es = some ps → PA X es (tIs X.K cm W (evEs Γ ps))
  | [], ps, h => by
    rw [optAll_nil h]
    exact PA.weak pa_nil fun σ H Q q => tNil_st q
  | e :: es, ps, h => by
    obtain ⟨p, r, rfl, h1, h2⟩ := optAll_cons h
    exact PA.weak (pa_cons (ih e p h1) (sound_A C ih es r h2) (starEach_cons (cpE_star h1))) fun σ H Q q => tCons_st q
theorem sound_O (ih : ∀ e p, cpE g n c e = some p → PE X e (tI X.K cm W (evE Γ p))) {lo : Option Expr} {l : Option PX} (h : (match lo with | none => some none | some x => (cpE g n c x).map some) = some l) : PO X lo (tIO X.K cm W (evO Γ l)) := by
  cases lo with
  | none => cases h; exact PO.weak po_none fun σ H Q q => tO_none q
  | some x =>
    cases e : cpE g n c x with
    | none => simp only [e] at h; cases h
    | some p =>
      simp only [e] at h; cases h
      exact PO.weak (po_some (ih x p e)) fun σ H Q q => tO_some q
theorem isTup_ok {e : Expr} (h : isTup e = true) : ∃ es kk p, e = .Tuple es kk p := by
  cases e <;> first | exact ⟨_, _, _, rfl⟩ | simp [isTup] at h
theorem star_any_true {env : Env} {pos : Pos} {g : GI} {n : Nat} {c : CC} : ∀ (es : List Expr) (ps : List PX) (q : PX), cpStar (cpE g n c) es = some (ps, q) → (backTo pos (starEach es env)).any (·.1) = true
  | [], ps, q, h => by simp [cpStar] at h
  | [e], ps, q, h => by
    by_cases hs : ∃ x p, e = .Starred x p
    · obtain ⟨x, p, rfl⟩ := hs
      rfl
    · exfalso
      unfold cpStar at h
      split at h
      · cases ‹[e] = []›
      · rename_i he; cases he; exact hs ⟨_, _, rfl⟩
      · rename_i he; cases he; simp [cpStar] at h
  | e :: e2 :: es, ps, q, h => by
    simp only [cpStar] at h
    split at h
    · rename_i p ps' q' h1 h2
      cases h
      have ih := star_any_true (env := env) (pos := pos) (e2 :: es) ps' q h2
      rw [starEach_cons (cpE_star h1)]
      simpa [backTo] using ih
    · cases h
theorem sound_AS (ih : ∀ e p, cpE g n c e = some p → PE X e (tI X.K cm W (evE Γ p))) : ∀ (es : List Expr) (ps : List PX) (q : PX), cpStar (cpE g n c) es = some (ps, q) → PA X es (tIs X.K cm W (evA Γ ps q)) ∧ ((∃ x p, es = [.Starred x p] ∧ ps = [] ∧ cpE g n c x = some q) ∨ ∃ e r, es = e :: r ∧ (∃ p, cpE g n c e = some p) ∧ ∃ ps', cpStar (cpE g n c) r = some (ps', q))
  | [], ps, q, h => by simp [cpStar] at h
  | [e], ps, q, h => by
    by_cases hs : ∃ x p, e = .Starred x p
    · obtain ⟨x, p, rfl⟩ := hs
      simp only [cpStar] at h
      cases e1 : cpE g n c x with
      | none => rw [e1] at h; cases h
      | some q' =>
        rw [e1] at h; cases h
        exact ⟨PA.weak (pa_star (ih x q e1) pa_nil) fun σ H Q z => starL_st z, .inl ⟨x, p, rfl, rfl, e1⟩⟩
    · exfalso
      unfold cpStar at h
      split at h
      · cases ‹[e] = []›
      · rename_i he; cases he; exact hs ⟨_, _, rfl⟩
      · rename_i he; cases he; simp [cpStar] at h
  | e :: e2 :: es, ps, q, h => by
    simp only [cpStar] at h
    split at h
    · rename_i p ps' q' h1 h2
      cases h
      obtain ⟨h3, _⟩ := sound_AS ih (e2 :: es) ps' q h2
      exact ⟨PA.weak (pa_cons (ih e p h1) h3 (starEach_cons (cpE_star h1))) fun σ H Q z => starC_st z, .inr ⟨e, e2 :: es, rfl, ⟨p, h1⟩, ps', h2⟩⟩
    · cases h
theorem isNm_ok : ∀ {e : Expr}, isNm e = true → ∃ x p, e = .Name x p := fun {e} h => by
  cases e <;> first | exact ⟨_, _, rfl⟩ | cases h
theorem cpT_tp {c : CC} {n : Nat} {tg : Expr} {t : Tg} (h : cpT n c tg = some t) (hb : isTup tg = true) : ∃ ts, t = .tp ts := by
  obtain ⟨es, kk, pp, rfl⟩ := isTup_ok hb
  cases n with
  | zero => simp [cpT] at h
  | succ n =>
    simp only [cpT] at h
    split at h
    · cases h
    · cases e : optAll (cpT n c) es with
      | none => rw [e] at h; cases h
      | some ts => rw [e] at h; cases h; exact ⟨ts, rfl⟩
theorem sound_It (C : CxE g c cm Γ X W k) {n : Nat} (ih : ∀ e p, cpE g n c e = some p → PE X e (tI X.K cm W (evE Γ p))) {tg e : Expr} {it : PIt} (h : cpIt (cpE g n c) g c tg e = some it) : PI X tg e (tW (isTup tg) X.K cm W (evI Γ it)) := by
  have val : ∀ {it}, (cpE g n c e).map PIt.val = some it → PI X tg e (tW (isTup tg) X.K cm W (evI Γ it)) := fun {it} h => by
    cases e1 : cpE g n c e with
    | none => rw [e1] at h; cases h
    | some p => rw [e1] at h; cases h; exact sound_val (ih e p e1)
  unfold cpIt at h
  split at h
  · rename_i x p a sp pos
    split at h
    · rename_i hx
      subst hx
      split at h
      · rename_i hg
        simp only [Bool.and_eq_true, decide_eq_true_eq] at hg
        cases e1 : cpE g n c a with
        | none => rw [e1] at h; cases h
        | some q =>
          rw [e1] at h; cases h
          obtain ⟨y, yp, rfl⟩ := isNm_ok hg.2
          exact sound_zips (C.gl hg.1.1) (C.wd.blt _ hg.1.2) (ih a q e1) rfl
      · cases h
    · exact val h
  · rename_i x p a pos _
    split at h
    · rename_i hx
      subst hx
      split at h
      · rename_i hg
        simp only [Bool.and_eq_true, decide_eq_true_eq] at hg
        cases e1 : cpE g n c a with
        | none => rw [e1] at h; cases h
        | some q =>
          rw [e1] at h; cases h
          exact sound_rng (C.gl hg.1) (C.wd.blt _ hg.2) (sound_A C ih [a] [q] (by simp only [optAll, e1])) (starEach_cons (cpE_star e1))
      · cases h
    · split at h
      · rename_i hx
        subst hx
        split at h
        · rename_i hg
          simp only [Bool.and_eq_true, decide_eq_true_eq] at hg
          cases e1 : cpE g n c a with
          | none => rw [e1] at h; cases h
          | some q =>
            rw [e1] at h; cases h
            obtain ⟨es, kk, pp, rfl⟩ := isTup_ok hg.2
            exact sound_enum (C.gl hg.1.1) (C.wd.blt _ hg.1.2) (sound_A C ih [a] [q] (by simp only [optAll, e1])) (starEach_cons (cpE_star e1))
        · cases h
      · exact val h
  · rename_i x p a b pos
    split at h
    · rename_i hx
      subst hx
      split at h
      · rename_i hg
        simp only [Bool.and_eq_true, decide_eq_true_eq] at hg
        split at h
        · rename_i q1 q2 e1 e2
          cases h
          obtain ⟨es, kk, pp, rfl⟩ := isTup_ok hg.2
          exact sound_zip (C.gl hg.1.1) (C.wd.blt _ hg.1.2) (sound_A C ih [a, b] [q1, q2] (by simp only [optAll, e1, e2])) (starEach_cons (cpE_star e1)) (cpEs_any (g := g) (n := n) (c := c) (ps := [q2]) (by simp only [optAll, e2]))
        · cases h
      · cases h
    · split at h
      · rename_i hx
        subst hx
        split at h
        · rename_i hg
          simp only [Bool.and_eq_true, decide_eq_true_eq] at hg
          split at h
          · rename_i q1 q2 e1 e2
            cases h
            exact sound_rng2 (C.gl hg.1) (C.wd.blt _ hg.2) (sound_A C ih [a, b] [q1, q2] (by simp only [optAll, e1, e2])) (starEach_cons (cpE_star e1)) (starEach_cons (cpE_star e2))
          · cases h
        · cases h
      · exact val h
  · exact val h
theorem mkT {e : Expr} {p : PX} (h : PE X e (tI X.K cm W (evE Γ p))) (he : ∀ whole, isTrue e X.env whole = (do let v ← whole; standAt e.pos; holding [v] (truthy v))) : PE X e (tI X.K cm W (evE Γ p)) ∧ (noIf e = true → PT X e (tT X.K cm W (evE Γ p))) :=
  ⟨h, fun _ => PT.weak (pt_val h he) fun σ H Q q => tT_val q⟩
end
theorem tTest_of {K : PySem.W.Frag} {cm : Cm} {W : WX} {m : Sl → Sto → Rs IV} {t : TE} {σ : L2.St} {H : Hp} {R : Bool → Hp → Prop} (go : ∀ Q, tI K cm W m σ H Q → t σ H Q) (h : tT K cm W m σ H R) : tTest t σ H R := go _ (tT_val h)
end Wg
/-! WgN: the soundness of expressions, by induction. -/
namespace Wg
open PySem PySem.Spec PyProof.Rows L2 StX ClX
theorem gcW_E {cm : Cm} {Γ : Gam} {X : Cx} {W : WX} {e : Expr} {ps : List PX} {p : PX} (h : PE X e (tI X.K cm W (evE Γ p))) : PE X e (tI X.K cm W (evE Γ (gcW ps p))) := by
  unfold gcW
  split
  · exact PE.weak h fun σ H Q q => settle_st (m := evE Γ p) (by
      obtain ⟨ι, S, τ, rl, rs, o⟩ := q
      exact ⟨ι, S, τ, rl, rs, by simp only [evE] at o; exact o⟩)
  · exact h
/-- a test: what is made on the way is dropped -/
theorem settle_tT {K : PySem.W.Frag} {cm : Cm} {W : WX} {σ : L2.St} {H : Hp} {R : Bool → Hp → Prop} {m : Sl → Sto → Rs IV} (h : tT K cm W (fun τ S => (m τ S).settle S) σ H R) : tT K cm W m σ H R := by
  obtain ⟨ι, S, τ, rl, rs, o⟩ := h
  refine ⟨ι, S, τ, rl, rs, ?_⟩
  dsimp only [asB] at o ⊢
  cases e : m τ S with
  | bad => rw [e] at o; exact o
  | exc c S1 =>
    rw [e] at o
    intro ι1 H1 st r1 C hC
    obtain ⟨a1, a2, a3⟩ := settle_ok (v := .non) (x := .non) rl st r1 (by simp only [RV])
    exact o ι1 H1 a1 a2 C hC
  | ok v S1 =>
    rw [e] at o
    cases v with
    | bl b =>
      intro ι1 H1 b' st r1 eb
      obtain ⟨a1, a2, a3⟩ := settle_ok (v := .bl b) (x := .bl b) rl st r1 (by simp only [RV])
      exact o ι1 H1 b' a1 a2 eb
    | non => exact o.elim
    | int b => exact o.elim
    | str b => exact o.elim
    | tup b => exact o.elim
    | ref b => exact o.elim
    | cls b => exact o.elim
theorem gcW_T {cm : Cm} {Γ : Gam} {X : Cx} {W : WX} {e : Expr} {ps : List PX} {p : PX} (h : PT X e (tT X.K cm W (evE Γ p))) : PT X e (tT X.K cm W (evE Γ (gcW ps p))) := by
  unfold gcW
  split
  · exact PT.weak h fun σ H Q q => settle_tT (m := evE Γ p) (by
      obtain ⟨ι, S, τ, rl, rs, o⟩ := q
      exact ⟨ι, S, τ, rl, rs, by simp only [evE] at o; exact o⟩)
  · exact h
theorem PW.weak {X : Cx} {e : Expr} {t t' : TT} (h : PW X e t) (g : ∀ σ H Q, t' σ H Q → t σ H Q) : PW X e t' := ⟨fun wh pins s σ H Q I q => h.run wh pins s σ H Q I (g σ H Q q)⟩
section
variable {g : GI} {c : CC} {cm : Cm} {Γ : Gam} {X : Cx} {W : WX} {k : Nat} {n : Nat}
abbrev Snd (cm : Cm) (Γ : Gam) (X : Cx) (W : WX) (e : Expr) (p : PX) : Prop := PE X e (tI X.K cm W (evE Γ p)) ∧ (noIf e = true → PT X e (tT X.K cm W (evE Γ p)))
theorem sound_and (ih : ∀ e p, cpE g n c e = some p → Snd cm Γ X W e p) {pos : Pos} : ∀ (es : List Expr) (ps : List PX) (p : PX), es.all noIf = true → optAll (cpE g n c) es = some ps → andL ps = some p →
    PE X (.BoolOp .And es pos) (tI X.K cm W (evE Γ p)) ∧ PW X (.BoolOp .And es pos) (tT X.K cm W (evE Γ p))
  | [], ps, p, _, h, e => by rw [optAll_nil h] at e; simp [andL] at e
  | [a], ps, p, hi, h, e => by
    obtain ⟨q, r, rfl, h1, h2⟩ := optAll_cons h
    rw [optAll_nil h2] at e
    simp only [andL, Option.some.injEq] at e; subst e
    simp only [List.all_cons, List.all_nil, Bool.and_true] at hi
    exact ⟨pe_one (ih a q h1).1, pw_and1 ((ih a q h1).2 hi)⟩
  | a :: b :: rest, ps, p, hi, h, e => by
    obtain ⟨q, r, rfl, h1, h2⟩ := optAll_cons h
    obtain ⟨q2, r2, rfl, h3, h4⟩ := optAll_cons h2
    rw [List.all_cons, Bool.and_eq_true] at hi
    simp only [andL] at e
    cases e2 : andL (q2 :: r2) with
    | none => rw [e2] at e; cases e
    | some w =>
      rw [e2] at e; cases e
      obtain ⟨i1, i2⟩ := sound_and ih (pos := pos) (b :: rest) (q2 :: r2) w hi.2 h2 e2
      exact ⟨PE.weak (pe_and (ih a q h1).1 i1) fun σ H Q z => and_st z, PW.weak (pw_and ((ih a q h1).2 hi.1) i2) fun σ H Q z => t_and z⟩
theorem sound_or (ih : ∀ e p, cpE g n c e = some p → Snd cm Γ X W e p) {pos : Pos} : ∀ (es : List Expr) (ps : List PX) (p : PX), es.all noIf = true → optAll (cpE g n c) es = some ps → orL ps = some p →
    PE X (.BoolOp .Or es pos) (tI X.K cm W (evE Γ p)) ∧ PW X (.BoolOp .Or es pos) (tT X.K cm W (evE Γ p))
  | [], ps, p, _, h, e => by rw [optAll_nil h] at e; simp [orL] at e
  | [a], ps, p, hi, h, e => by
    obtain ⟨q, r, rfl, h1, h2⟩ := optAll_cons h
    rw [optAll_nil h2] at e
    simp only [orL, Option.some.injEq] at e; subst e
    simp only [List.all_cons, List.all_nil, Bool.and_true] at hi
    exact ⟨pe_one (ih a q h1).1, pw_or1 ((ih a q h1).2 hi)⟩
  | a :: b :: rest, ps, p, hi, h, e => by
    obtain ⟨q, r, rfl, h1, h2⟩ := optAll_cons h
    obtain ⟨q2, r2, rfl, h3, h4⟩ := optAll_cons h2
    rw [List.all_cons, Bool.and_eq_true] at hi
    simp only [orL] at e
    cases e2 : orL (q2 :: r2) with
    | none => rw [e2] at e; cases e
    | some w =>
      rw [e2] at e; cases e
      obtain ⟨i1, i2⟩ := sound_or ih (pos := pos) (b :: rest) (q2 :: r2) w hi.2 h2 e2
      exact ⟨PE.weak (pe_or (ih a q h1).1 i1) fun σ H Q z => or_st z, PW.weak (pw_or ((ih a q h1).2 hi.1) i2) fun σ H Q z => t_or z⟩
theorem op_tI {m : Sl → Sto → Rs IV} {m' : Sl → Sto → Rs IV} (h : ∀ τ S, m τ S = m' τ S) {σ : L2.St} {H : Hp} {Q : VK} {K : PySem.W.Frag} (q : tI K cm W m σ H Q) : tI K cm W m' σ H Q := by
  have : m = m' := funext fun τ => funext fun S => h τ S
  rw [← this]; exact q
end
theorem rg_int (n : Int) : ((List.range (n - 0).toNat).map fun i : Nat => V.int (0 + (i : Nat))) = (List.range n.toNat).map fun i : Nat => V.int (i : Nat) := by
  rw [Int.sub_zero]
  exact List.map_congr_left fun i _ => by rw [Int.zero_add]
theorem rvs_rng {K : PySem.W.Frag} {ι : Nat → Addr} {H : Hp} {m : Nat} (n : Int) : RVs K ι m H (rngI n.toNat) (rgV 0 n) := by
  have e : rngI n.toNat = ((List.range n.toNat).map fun i : Nat => (i : Int)).map IV.int := by simp [rngI]
  have e2 : rgV 0 n = ((List.range n.toNat).map fun i : Nat => (i : Int)).map V.int := by
    unfold rgV
    rw [rg_int, List.map_map]
    rfl
  rw [e, e2]
  exact rvs_ints _
def tLenSetG (K : PySem.W.Frag) (ta : TE) : TE := fun σ H Q => ta σ H fun x H1 => ∃ (l : Addr) (ns : List Int), x = .ref l ∧ SqL K H1 l (ns.map V.int) ∧ ns.length ≤ 4000 ∧ Q (.int ((PyProof.Rows.firstMet (fun i => ns.getD i 0) ns.length).length : Nat)) H1
theorem pe_lenSetG {X : Cx} {a : Expr} {ta : TE} {p p2 q pos : Pos} (hg : Gl X "len") (hm : X.mg "len" = none) (hg2 : Gl X "set") (hm2 : X.mg "set" = none) (ha : PE X a ta) (hc : X.calm = true)
    (na : starEach [a] X.env = (false, eval a X.env) :: starEach [] X.env) : PE X (.Call (.Name "len" p) [.Call (.Name "set" p2) [a] [] q] [] pos) (tLenSetG X.K ta) := by
  refine ⟨fun pins s σ H Q I h => ?_⟩
  refine Call_ (ld_blt I hg hm boot_len ?_)
  refine PyProof.Rows.callWith_builtin1 (PyProof.Rows.args_cons ?_ rfl) rfl rfl
  refine Call_ (ld_blt I hg2 hm2 boot_set ?_)
  refine PyProof.Rows.callWith_type1 (PyProof.Rows.args_cons (thn (ha.run pins s σ H _ I h) fun v s1 ⟨x, H1, I1, r1, q1⟩ => PyProof.Rows.args_nil ?_) na) na rfl
  obtain ⟨l, ns, rfl, hq, hl, q1⟩ := q1
  cases r1
  obtain ⟨its, r, pl, hz⟩ := I1.list hq
  have hlen : its.toArray.size = ns.length := by rw [List.size_toArray, ← r.length, List.length_map]
  refine call_set_list (I1.ok.hd hc) pl.isList (by simpa using RZ.intsAre_vals r) (by rw [hlen]; unfold scanBound; omega) fun h' tk hS hk => ?_
  refine PyProof.Rows.args_nil ?_
  rw [hlen] at hS
  have hfl := PyProof.Rows.firstMet_length_le (fun i => ns.getD i 0) ns.length
  obtain ⟨o, es, ep, t, ho, hex, hd, _, _, _, hf, hn⟩ := hS
  have I2 : Inv X pins σ H1 { s1 with heap := h', toks := tk } := I1.kept fun b o e => hk b o (Heap.lt_size e) e
  exact call_len_set ho hex hd hf (by rw [hn] <;> omega) ⟨.int _, H1, I2.tok _, ⟨_, by rw [hn]⟩, q1⟩
theorem sound_lset {g : GI} {c : CC} {cm : Cm} {Γ : Gam} {X : Cx} {W : WX} {k n : Nat} (C : CxE g c cm Γ X W k) (hc : X.calm = true) {fp pos : Pos} {args : List Expr} {a : Expr} {p1 : PX} (hgl : Gl X "len") (hm : X.mg "len" = none) (hr : stOf g c args = some a) (h1 : cpE g n c a = some p1)
    (ha : PE X a (tI X.K cm W (evE Γ p1))) : Snd cm Γ X W (.Call (.Name "len" fp) args [] pos) (.lset p1) := by
  unfold stOf at hr
  split at hr
  · rename_i x px a' rpos
    split at hr
    · rename_i hx
      simp only [Bool.and_eq_true, decide_eq_true_eq] at hx
      cases hr
      obtain ⟨⟨rfl, hx2⟩, hx3⟩ := hx
      refine mkT ?_ (by intro _; rfl)
      refine PE.weak (pe_lenSetG hgl hm (C.gl hx2) (C.wd.blt _ hx3) ha hc (starEach_cons (cpE_star h1))) fun σ H Q q => ?_
      exact tG.bind (f := fun τ x S1 => lsetI x S1) (op_tI (fun τ S => by simp only [evE]) q) fun ι1 S1 H1 τ a v r1 rs ra o => by
        unfold lsetI at o
        split at o
        · split at o
          · rename_i m xs e
            split at o
            · rename_i ns e2
              split at o
              · rename_i hle
                obtain ⟨vs, rfl, h1, h2⟩ := lst_ok r1 ra e
                have := ints_ok e2 h2
                subst this
                have o' : OutV X.K cm ι1 S1 H1 (.ok (.int ((PyProof.Rows.firstMet (fun i => ns.getD i 0) ns.length).length : Nat)) S1) Q := OutV.of o fun _ _ => by simp
                exact ⟨_, ns, rfl, .inl (.inl h1), hle, o'.here r1 (by simp only [RV])⟩
              · exact o.elim
            · exact o.elim
          · exact o.elim
        · exact o.elim
    · cases hr
  · cases hr
/-- tuple(range(n)), its object seen whole -/
def tTupRgN (te : L2.St → Hp → (Int → Int → Hp → Prop) → Prop) : TE := fun σ H Q => te σ H fun a b H1 => RgOk a b ∧ ∀ (q : Addr) (o : Obj), H1 q = none → o.dict = none → Q (.ref q) (upd H1 q (.frz o (.tup (rgV a b))))
theorem pe_tupRgN {X : Cx} {e : Expr} {te : L2.St → Hp → (Int → Int → Hp → Prop) → Prop} {p pos : Pos} (hc : X.calm = true) (hg : Gl X "tuple") (hm : X.mg "tuple" = none) (he : PRg X e te) (na : starEach [e] X.env = (false, eval e X.env) :: starEach [] X.env) :
    PE X (.Call (.Name "tuple" p) [e] [] pos) (tTupRgN te) := ⟨fun pins s σ H Q I h =>
  Call_ (ld_blt I hg hm boot_tuple (PyProof.Rows.callWith_type1 (args_cons (thn (he pins s σ H _ I h) fun x s1 ⟨r, a, b, t, u, v, H1, ex, hr, I1, ok, q⟩ => args_nil (by
    subst ex
    obtain ⟨c1, c2, c3, c4, c5⟩ := ok
    refine call_tuple_range (n := (b - a).toNat) (I1.ok.hd hc) hr (small_one c1 c2 c3 c4) (rangeSize_nat a b) c5 fun h' tk acc hk hi => ?_
    have I2 := tNew (us := acc.toList) (vs := rgV a b) (I1.kept (t' := tk) hk) (vals_rg hi) (by rw [rgV_length, sizeLine_eq]; omega)
    have ea : acc.toList.toArray = acc := Array.toArray_toList
    unfold tObj at I2
    rw [ea] at I2
    exact ⟨.ref _, _, I2.1, rfl, q _ _ I2.2 rfl⟩)) na) na))⟩
theorem sound_rgs {g : GI} {c : CC} {cm : Cm} {Γ : Gam} {X : Cx} {W : WX} {k n : Nat} (C : CxE g c cm Γ X W k) (hc : X.calm = true) {bf : Bf} {fp pos : Pos} {args : List Expr} {a : Expr} {t : Bool} {p1 : PX} (hgl : Gl X (bN bf)) (hm : X.mg (bN bf) = none) (hr : rgOf g c args = some a) (ht : isLT bf = some t) (h1 : cpE g n c a = some p1)
    (ha : PE X a (tI X.K cm W (evE Γ p1))) : Snd cm Γ X W (.Call (.Name (bN bf) fp) args [] pos) (.rgs t p1) := by
  unfold rgOf at hr
  split at hr
  · rename_i x px a' rpos
    split at hr
    · rename_i hx
      simp only [Bool.and_eq_true, decide_eq_true_eq] at hx
      cases hr
      obtain ⟨⟨rfl, hx2⟩, hx3⟩ := hx
      have hrg : PRg X (.Call (.Name "range" px) [a] [] rpos) (tRg1 (tI X.K cm W (evE Γ p1))) := prg_1 (C.gl hx2) (C.wd.blt _ hx3) ha (starEach_cons (cpE_star h1))
      have go : ∀ (R : Int → Int → Hp → Prop) (σ : L2.St) (H : Hp) (f : IV → Sto → Rs IV) (Q : VK), tI X.K cm W (fun τ S => (evE Γ p1 τ S).bind fun x S1 => f x S1) σ H Q → (∀ ι1 S1 H1 (i : Int), Rel X.K cm ι1 S1 H1 → Out X.K cm W ι1 S1 H1 σ (RVS X.K) (f (.int i) S1) Q → R 0 i H1) → (∀ a S1, (∀ i, a ≠ .int i) → f a S1 = .bad) → tRg1 (tI X.K cm W (evE Γ p1)) σ H R := fun R σ H f Q q hR hf =>
        tG.bind (f := fun τ x S1 => f x S1) q fun ι1 S1 H1 τ a v r1 rs ra o => by
          cases a with
          | int i =>
            have : v = .int i := by simpa only [RVS, RV] using ra
            exact ⟨i, this, hR ι1 S1 H1 i r1 o⟩
          | non => rw [hf _ _ (fun i => by simp)] at o; exact o.elim
          | bl b => rw [hf _ _ (fun i => by simp)] at o; exact o.elim
          | str b => rw [hf _ _ (fun i => by simp)] at o; exact o.elim
          | tup b => rw [hf _ _ (fun i => by simp)] at o; exact o.elim
          | ref b => rw [hf _ _ (fun i => by simp)] at o; exact o.elim
          | cls b => rw [hf _ _ (fun i => by simp)] at o; exact o.elim
      refine mkT ?_ (by intro _; rfl)
      have bad : ∀ a S1, (∀ i, a ≠ .int i) → rgsI t a S1 = .bad := fun a S1 h => by
        unfold rgsI
        split
        · exact absurd rfl (h _)
        · rfl
      cases bf <;> simp only [isLT, Option.some.injEq] at ht
      all_goals first | (cases ht; done) | skip
      · subst ht
        refine PE.weak (pe_listRg hc hgl hm hrg rfl) fun σ H Q q => go _ σ H (rgsI false) Q (op_tI (fun τ S => by simp only [evE]) q) (fun ι1 S1 H1 i r1 o => ?_) bad
        unfold rgsI at o
        simp only [Bool.false_eq_true, if_false] at o
        split at o
        · rename_i hb
          simp only [Bool.and_eq_true, decide_eq_true_eq] at hb
          refine ⟨RgOk.of_le (by omega) (by omega) (by omega) (by omega), fun q hq => ?_⟩
          have o' : OutV X.K cm ι1 S1 H1 (alloc (.lst (rngI i.toNat)) S1) Q := OutV.of o fun _ _ => by simp [alloc]
          exact o'.lst r1 (rvs_rng i) q hq
        · exact o.elim
      · subst ht
        refine PE.weak (pe_tupRgN hc hgl hm hrg rfl) fun σ H Q q => go _ σ H (rgsI true) Q (op_tI (fun τ S => by simp only [evE]) q) (fun ι1 S1 H1 i r1 o => ?_) bad
        unfold rgsI at o
        simp only [if_true] at o
        split at o
        · rename_i hb
          simp only [Bool.and_eq_true, decide_eq_true_eq] at hb
          have o' : OutV X.K cm ι1 S1 H1 (.ok (.tup (rngI i.toNat)) S1) Q := OutV.of o fun _ _ => by simp
          exact ⟨RgOk.of_le (by omega) (by omega) (by omega) (by omega), o'.tup r1 (rvs_rng i)⟩
        · exact o.elim
    · cases hr
  · cases hr
set_option maxHeartbeats 1000000 in
theorem sound_E (g : GI) (cm : Cm) (Γ : Gam) : ∀ (n : Nat) (c : CC) (X : Cx) (W : WX) (k : Nat) (e : Expr) (p : PX), CxE g c cm Γ X W k → cpE g n c e = some p → Snd cm Γ X W e p := by
  intro n
  induction n with
  | zero => intro c X W k e p _ h; simp [cpE] at h
  | succ n IH =>
    intro c X W k e p C h
    have ih : ∀ e p, cpE g n c e = some p → Snd cm Γ X W e p := fun e p h => IH c X W k e p C h
    have ihE : ∀ e p, cpE g n c e = some p → PE X e (tI X.K cm W (evE Γ p)) := fun e p h => (ih e p h).1
    simp only [cpE] at h
    split at h
    · cases h; exact mkT (PE.weak pe_int fun σ H Q q => k_st (fun _ _ _ => by simp only [RV]) q) (by intro _; rfl)
    · cases h; exact mkT (PE.weak pe_bl fun σ H Q q => k_st (fun _ _ _ => by simp only [RV]) q) (by intro _; rfl)
    · cases h; exact mkT (PE.weak pe_non fun σ H Q q => k_st (fun _ _ _ => by simp only [RV]) q) (by intro _; rfl)
    · cases h; exact mkT (PE.weak pe_str fun σ H Q q => k_st (fun _ _ _ => by simp only [RV]) q) (by intro _; rfl)
    · -- a name
      rename_i x pos
      split at h
      · rename_i hp
        obtain ⟨d1, d2, d3⟩ := plain_dbg hp
        split at h
        · rename_i hv
          cases e1 : ixOf c.N x with
          | none => rw [e1] at h; cases h
          | some i =>
            rw [e1] at h; cases h
            exact mkT (PE.weak (pe_var (by rw [C.N]; exact ixOf_get e1) (C.vis hv) d1 d2) fun σ H Q q => loc_st q) (by intro _; rfl)
        · split at h
          · rename_i hg
            simp only [Bool.and_eq_true, decide_eq_true_eq] at hg
            cases h
            refine mkT ?_ (by intro _; rfl)
            cases e1 : Γ.glob x with
            | none =>
              refine ⟨fun pins s σ H Q I q => ?_⟩
              obtain ⟨ι, S, τ, rl, rs, o⟩ := q
              simp only [evE, e1] at o
              exact o.elim
            | some v =>
              obtain ⟨u, z, h1, h2, h3⟩ := C.wd.glob x v hg.2 e1
              refine PE.weak (pe_glob (C.gl hg.1) h1 h2 d1) fun σ H Q q => ?_
              obtain ⟨ι, S, τ, rl, rs, o⟩ := q
              simp only [evE, e1] at o
              exact o ι H z Step.refl rl (h3 _ _ _)
          · split at h
            · rename_i hg
              simp only [Bool.and_eq_true, decide_eq_true_eq] at hg
              cases h
              obtain ⟨Cx', h1, ck⟩ := C.wd.cls x hg.2
              refine mkT (PE.weak (pe_glob (v := .ref Cx') (C.gl hg.1) ck.mg rfl d1) fun σ H Q q => k_st (fun _ _ _ => ?_) q) (by intro _; rfl)
              simp only [RV]
              exact ⟨Cx', rfl, ck.ns⟩
            · cases h
      · cases h
    · -- e.f
      rename_i o f pos
      split at h
      · rename_i hf
        simp only [Bool.and_eq_true, decide_eq_true_eq, Bool.not_eq_true'] at hf
        cases e1 : cpE g n c o with
        | none => rw [e1] at h; cases h
        | some q1 =>
          rw [e1] at h; cases h
          exact mkT (PE.weak (pe_attG (k := k) (ihE o q1 e1) (C.room hf.2) C.grd (noSup_base hf.1.2)) fun σ H Q q => att_st C.wd hf.1.1 q) (by intro _; rfl)
      · cases h
    · -- a binary operator
      rename_i a op b pos
      split at h
      · rename_i o p1 q1 e1 e2 e3
        cases h
        have := opOf_ok e1
        subst this
        exact mkT (PE.weak (pe_op (op_bin (cm := cm) o) (ihE a p1 e2) (ihE b q1 e3)) fun σ H Q q => tOp_of (fun _ _ _ _ _ => binI_ne) (op_tI (fun τ S => by simp only [evE]) q)) (by intro _; rfl)
      · cases h
    · rename_i a pos
      cases e1 : cpE g n c a with
      | none => rw [e1] at h; cases h
      | some q1 =>
        rw [e1] at h; cases h
        exact mkT (PE.weak (pe_un (op_neg (cm := cm)) (ihE a q1 e1)) fun σ H Q q => tUn_of (fun _ _ _ _ => negI_ne) (op_tI (fun τ S => by simp only [evE]) q)) (by intro _; rfl)
    · rename_i a pos
      split at h
      · rename_i hn
        cases e1 : cpE g n c a with
        | none => rw [e1] at h; cases h
        | some q1 =>
          rw [e1] at h; cases h
          exact ⟨PE.weak (pe_not (ihE a q1 e1)) fun σ H Q q => not_st q, fun _ => PT.weak (pt_not ((ih a q1 e1).2 hn)) fun σ H Q q => t_not q⟩
      · cases h
    · -- a comparison
      rename_i a op b pos
      split at h
      · cases h
      · rename_i hm
        split at h
        · rename_i o p1 q1 e1 e2 e3
          cases h
          have := cpOf_ok e1
          subst this
          have hm' : behindInMarks (cOp o) b = false := by simpa using hm
          have go : ∀ σ H Q, tI X.K cm W (evE Γ (.cmp o p1 q1)) σ H Q → tOp (rI2 X.K cm (cmpI o)) (tI X.K cm W (evE Γ p1)) (tI X.K cm W (evE Γ q1)) σ H Q := fun σ H Q q => tOp_of (fun _ _ _ _ _ => cmpI_ne) (op_tI (fun τ S => by simp only [evE]) q)
          exact ⟨gcW_E (PE.weak (pe_cmpR (op_cmpA C.units C.wd.noEq o) (ihE a p1 e2) (ihE b q1 e3) hm') go), fun _ => gcW_T (PT.weak (pt_cmpR (op_cmpA C.units C.wd.noEq o) (ihE a p1 e2) (ihE b q1 e3) hm') fun σ H R q => tTest_of (go σ H) q)⟩
        · cases h
    · rename_i a op op' b d pos
      split at h
      · cases h
      · rename_i hm
        split at h
        · rename_i o o' p1 q1 r1 e1 e2 e3 e4 e5
          cases h
          have := cpOf_ok e1
          subst this
          have := cpOf_ok e2
          subst this
          have hm' : lastMarks [cOp o, cOp o'] [b, d] = false := by simpa using hm
          exact ⟨PE.weak (pe_chain (op_cmpA C.units C.wd.noEq o) (op_cmpA C.units C.wd.noEq o') (ihE a p1 e3) (ihE b q1 e4) (ihE d r1 e5) hm') fun σ H Q q => chain_st q,
            fun _ => PT.weak (pt_chain (op_cmpA C.units C.wd.noEq o) (op_cmpA C.units C.wd.noEq o') (ihE a p1 e3) (ihE b q1 e4) (ihE d r1 e5) hm') fun σ H R q => tTest_of (fun Q z => chain_st z) q⟩
        · cases h
    · rename_i es pos
      split at h
      · cases h
      · rename_i hi
        split at h
        · rename_i ps e1
          obtain ⟨i1, i2⟩ := sound_and ih (pos := pos) es ps p (by simpa using hi) e1 h
          exact ⟨i1, fun _ => i2.pt⟩
        · cases h
    · rename_i es pos
      split at h
      · cases h
      · rename_i hi
        split at h
        · rename_i ps e1
          obtain ⟨i1, i2⟩ := sound_or ih (pos := pos) es ps p (by simpa using hi) e1 h
          exact ⟨i1, fun _ => i2.pt⟩
        · cases h
    · rename_i t a b pos
      split at h
      · cases h
      · rename_i hi
        split at h
        · rename_i p1 q1 r1 e1 e2 e3
          cases h
          exact ⟨PE.weak (pe_ifExp ((ih t p1 e1).2 (by simpa using hi)) (ihE a q1 e2) (ihE b r1 e3)) fun σ H Q q => ite_st q, fun z => by simp [noIf] at z⟩
        · cases h
    · rename_i es kk pos
      cases e1 : optAll (cpE g n c) es with
      | none => rw [e1] at h; cases h
      | some ps =>
        rw [e1] at h; cases h
        exact mkT (PE.weak (pe_tupN (sound_A C ihE es ps e1)) fun σ H Q q => tTup_st q) (by intro _; rfl)
    · rename_i es pos
      cases e1 : optAll (cpE g n c) es with
      | none => rw [e1] at h; cases h
      | some ps =>
        rw [e1] at h; cases h
        exact mkT (PE.weak (pe_lst (sound_A C ihE es ps e1)) fun σ H Q q => tLst_st q) (by intro _; rfl)
    · cases h; exact mkT (PE.weak pe_dnewK fun σ H Q q => dnew_st q) (by intro _; rfl)
    · cases h
      exact mkT (PE.weak (pe_disp (pps_cons pe_int pe_int pps_nil) rfl rfl (by simp) (by simp)) fun σ H Q q => ddisp_st q) (by intro _; rfl)
    · rename_i a b pos hnc
      split at h
      · rename_i p1 q1 e1 e2
        cases h
        exact mkT (PE.weak (pe_disp (pps_cons (ihE a p1 e1) (ihE b q1 e2) pps_nil) rfl rfl (by simp) (by simp)) fun σ H Q q => dc1_st q) (by intro _; rfl)
      · cases h
    · rename_i a k p1 p2 p3 pos
      cases e1 : cpE g n c a with
      | none => rw [e1] at h; cases h
      | some q1 =>
        rw [e1] at h; cases h
        exact mkT (PE.weak (pe_revA (rev_any (cm := cm)) (ihE a q1 e1)) fun σ H Q q => tUn_of (fun _ _ _ _ => revI_ne) (op_tI (fun τ S => by simp only [evE]) q)) (by intro _; rfl)
    · -- a slice
      rename_i a lo hi p2 pos
      split at h
      · rename_i p1 l u e1 e2 e3
        cases h
        exact mkT (PE.weak (pe_slice (sl_any (cm := cm)) (ihE a p1 e1) (sound_O ihE e2) (sound_O ihE e3)) fun σ H Q q => tSl_st q) (by intro _; rfl)
      · cases h
    · rename_i a b pos hn1 hns
      split at h
      · rename_i p1 q1 e1 e2
        cases h
        exact mkT (PE.weak (pe_ix (ix_any (cm := cm) C.units) (ihE a p1 e1) (ihE b q1 e2) (plainIx e2)) fun σ H Q q => tOp_of (fun _ _ _ _ _ => ixI_ne) (op_tI (fun τ S => by simp only [evE]) q)) (by intro _; rfl)
      · cases h
    · -- a call
      rename_i f fp args pos
      split at h
      · rename_i hp
        rw [Bool.and_eq_true, Bool.and_eq_true] at hp
        obtain ⟨d1, d2, d3⟩ := plain_dbg hp.1.1
        have hgl := C.gl hp.1.2
        split at h
        · rename_i hd
          split at h
          · cases h
          rename_i hot
          have hot' : c.hot = false := by simpa using hot
          obtain ⟨ad, m1, m2, F⟩ := C.wd.fn f hd
          cases e1 : optAll (cpE g n c) args with
          | none =>
            rw [e1] at h
            cases e2 : cpStar (cpE g n c) args with
            | none => simp only [e2] at h; cases h
            | some z =>
              obtain ⟨ps, q1⟩ := z
              simp only [e2, Option.map_some, Option.some.injEq] at h
              subst h
              refine mkT ?_ (by intro _; rfl)
              have go : ∀ σ H Q, tI X.K cm W (evE Γ (.calls f ps q1)) σ H Q → tCallS (spI X.K cm (Γ.call f)) (WE W) (tIs X.K cm W (evA Γ ps q1)) σ H Q := fun σ H Q q => calls_st q
              obtain ⟨hA, hs⟩ := sound_AS ihE args ps q1 e2
              rcases hs with ⟨x, p, rfl, rfl, hx⟩ | ⟨e0, r0, rfl, ⟨p0, hp0⟩, ps', hr0⟩
              · exact PE.weak (pe_callGS1 F (C.room1 hot') C.grd hgl m1 m2 C.tk (ihE x q1 hx) d1 rfl) fun σ H Q q => star1_st (go σ H Q q)
              · exact PE.weak (pe_callGS2 F (C.room1 hot') C.grd hgl m1 m2 C.tk hA d1 (starEach_cons (cpE_star hp0)) (star_any_true _ _ _ hr0)) go
          | some ps =>
            rw [e1] at h; cases h
            refine mkT ?_ (by intro _; rfl)
            have go : ∀ σ H Q, tI X.K cm W (evE Γ (.call f ps)) σ H Q → tCallS (spI X.K cm (Γ.call f)) (WE W) (tIs X.K cm W (evEs Γ ps)) σ H Q := fun σ H Q q => tCall_st (op_tI (fun τ S => by simp only [evE]) q)
            cases args with
            | nil =>
              have : ps = [] := optAll_nil e1
              subst this
              refine gcW_E (PE.weak (pe_callG0 F (C.room1 hot') C.grd hgl m1 m2 C.tk d1) fun σ H Q q => ?_)
              exact tNil_st (go σ H Q q)
            | cons a as =>
              have hA := sound_A C ihE (a :: as) ps e1
              obtain ⟨p1, r1, rfl, h1, h2⟩ := optAll_cons e1
              exact gcW_E (PE.weak (pe_callG F (C.room1 hot') C.grd hgl m1 m2 C.tk hA d1 (starEach_cons (cpE_star h1)) (cpEs_any h2)) go)
        · split at h
          · rename_i hb
            split at h
            · rename_i hi
              subst hi
              split at h
              · rename_i a T pT
                split at h
                · rename_i hT
                  simp only [Bool.and_eq_true, decide_eq_true_eq] at hT
                  obtain ⟨t1, t2, t3⟩ := plain_dbg hT.1.1
                  split at h
                  · rename_i ty p1 e1 e2
                    cases h
                    obtain ⟨k1, k2⟩ := tyOf_ok e1
                    have hTn : PE X (.Name T pT) (tC (.ty (tyN ty))) := pe_bltn (C.gl hT.1.2) (C.wd.blt T hT.2) (u := .type (tyN ty)) (by rw [← k1]; exact tyN_boot ty k2) rfl t3 t1
                    refine mkT (PE.weak (pe_callB (call_isi (X := X)) hgl (C.wd.blt _ hb) (by decide +kernel) (pa_cons (ihE a p1 e2) (pa_cons hTn pa_nil) (starEach_cons (cpE_star e2))) d3 d1 (starEach_cons (cpE_star e2)) rfl) fun σ H Q q => ?_) (by intro _; rfl)
                    have q' : tI X.K cm W (fun τ S => (evE Γ p1 τ S).bind fun x S1 => isiI x ty S1) σ H Q := op_tI (fun τ S => by simp only [evE]) q
                    exact tG.bind (f := fun τ x S1 => isiI x ty S1) q' fun ι1 S1 H1 τ a v r1 rs ra o1 => isi_ok (cm := cm) ty k2 H1 v Q ⟨ι1, S1, a, r1, ra, OutV.of o1 fun _ _ => isiI_ne⟩
                  · cases h
                · split at h
                  · rename_i hT
                    simp only [Bool.and_eq_true, decide_eq_true_eq] at hT
                    obtain ⟨t1, t2, t3⟩ := plain_dbg hT.1.1
                    cases e2 : cpE g n c a with
                    | none => rw [e2] at h; cases h
                    | some p1 =>
                      rw [e2] at h; cases h
                      obtain ⟨Cx', h1, ck⟩ := C.wd.cls T hT.2
                      have hTn : PE X (.Name T pT) (tC (.ref Cx')) := pe_glob (C.gl hT.1.2) ck.mg rfl t1
                      refine mkT (PE.weak (pe_callB (call_isi (X := X)) hgl (C.wd.blt _ hb) (by decide +kernel) (pa_cons (ihE a p1 e2) (pa_cons hTn pa_nil) (starEach_cons (cpE_star e2))) d3 d1 (starEach_cons (cpE_star e2)) rfl) fun σ H Q q => ?_) (by intro _; rfl)
                      have q' : tI X.K cm W (fun τ S => (evE Γ p1 τ S).bind fun x S1 => isoI Γ x T S1) σ H Q := op_tI (fun τ S => by simp only [evE]) q
                      exact tG.bind (f := fun τ x S1 => isoI Γ x T S1) q' fun ι1 S1 H1 τ a v r1 rs ra o1 => iso_R C.wd hT.2 ck.ns r1 ra (OutV.of o1 fun _ _ => isoI_ne)
                  · cases h
              · cases h
            · split at h
              · cases h
              rename_i hot
              have hot' : c.hot = false := by simpa using hot
              split at h
              · rename_i bf a as e1
                cases e2 : optAll (cpE g n c) (a :: as) with
                | none =>
                  rw [e2] at h
                  simp only [] at h
                  split at h
                  · rename_i a' t hr ht
                    cases e3 : cpE g n c a' with
                    | none => rw [e3] at h; cases h
                    | some q1 =>
                      rw [e3] at h; cases h
                      have hn := bfOf_ok e1
                      subst hn
                      exact sound_rgs (k := k) (W := W) (Γ := Γ) (cm := cm) C (C.calm hot') hgl (C.wd.blt _ hb) hr ht e3 (ihE a' q1 e3) 
                  · split at h
                    · rename_i a' hr hx0
                      cases e3 : cpE g n c a' with
                      | none => rw [e3] at h; cases h
                      | some q1 =>
                        rw [e3] at h; cases h
                        have hn := bfOf_ok e1
                        subst hn
                        exact sound_lset (k := k) (W := W) (Γ := Γ) (cm := cm) C (C.calm hot') hgl (C.wd.blt _ hb) hr e3 (ihE a' q1 e3)
                    · cases h
                | some ps =>
                  rw [e2] at h; cases h
                  have hA := sound_A C ihE (a :: as) ps e2
                  obtain ⟨p1, r1, rfl, h1, h2⟩ := optAll_cons e2
                  have hn := bfOf_ok e1
                  subst hn
                  have go : ∀ σ H Q, tI X.K cm W (evE Γ (.blt bf (p1 :: r1))) σ H Q → tCB (rIl X.K cm (bltI bf)) (tIs X.K cm W (evEs Γ (p1 :: r1))) σ H Q := fun σ H Q q => tCB_st (fun _ _ _ _ => bltI_ne) (settle_st (op_tI (fun τ S => by simp only [evE]) q))
                  have hbo := bN_boot bf
                  have hR := blt_ok (cm := cm) (C.calm hot') C.grd (by have := C.units; omega) bf
                  have hst := starEach_cons (es := as) (env := X.env) (cpE_star h1)
                  refine mkT (PE.weak ?_ go) (by intro _; rfl)
                  cases bf
                  case str => exact pe_callTy hR hgl (C.wd.blt _ hb) hbo hA d3 d1 hst (cpEs_any h2)
                  case int => exact pe_callTy hR hgl (C.wd.blt _ hb) hbo hA d3 d1 hst (cpEs_any h2)
                  case list => exact pe_callTy hR hgl (C.wd.blt _ hb) hbo hA d3 d1 hst (cpEs_any h2)
                  case tuple => exact pe_callTy hR hgl (C.wd.blt _ hb) hbo hA d3 d1 hst (cpEs_any h2)
                  all_goals exact pe_callB hR hgl (C.wd.blt _ hb) hbo hA d3 d1 hst (cpEs_any h2)
              · cases h
          · cases h
      · -- C(..)
        split at h
        · cases h
        rename_i hot
        have hot' : c.hot = false := by simpa using hot
        split at h
        · rename_i q0 e0
          have hf := ihE _ _ e0
          split at h
          · rename_i ps e1
            cases h
            refine mkT ?_ (by intro _; rfl)
            cases args with
            | nil =>
              have : ps = [] := optAll_nil e1
              subst this
              refine gcW_E (PE.weak (pe_newG0 (k := k) (W := W) hf (C.room hot') C.grd C.tk) fun σ H Q q => ?_)
              have z := new_st C.wd q
              unfold tNewG at z ⊢
              obtain ⟨ι, S, τ, rl, rs, o⟩ := z
              exact ⟨ι, S, τ, rl, rs, Out.imp o fun v H1 ⟨Cc, sp, h1, h2, h3⟩ => ⟨Cc, sp, h1, h2, tNil_st h3⟩⟩
            | cons a as =>
              have hA := sound_A C ihE (a :: as) ps e1
              obtain ⟨p1, r1, rfl, h1, h2⟩ := optAll_cons e1
              exact gcW_E (PE.weak (pe_newG (k := k) (W := W) hf (C.room hot') C.grd C.tk hA (starEach_cons (cpE_star h1)) (cpEs_any h2)) fun σ H Q q => new_st C.wd q)
          · cases e2 : cpStar (cpE g n c) args with
            | none => rw [e2] at h; cases h
            | some z =>
              obtain ⟨ps, q1⟩ := z
              simp only [e2, Option.map_some, Option.some.injEq] at h
              subst h
              refine mkT ?_ (by intro _; rfl)
              obtain ⟨hA, hs⟩ := sound_AS ihE args ps q1 e2
              rcases hs with ⟨x, p, rfl, rfl, hx⟩ | ⟨e0', r0, rfl, ⟨p0, hp0⟩, ps', hr0⟩
              · refine PE.weak (pe_newGS1 (k := k) (W := W) hf (C.room hot') C.grd C.tk (ihE x q1 hx) rfl) fun σ H Q q => ?_
                have z := news_st C.wd q
                obtain ⟨ι, S, τ, rl, rs, o⟩ := z
                exact ⟨ι, S, τ, rl, rs, Out.imp o fun v H1 ⟨Cc, sp, h1, h2, h3⟩ => ⟨Cc, sp, h1, h2, star1_st h3⟩⟩
              · exact PE.weak (pe_newGS2 (k := k) (W := W) hf (C.room hot') C.grd C.tk hA (starEach_cons (cpE_star hp0)) (star_any_true _ _ _ hr0)) fun σ H Q q => news_st C.wd q
        · cases h
    · -- o.m(..)
      rename_i o m apos args pos
      split at h
      · rename_i hm
        simp only [Bool.and_eq_true, decide_eq_true_eq] at hm
        obtain ⟨⟨hl, hs⟩, hlen⟩ := hm
        split at h
        · rename_i hmm
          split at h
          · cases h
          rename_i hot
          have hot' : c.hot = false := by simpa using hot
          split at h
          · rename_i p1 ps e1 e2
            cases h
            refine mkT ?_ (by intro _; rfl)
            cases args with
            | nil =>
              have : ps = [] := optAll_nil e2
              subst this
              exact gcW_E (PE.weak (pe_metG0 (k := k) (W := W) (ihE o p1 e1) (C.room1 hot') C.grd C.tk (noSup_base hs) hl) fun σ H Q q => met_st0 C.wd hmm.2 q)
            | cons a as =>
              have hA := sound_A C ihE (a :: as) ps e2
              obtain ⟨p2, r2, rfl, h1, h2⟩ := optAll_cons e2
              exact gcW_E (PE.weak (pe_metG (k := k) (W := W) (ihE o p1 e1) (C.room1 hot') C.grd C.tk hA (starEach_cons (cpE_star h1)) (cpEs_any h2) (noSup_base hs) hlen hl) fun σ H Q q => met_st C.wd hmm.2 q)
          · cases h
        · split at h
          · rename_i al0 al1 a
            split at h
            · rename_i hm1
              simp only [Bool.or_eq_true, decide_eq_true_eq] at hm1
              split at h
              · rename_i p1 q1 e1 e2
                cases h
                have hA := sound_A C ihE [a] [q1] (by simp only [optAll, e2])
                have hst := starEach_cons (es := []) (env := X.env) (cpE_star e2)
                have hfw : ((backTo pos (starEach [a] X.env)).all (fun x => !x.1) && (backToKw pos (keywordEach [] X.env)).all (fun x => x.1.isSome) && decide ([a].length + ([] : List Keyword).length + (if ([] : List Keyword).isEmpty then 0 else 1) < 30)) = true := by
                  rw [hst]; rfl
                rcases hm1 with ((rfl | rfl) | rfl) | rfl
                · exact mkT (gcW_E (PE.weak (pe_bmL (ihE o p1 e1) hA (noSup_base hs) hfw hl hst rfl) fun σ H Q q => mth_st PySem.F.slot_list_append PySem.F.type_list_append mt_append mth_append' q)) (by intro _; rfl)
                · exact mkT (gcW_E (PE.weak (pe_bmL (ihE o p1 e1) hA (noSup_base hs) hfw hl hst rfl) fun σ H Q q => mth_st PySem.F.slot_list_index PySem.F.type_list_index (mt_indexA (cm := cm) C.units) (fun H x y Q ⟨ι, S, a, b, h1, h2, h3, h4⟩ => ⟨ι, S, a, b, y, rfl, h1, h2, h3, h4⟩) q)) (by intro _; rfl)
                · exact mkT (gcW_E (PE.weak (pe_bmL (ihE o p1 e1) hA (noSup_base hs) hfw hl hst rfl) fun σ H Q q => mth_st PySem.F.slot_list_extend PySem.F.type_list_extend mt_extend mth_extend' q)) (by intro _; rfl)
                · exact mkT (gcW_E (PE.weak (pe_bmL (ihE o p1 e1) hA (noSup_base hs) hfw hl hst rfl) fun σ H Q q => mth_st PySem.F.slot_list_pop PySem.F.type_list_pop mt_popAt mth_pop' q)) (by intro _; rfl)
              · cases h
            · cases h
          · cases h
      · cases h
    · -- a comprehension
      rename_i elt tg iter ifs scope pos
      split at h
      · rename_i hb
        rw [Bool.and_eq_true, Bool.and_eq_true] at hb
        have hot' : c.hot = false := by simpa using hb.2
        split at h
        · rename_i t it fs p1 e1 e2 e3 e4
          split at h
          · rename_i hz
            simp only [Bool.and_eq_true, decide_eq_true_eq] at hz
            obtain ⟨⟨hz1, hz2⟩, hz3⟩ := hz
            cases h
            have hT : ∀ (s : Shared) (H : Hp) (D : Addr) (cl : List (Str × Addr)) (fp : List Addr), PTs (X.blk s H scope (compEnvC scope cl D X.env) fp) ifs (tTs X.K cm W0 (evTs Γ fs)) := fun s H D cl fp => by
              have CB := C.blk hot' scope s H D cl fp
              match ifs, fs, e3, hz1, hz2 with
              | [], fs, e3, _, _ =>
                rw [optAll_nil e3]
                refine ⟨fun pins s σ H Q I q => pts_nil.run pins s σ H Q I ?_⟩
                obtain ⟨ι, S, τ, rl, rs, o⟩ := q
                simp only [evTs] at o
                exact o ι H true Step.refl rl rfl
              | [x], fs, e3, _, hz2 =>
                obtain ⟨p2, r2, rfl, h1, h2⟩ := optAll_cons e3
                rw [optAll_nil h2]
                simp only [List.all_cons, List.all_nil, Bool.and_true] at hz2
                have hx := (IH _ _ W0 k x p2 CB h1).2 hz2
                refine ⟨fun pins s σ H Q I q => (pts_one hx).run pins s σ H Q I ?_⟩
                obtain ⟨ι, S, τ, rl, rs, o⟩ := q
                refine ⟨ι, S, τ, rl, rs, ?_⟩
                simp only [evTs] at o
                simp only [asB]
                cases e5 : evE Γ p2 τ S with
                | bad => rw [e5] at o; exact o
                | exc c S1 => rw [e5] at o; exact o
                | ok a S1 =>
                  rw [e5] at o
                  cases a with
                  | bl b => cases b <;> exact o
                  | non => exact o
                  | int b => exact o
                  | str b => exact o
                  | tup b => exact o
                  | ref b => exact o
                  | cls b => exact o
              | x :: y :: r, fs, e3, hz1, _ =>
                have := optAll_len e3
                simp only [List.length_cons] at this
                omega
            refine mkT (PE.weak (pe_lc (own := ownOf c.N scope) (C.calm hot') C.nd (sound_It C ihE e2) (by rw [C.N, C.sc]; exact blkOk_by hb.1.1) (fun s H D cl fp => sound_T (PgOk.blk C hot' scope s H D cl fp) n tg t e1) hT
              (fun s H D cl fp => (IH _ _ W0 k elt p1 (C.blk hot' scope s H D cl fp) e4).1) (fold_no hb.1.2)) fun σ H Q q => tLc_of (cpT_tp e1) (fun i hi => ?_) q) (by intro _; rfl)
            have := List.all_eq_true.mp hz3 i hi
            simpa using this
          · cases h
        · cases h
      · cases h
    · cases h
end Wg
/-! WgO: the readings of statements. -/
namespace Wg
open PySem PySem.Spec PyProof.Rows L2
section
variable (K : PySem.W.Frag) (cm : Cm)
def OutS (W : WX) (ι : Nat → Addr) (S : Sto) (H : Hp) (r : Rz) (D : Ends) : Prop := match r with
  | .next τ' S' => ∀ ι' H' σ', Step ι S H ι' S' H' → Rel K cm ι' S' H' → RSl K ι' S'.length H' τ' σ' → D.nx σ' H'
  | .ret v S' => ∀ ι' H' x, Step ι S H ι' S' H' → Rel K cm ι' S' H' → RV K ι' S'.length H' v x → D.rt x H'
  | .brk τ' S' => ∀ ι' H' σ', Step ι S H ι' S' H' → Rel K cm ι' S' H' → RSl K ι' S'.length H' τ' σ' → D.bk σ' H'
  | .cnt τ' S' => ∀ ι' H' σ', Step ι S H ι' S' H' → Rel K cm ι' S' H' → RSl K ι' S'.length H' τ' σ' → D.ct σ' H'
  | .exc c τ' S' => ∀ ι' H' σ', Step ι S H ι' S' H' → Rel K cm ι' S' H' → RSl K ι' S'.length H' τ' σ' → ∀ C, cm c = some C → W (.ref C) none σ' H'
  | .bad => False
def tIS (W : WX) (m : Sl → Sto → Rz) : TS := fun D σ H => ∃ ι S τ, Rel K cm ι S H ∧ RSl K ι S.length H τ σ ∧ OutS K cm W ι S H (m τ S) D
end
section
variable {K : PySem.W.Frag} {cm : Cm} {W : WX} {ι ι1 : Nat → Addr} {S S1 : Sto} {H H1 : Hp} {σ : L2.St} {D : Ends}
theorem OutS.shift {r : Rz} (h : OutS K cm W ι S H r D) (r1 : Rel K cm ι1 S1 H1) (st : Step ι S H ι1 S1 H1) : OutS K cm W ι1 S1 H1 r D := by
  cases r with
  | next τ S' => exact fun ι' H' σ' st' => h ι' H' σ' (Step.trans r1 st st')
  | ret v S' => exact fun ι' H' σ' st' => h ι' H' σ' (Step.trans r1 st st')
  | brk τ S' => exact fun ι' H' σ' st' => h ι' H' σ' (Step.trans r1 st st')
  | cnt τ S' => exact fun ι' H' σ' st' => h ι' H' σ' (Step.trans r1 st st')
  | exc c τ S' => exact fun ι' H' σ' st' => h ι' H' σ' (Step.trans r1 st st')
  | bad => exact h
/-- an expression, then what follows -/
theorem tIS.bind {α β : Type} {RA : (Nat → Addr) → Sto → Hp → α → β → Prop} {m : Sl → Sto → Rs α} {f : Sl → α → Sto → Rz} {R : β → Hp → Prop} (h : tIS K cm W (fun τ S => (m τ S).thn τ (f τ)) D σ H)
    (go : ∀ ι1 S1 H1 τ a v, Rel K cm ι1 S1 H1 → RSl K ι1 S1.length H1 τ σ → RA ι1 S1 H1 a v → OutS K cm W ι1 S1 H1 (f τ a S1) D → R v H1) : tG K cm W RA m σ H R := by
  obtain ⟨ι, S, τ, rl, rs, o⟩ := h
  refine ⟨ι, S, τ, rl, rs, ?_⟩
  dsimp only at o
  cases e : m τ S with
  | bad => rw [e] at o; exact o
  | exc c S1 => rw [e] at o; exact fun ι1 H1 st r1 C hC => o ι1 H1 σ st r1 (rs.step rl st) C hC
  | ok a S1 => rw [e] at o; exact fun ι1 H1 v st r1 ra => go ι1 S1 H1 τ a v r1 (rs.step rl st) ra (OutS.shift o r1 st)
theorem tIS.test {m : Sl → Sto → Rs IV} {f : Sl → Bool → Sto → Rz} {R : Bool → Hp → Prop} (h : tIS K cm W (fun τ S => (m τ S).thn τ fun v S1 => match v with | .bl b => f τ b S1 | _ => .bad) D σ H)
    (go : ∀ ι1 S1 H1 τ b, Rel K cm ι1 S1 H1 → RSl K ι1 S1.length H1 τ σ → OutS K cm W ι1 S1 H1 (f τ b S1) D → R b H1) : tT K cm W m σ H R := by
  obtain ⟨ι, S, τ, rl, rs, o⟩ := h
  refine ⟨ι, S, τ, rl, rs, ?_⟩
  dsimp only at o ⊢
  unfold asB
  cases e : m τ S with
  | bad => rw [e] at o; exact o
  | exc c S1 => rw [e] at o; exact fun ι1 H1 st r1 C hC => o ι1 H1 σ st r1 (rs.step rl st) C hC
  | ok a S1 =>
    rw [e] at o
    dsimp only [Rs.bind, Rs.thn] at o ⊢
    cases a with
    | bl b => exact fun ι1 H1 b' st r1 eb => by cases eb; exact go ι1 S1 H1 τ b r1 (rs.step rl st) (OutS.shift o r1 st)
    | non => exact o.elim
    | int i => exact o.elim
    | str i => exact o.elim
    | tup i => exact o.elim
    | ref i => exact o.elim
    | cls i => exact o.elim
theorem tIS.same {m m' : Sl → Sto → Rz} (h : tIS K cm W m D σ H) (e : ∀ τ S, m τ S = m' τ S) : tIS K cm W m' D σ H := by
  have : m = m' := funext fun τ => funext fun S => e τ S
  rw [← this]; exact h
theorem seq_st {m m' : Sl → Sto → Rz} (h : tIS K cm W (fun τ S => (m τ S).seq m') D σ H) : tSeq (tIS K cm W m) (tIS K cm W m') D σ H := by
  obtain ⟨ι, S, τ, rl, rs, o⟩ := h
  refine ⟨ι, S, τ, rl, rs, ?_⟩
  dsimp only at o
  cases e : m τ S with
  | next τ1 S1 => rw [e] at o; exact fun ι1 H1 σ1 st r1 rs1 => ⟨ι1, S1, τ1, r1, rs1, OutS.shift o r1 st⟩
  | ret v S1 => rw [e] at o; exact o
  | brk τ1 S1 => rw [e] at o; exact o
  | cnt τ1 S1 => rw [e] at o; exact o
  | exc c τ1 S1 => rw [e] at o; exact o
  | bad => rw [e] at o; exact o
theorem next_st (h : tIS K cm W (fun τ S => .next τ S) D σ H) : tNext D σ H := by
  obtain ⟨ι, S, τ, rl, rs, o⟩ := h
  exact o ι H σ Step.refl rl rs
/-! ### while -/
section
open Classical
theorem whileC_spec {test : Sl → Sto → Rs IV} {body : Sl → Sto → Rz} {τ : Sl} {S : Sto} (h : whileC test body τ S ≠ .bad) : ∃ n, whileN test body n τ S = some (whileC test body τ S) := by
  unfold whileC at h ⊢
  by_cases hx : ∃ n r, whileN test body n τ S = some r
  · rw [dif_pos hx]
    exact ⟨hx.choose, hx.choose_spec.choose_spec⟩
  · rw [dif_neg hx] at h
    exact absurd rfl h
end
theorem while_st {H0 : Hp} {test : Sl → Sto → Rs IV} {body : Sl → Sto → Rz} (h : tIS K cm W (whileC test body) D σ H0) : tWhile (tT K cm W test) (tIS K cm W body) D σ H0 := by
  obtain ⟨ι0, S0, τ0, r0, rs0, o0⟩ := h
  have hb : whileC test body τ0 S0 ≠ .bad := fun e => by rw [e] at o0; exact o0
  obtain ⟨n0, e0⟩ := whileC_spec hb
  generalize whileC test body τ0 S0 = r at o0 e0
  refine ⟨fun m σ H => ∃ ι S τ, Step ι0 S0 H0 ι S H ∧ Rel K cm ι S H ∧ RSl K ι S.length H τ σ ∧ whileN test body m τ S = some r, ⟨n0, ι0, S0, τ0, Step.refl, r0, rs0, e0⟩, ?_⟩
  rintro m σ1 H1 ⟨ι, S, τ, st, rl, rs, e⟩
  cases m with
  | zero => simp [whileN] at e
  | succ m =>
    simp only [whileN] at e
    refine ⟨ι, S, τ, rl, rs, ?_⟩
    dsimp only
    unfold asB
    cases e1 : test τ S with
    | bad => rw [e1] at e; cases e; exact o0
    | exc c S1 =>
      rw [e1] at e; cases e
      exact fun ι1 H2 st1 r1 C hC => o0 ι1 H2 σ1 (Step.trans rl st st1) r1 (rs.step rl st1) C hC
    | ok a S1 =>
      rw [e1] at e
      dsimp only [Rs.bind]
      cases a with
      | bl b =>
        intro ι1 H2 b' st1 r1 eb
        cases eb
        have rs1 := rs.step rl st1
        have st2 := Step.trans rl st st1
        cases b with
        | false =>
          cases e
          simp only [Bool.false_eq_true, if_false]
          exact o0 ι1 H2 σ1 st2 r1 rs1
        | true =>
          simp only [if_true]
          dsimp only at e
          refine ⟨fun σ' H' => ∃ ι S τ, Step ι0 S0 H0 ι S H' ∧ Rel K cm ι S H' ∧ RSl K ι S.length H' τ σ' ∧ whileN test body m τ S = some r, fun σ' H' q => ⟨m, Nat.lt_succ_self _, q⟩, ι1, S1, τ, r1, rs1, ?_⟩
          cases e2 : body τ S1 with
          | next τ2 S2 => rw [e2] at e; exact fun ι2 H3 σ2 st3 r2 rs2 => ⟨ι2, S2, τ2, Step.trans r1 st2 st3, r2, rs2, e⟩
          | cnt τ2 S2 => rw [e2] at e; exact fun ι2 H3 σ2 st3 r2 rs2 => ⟨ι2, S2, τ2, Step.trans r1 st2 st3, r2, rs2, e⟩
          | brk τ2 S2 => rw [e2] at e; cases e; exact fun ι2 H3 σ2 st3 r2 rs2 => o0 ι2 H3 σ2 (Step.trans r1 st2 st3) r2 rs2
          | ret v S2 => rw [e2] at e; cases e; exact fun ι2 H3 x st3 r2 rv => o0 ι2 H3 x (Step.trans r1 st2 st3) r2 rv
          | exc c τ2 S2 => rw [e2] at e; cases e; exact fun ι2 H3 σ2 st3 r2 rs2 => o0 ι2 H3 σ2 (Step.trans r1 st2 st3) r2 rs2
          | bad => rw [e2] at e; cases e; exact o0
      | non => cases e; exact o0
      | int i => cases e; exact o0
      | str i => cases e; exact o0
      | tup i => cases e; exact o0
      | ref i => cases e; exact o0
      | cls i => cases e; exact o0
/-! ### for -/
theorem for_st {bb : Bool} {it : Sl → Sto → Rs Walk} {tg : Tg} (hbb : bb = true → ∃ ts, tg = .tp ts) {body : Sl → Sto → Rz} (h : tIS K cm W (fun τ S => (it τ S).thn τ fun wk S1 => forGo body tg wk.held wk.items τ S1) D σ H) : tFor (tW bb K cm W it) (gTg K tg) (tIS K cm W body) D σ H := by
  refine tIS.bind (f := fun τ wk S1 => forGo body tg wk.held wk.items τ S1) h fun ι0 S0 H0 τ0 wk J r0 rs0 hw o0 => ?_
  refine ⟨fun i m σ H => ∃ ι S τ, Step ι0 S0 H0 ι S H ∧ Rel K cm ι S H ∧ RSl K ι S.length H τ σ ∧ m = wk.items.length - i ∧ i ≤ wk.items.length ∧ OutS K cm W ι0 S0 H0 (forGo body tg wk.held (wk.items.drop i) τ S) D,
    ⟨_, ι0, S0, τ0, Step.refl, r0, rs0, rfl, Nat.zero_le _, by rw [List.drop_zero]; exact o0⟩, ?_⟩
  rintro i m σ1 H1 ⟨ι, S, τ, st, rl, rs, rfl, hi, o⟩
  by_cases hlt : i < wk.items.length
  · rw [List.drop_eq_getElem_cons hlt] at o
    simp only [forGo] at o
    split at o
    · rename_i hh
      refine .inr ⟨hw.go i ι S H1 st rl hh hlt, fun σ' H' => ∃ ι S τ, Step ι0 S0 H0 ι S H' ∧ Rel K cm ι S H' ∧ RSl K ι S.length H' τ σ' ∧ OutS K cm W ι0 S0 H0 (forGo body tg wk.held (wk.items.drop (i + 1)) τ S) D,
        fun σ' H' ⟨ι', S', τ', a, b, c, d⟩ => ⟨wk.items.length - (i + 1), by omega, ι', S', τ', a, b, c, rfl, hlt, d⟩, fun x H' hy => ?_⟩
      obtain ⟨rA, stA, rvx⟩ := hw.yld i ι S H1 x H' _ st rl hh (List.getElem?_eq_getElem hlt) hy
      cases e1 : setT tg wk.items[i] τ with
      | none => rw [e1] at o; exact o.elim
      | some τ1 =>
        rw [e1] at o
        have st1 := Step.trans rl st stA
        refine setT_okW tg hbb _ x τ τ1 σ1 e1 rvx (rs.step rl stA) _ fun σ2 rs2 _ => ⟨ι, S, τ1, rA, rs2, ?_⟩
        cases e2 : body τ1 S with
        | next τ2 S2 => simp only [e2] at o; exact fun ι2 H3 σ2 st3 r2 rs2 => ⟨ι2, S2, τ2, Step.trans rA st1 st3, r2, rs2, o⟩
        | cnt τ2 S2 => simp only [e2] at o; exact fun ι2 H3 σ2 st3 r2 rs2 => ⟨ι2, S2, τ2, Step.trans rA st1 st3, r2, rs2, o⟩
        | brk τ2 S2 => simp only [e2] at o; exact fun ι2 H3 σ2 st3 r2 rs2 => o ι2 H3 σ2 (Step.trans rA st1 st3) r2 rs2
        | ret v S2 => simp only [e2] at o; exact fun ι2 H3 x st3 r2 rv => o ι2 H3 x (Step.trans rA st1 st3) r2 rv
        | exc c τ2 S2 => simp only [e2] at o; exact fun ι2 H3 σ2 st3 r2 rs2 => o ι2 H3 σ2 (Step.trans rA st1 st3) r2 rs2
        | bad => simp only [e2] at o; exact o
    · exact o.elim
  · have e : i = wk.items.length := by omega
    subst e
    rw [List.drop_length] at o
    simp only [forGo] at o
    split at o
    · rename_i hh
      exact .inl ⟨hw.stop _ ι S H1 st rl hh (Nat.le_refl _), o ι H1 σ1 st rl rs⟩
    · exact o.elim
end
end Wg
/-! WgP: from the model's statements to ours. -/
namespace Wg
open PySem PySem.Spec PyProof.Rows L2
def notComp : Expr → Bool
  | .ListComp _ _ _ _ => false
  | .SetComp _ _ _ _ => false
  | .DictComp _ _ _ _ _ => false
  | _ => true
def notTup : Expr → Bool
  | .Tuple _ _ _ => false
  | _ => true
def isFn (c : CC) : Bool := match c.sc.kind with
  | .function => true
  | _ => false
def locK (c : CC) (x : Str) : Bool := match c.sc.names.lookup x with
  | some .local => true
  | _ => false
def starE : Expr → Bool
  | .Starred _ _ => true
  | _ => false
/-- x, y = a, b is stored from the right -/
def parC (c : CC) (x : Str) (px : Pos) (y : Str) (py : Pos) (a b : Expr) : Bool :=
  isFn c && locK c x && locK c y && (py.line == px.line) && !decide (x = y) && !starE a && !starE b && !(foldedForSure 8 a && foldedForSure 8 b) && !(constantsAlone 8 a && constantsAlone 8 b) && !c.hot
def par3C (c : CC) (x : Str) (px : Pos) (y : Str) (py : Pos) (z : Str) (pz : Pos) (a b d : Expr) : Bool :=
  isFn c && locK c x && locK c y && locK c z && (py.line == px.line) && (pz.line == px.line) && !decide (x = y) && !decide (x = z) && !decide (y = z) && !starE a && !starE b && !starE d && !(foldedForSure 8 a && (foldedForSure 8 b && foldedForSure 8 d)) && !(constantsAlone 8 a && (constantsAlone 8 b && constantsAlone 8 d)) && !c.hot
/-- a comprehension whose value goes to the name at once -/
def swC (c : CC) (x : Str) (px : Pos) (scope : Scope) (pos : Pos) : Bool :=
  isFn c && locK c x && (px.line == pos.line) && !(scope.names.any fun p => p.1 == x && (p.2 == .local || p.2 == .cell))
/-- the except clauses; f: a suite's statements -/
def cpH (g : GI) (c : CC) (f : Stmt → Option Sm) : List ExceptHandler → Option (List (Str × List Sm))
  | [] => some []
  | .ExceptHandler (some (.Name x _)) none (b :: su) _ :: r => if plainN x && isGl c x && decide (x ∈ g.exc) then (match optAll f (b :: su), cpH g c f r with
    | some u, some l => some ((x, u) :: l)
    | _, _ => none) else none
  | _ :: _ => none
def cpS (g : GI) : Nat → CC → Stmt → Option Sm
  | 0, _, _ => none
  | n + 1, c, st => match st with
    | .Expr e _ => if notComp e then (cpE g n c e).map .expr else none
    | .Return (some e) _ => (cpE g n c e).map .ret
    | .Return none _ => some .retN
    | .Pass _ => some .pass
    | .Break _ => some .brk
    | .Continue _ => some .cnt
    | .Assign [.Name x px] e _ => if notComp e then (match cpTn c x, cpE g n c e with
        | some i, some p => some (.set (.nm i) p)
        | _, _ => none) else (match e with
          | .ListComp elt [⟨tg, iter, ifs, 0⟩] scope pos => if swC c x px scope pos then (match cpTn c x, cpE g n c (.ListComp elt [⟨tg, iter, ifs, 0⟩] scope pos) with
            | some i, some p => some (.set (.nm i) p)
            | _, _ => none) else if locK c x then none else (match cpTn c x, cpE g n c (.ListComp elt [⟨tg, iter, ifs, 0⟩] scope pos) with
            | some i, some p => some (.set (.nm i) p)
            | _, _ => none)
          | _ => none)
    | .Assign [.Tuple [.Name x px, .Name y py] _ _] (.Tuple [a, b] _ _) _ => if parC c x px y py a b then (match cpTn c x, cpTn c y, cpE g n c a, cpE g n c b with
        | some i, some j, some p, some q => some (.par i j p q)
        | _, _, _, _ => none) else if !(locK c x && locK c y) && !c.hot then (match cpTn c x, cpTn c y, cpE g n c a, cpE g n c b with
        | some i, some j, some p, some q => some (.set (.tp [.nm i, .nm j]) (.tup [p, q]))
        | _, _, _, _ => none) else none
    | .Assign [.Tuple [.Name x px, .Name y py, .Name z pz] _ _] (.Tuple [a, b, d] _ _) _ => if par3C c x px y py z pz a b d then (match cpTn c x, cpTn c y, cpTn c z, cpE g n c a, cpE g n c b, cpE g n c d with
        | some i, some j, some l, some p, some q, some r => some (.par3 i j l p q r)
        | _, _, _, _, _, _ => none) else none
    | .Assign [.Tuple ts k p] e _ => if notComp e && notTup e then (match cpT n c (.Tuple ts k p), cpE g n c e with
        | some t, some p => some (.set t p)
        | _, _ => none) else none
    | .Assign [.Subscript o i _] e _ => if notComp e then (match cpE g n c o, cpE g n c i, cpE g n c e with
        | some p, some q, some r => some (.sub p q r)
        | _, _, _ => none) else none
    | .Assign [.Attribute o f _] e _ => if notComp e && decide (f ∈ g.atts) && !c.hot then (match cpE g n c o, cpE g n c e with
        | some p, some q => some (.fld p f q)
        | _, _ => none) else none
    | .AugAssign (.Attribute o f _) op e _ => if decide (f ∈ g.atts) then (match cpE g n c o, opOf op, cpE g n c e with
        | some p, some .add, some q => some (.fldaug p f .add q)
        | _, _, _ => none) else none
    | .AugAssign (.Name x _) op e _ => match cpTn c x, opOf op, cpE g n c e with
        | some i, some .add, some p => some (.aug i .add p)
        | some i, some .sub, some p => some (.aug i .sub p)
        | _, _, _ => none
    | .If t a b _ => if noIf t then (match cpE g n c t, optAll (cpS g n c) a, optAll (cpS g n c) b with
        | some p, some q, some r => some (.cond p q r)
        | _, _, _ => none) else none
    | .While t b [] _ => if noIf t && !c.hot then (match cpE g n c t, optAll (cpS g n c) b with
        | some p, some q => some (.whil p q)
        | _, _ => none) else none
    | .For tg it b [] _ => if noFold it && !c.hot then (match cpT n c tg, cpIt (cpE g n c) g c tg it, optAll (cpS g n c) b with
        | some t, some i, some q => some (.for t i q)
        | _, _, _ => none) else none
    | .Raise (some (.Call (.Name x _) [.Constant (.str _) _ _] [] _)) none _ => if plainN x && isGl c x && decide (x ∈ g.exc) && !c.hot then some (.raise x) else none
    | .Try b (h :: hs) [] [] _ => if c.hot then none else match optAll (cpS g n c) b, cpH g c (cpS g n ⟨c.N, c.sc, true⟩) (h :: hs) with
        | some q, some l => some (.tryx q l)
        | _, _ => none
    | _ => none
/-! ### side conditions -/
theorem swaps_no {e : Expr} {t : Option Expr} {l : Nat} {env : Env} (h : notComp e = true) : swapsWith e t l env = pure false := by
  cases e <;> first | rfl | simp [notComp] at h
theorem sole_no {e t : Expr} {l : Nat} {env : Env} (h : notComp e = true) : swapsWithSole [t] e l env = pure false := by
  unfold swapsWithSole
  exact swaps_no h
theorem stores_no {t e : Expr} {env : Env} (h : notTup e = true) : swappedStores [t] e env = pure none := by
  cases e <;> first | (cases t <;> rfl) | simp [notTup] at h
theorem isFn_ok {c : CC} (h : isFn c = true) : c.sc.kind = .function := by
  unfold isFn at h
  split at h
  · assumption
  · cases h
theorem locK_ok {c : CC} {x : Str} (h : locK c x = true) : c.sc.names.lookup x = some .local := by
  unfold locK at h
  split at h
  · assumption
  · cases h
theorem locK_no {c : CC} {x : Str} {env : Env} (hs : env.scope = c.sc) (h : locK c x = false) : (env.kindOf x == some .local) = false := by
  have e : env.kindOf x = c.sc.names.lookup x := by rw [← hs]; rfl
  rw [e]
  unfold locK at h
  cases q : c.sc.names.lookup x with
  | none => rfl
  | some k => rw [q] at h; cases k <;> first | rfl | cases h
theorem cell_ok {c : CC} {x y : Str} {px py pt p2 : Pos} {a b : Expr} {kt k2 : Nat} {env : Env} (hs : env.scope = c.sc) (h : (!(locK c x && locK c y)) = true) :
    swappedStores [.Tuple [.Name x px, .Name y py] kt pt] (.Tuple [a, b] k2 p2) env = pure none := by
  simp only [swappedStores]
  split
  · rfl
  split
  · rfl
  have hl : ([Expr.Name x px, Expr.Name y py].filterMap fun
    | .Name id pos => if env.kindOf id == some .local && pos.line == (([Expr.Name x px, Expr.Name y py].head?.map (·.pos.line)).getD 0) then some id else none
    | _ => none).length ≠ 2 := by
    simp only [Bool.not_eq_true', Bool.and_eq_false_iff] at h
    simp only [List.filterMap_cons, List.filterMap_nil]
    rcases h with h | h
    · rw [locK_no hs h]
      simp only [Bool.false_and, Bool.false_eq_true, if_false]
      split <;> simp
    · rw [locK_no hs h]
      simp only [Bool.false_and, Bool.false_eq_true, if_false]
      split <;> simp
  rw [if_pos ?_]
  rw [Bool.or_eq_true]
  exact .inl (bne_iff_ne.mpr hl)
theorem par_ok {c : CC} {x y : Str} {px py pt p2 : Pos} {a b : Expr} {kt k2 : Nat} {env : Env} (hs : env.scope = c.sc) (h : parC c x px y py a b = true) :
    swappedStores [.Tuple [.Name x px, .Name y py] kt pt] (.Tuple [a, b] k2 p2) env = pure (some [x, y]) := by
  simp only [parC, Bool.and_eq_true, Bool.not_eq_true', decide_eq_false_iff_not, beq_iff_eq] at h
  obtain ⟨⟨⟨⟨⟨⟨⟨⟨⟨h1, h2⟩, h3⟩, h4⟩, h5⟩, h6⟩, h7⟩, h8⟩, h9⟩, h10⟩ := h
  have k1 : env.kindOf x = some .local := by show env.scope.names.lookup x = _; rw [hs]; exact locK_ok h2
  have k2 : env.kindOf y = some .local := by show env.scope.names.lookup y = _; rw [hs]; exact locK_ok h3
  have kb : env.blockKind = .function := by unfold Env.blockKind; rw [hs, isFn_ok h1]; rfl
  have dup : ([x, y] : List Str).eraseDups.length = 2 := by
    have : (y == x) = false := by simpa using fun e => h5 e.symm
    simp [List.eraseDups_cons, List.filter, this]
  simp only [swappedStores, kb, k1, k2, Expr.pos, h4, List.head?, Option.map_some, Option.getD_some, List.filterMap, List.any, List.all, h8, h9, Bool.and_true, beq_self_eq_true, if_true, dup, List.length_cons, List.length_nil]
  rw [if_neg (by simp), if_neg ?_, if_neg (by simp)]
  · rfl
  · intro hh
    rw [Bool.or_eq_true, Bool.or_eq_true] at hh
    rcases hh with hh | hh | hh
    · split at hh
      · simp [starE] at h6
      · cases hh
    · split at hh
      · simp [starE] at h7
      · cases hh
    · cases hh
theorem par3_ok {c : CC} {x y z : Str} {px py pz pt p2 : Pos} {a b d : Expr} {kt k2 : Nat} {env : Env} (hs : env.scope = c.sc) (h : par3C c x px y py z pz a b d = true) :
    swappedStores [.Tuple [.Name x px, .Name y py, .Name z pz] kt pt] (.Tuple [a, b, d] k2 p2) env = pure (some [x, y, z]) := by
  simp only [par3C, Bool.and_eq_true, Bool.not_eq_true', decide_eq_false_iff_not, beq_iff_eq] at h
  obtain ⟨⟨⟨⟨⟨⟨⟨⟨⟨⟨⟨⟨⟨⟨h1, h2⟩, h3⟩, h3'⟩, h4⟩, h4'⟩, h5⟩, h5'⟩, h5''⟩, h6⟩, h7⟩, h7'⟩, h8⟩, h9⟩, h10⟩ := h
  have k1 : env.kindOf x = some .local := by show env.scope.names.lookup x = _; rw [hs]; exact locK_ok h2
  have k2 : env.kindOf y = some .local := by show env.scope.names.lookup y = _; rw [hs]; exact locK_ok h3
  have k3 : env.kindOf z = some .local := by show env.scope.names.lookup z = _; rw [hs]; exact locK_ok h3'
  have kb : env.blockKind = .function := by unfold Env.blockKind; rw [hs, isFn_ok h1]; rfl
  have dup : ([x, y, z] : List Str).eraseDups.length = 3 := by
    have e1 : (y == x) = false := by simpa using fun e => h5 e.symm
    have e2 : (z == x) = false := by simpa using fun e => h5' e.symm
    have e3 : (z == y) = false := by simpa using fun e => h5'' e.symm
    simp [List.eraseDups_cons, List.filter, e1, e2, e3]
  simp only [swappedStores, kb, k1, k2, k3, Expr.pos, h4, h4', List.head?, Option.map_some, Option.getD_some, List.filterMap, List.any, List.all, h8, h9, Bool.and_true, beq_self_eq_true, if_true, dup, List.length_cons, List.length_nil]
  rw [if_neg (by simp), if_neg ?_, if_neg (by simp)]
  · rfl
  · intro hh
    rw [Bool.or_eq_true, Bool.or_eq_true, Bool.or_eq_true] at hh
    rcases hh with hh | hh | hh | hh
    · split at hh
      · simp [starE] at h6
      · cases hh
    · split at hh
      · simp [starE] at h7
      · cases hh
    · split at hh
      · simp [starE] at h7'
      · cases hh
    · cases hh
theorem swaps_cell {c : CC} {elt : Expr} {gs : List Comprehension} {scope : Scope} {p px : Pos} {x : Str} {l : Nat} {env : Env} (hs : env.scope = c.sc) (h : locK c x = false) : swapsWith (.ListComp elt gs scope p) (some (.Name x px)) l env = pure false := by
  simp only [swapsWith, locK_no hs h, Bool.and_false, Bool.false_and]
end Wg
/-! WgQ: what the evaluation of a statement gives, the model gives. -/
namespace Wg
open PySem PySem.Spec PyProof.Rows L2
/-- the exceptions of the module -/
structure Xc (g : GI) (K : PySem.W.Frag) (mg : Str → Option Value) (cm : Cm) (sub : Str → Str → Bool) : Prop where
  made : ∀ x ∈ g.exc, ∃ C, cm x = some C ∧ mg x = some (.ref C) ∧ PySem.W.excIn K C [.type "ValueError", .type "Exception", .type "BaseException", .type "object"] "ValueError.__new__" = true ∧ PySem.W.keepIn K (.ref C) = true ∧
    PySem.W.subIn K (.ref C) (.type "BaseException") = some true ∧ PySem.W.typeIn K (.ref C) = some (.type "type")
  sub : ∀ c C d D, cm c = some C → d ∈ g.exc → cm d = some D → PySem.W.exmOne K (.ref C) (.ref D) = some (sub c d)
structure CxS (g : GI) (c : CC) (cm : Cm) (Γ : Gam) (sub : Str → Str → Bool) (X : Cx) (W : WX) (k : Nat) : Prop where
  e : CxE g c cm Γ X W k
  own : PassesOwn (model X.prog X.w) X.A X.env X.xe
  stk : X.stack = X.env :: X.outer
  frm : X.env.frame = some X.env.locals
  fn : ∀ x, X.fn x = true
  exc : Xc g X.K X.mg cm sub
section
variable {g : GI} {c : CC} {cm : Cm} {Γ : Gam} {sub : Str → Str → Bool} {X : Cx} {W : WX} {k : Nat}
theorem CxS.pg (C : CxS g c cm Γ sub X W k) : PgOk X c := ⟨C.e.N, C.e.nd, C.e.calm, fun x h => ⟨by unfold L2.Loc; rw [C.e.sc]; exact h, .inl (C.fn x)⟩⟩
theorem CxS.tr (C : CxS g c cm Γ sub X W k) {W' : WX} {pn : List (Addr × Obj)} {xe : Value → Shared → Prop} (tk : Takes (X.tr pn xe) W') (hp : PassesOwn (model X.prog X.w) X.A X.env xe) : CxS g c cm Γ sub (X.tr pn xe) W' k :=
  ⟨⟨C.e.wd, C.e.N, C.e.nd, C.e.sc, C.e.calm, C.e.room, C.e.un, C.e.grd, tk⟩, hp, C.stk, C.frm, C.fn, C.exc⟩
theorem CxS.suite (C : CxS g c cm Γ sub X W k) (a : Addr) (pn : List (Addr × Obj)) : CxS g ⟨c.N, c.sc, true⟩ cm Γ sub (X.suite a pn) W0 k :=
  ⟨⟨C.e.wd, C.e.N, C.e.nd, C.e.sc, fun z => (by cases z), fun z => (by cases z), C.e.un, C.e.grd, takes0⟩, PassesOwn.never, C.stk, C.frm, C.fn, C.exc⟩
end
/-! ### a comprehension that goes to a name -/
theorem lc_prem {g : GI} {c : CC} {cm : Cm} {Γ : Gam} {X : Cx} {W : WX} {k n : Nat} {elt tg iter : Expr} {ifs : List Expr} {scope : Scope} {pos : Pos} {p : PX} (C : CxE g c cm Γ X W k) (h : cpE g n c (.ListComp elt [⟨tg, iter, ifs, 0⟩] scope pos) = some p) :
    ∃ t it fs p1, p = .lc ((ownOf c.N scope).map (·.2)) t it fs p1 ∧ noFold iter = true ∧ (isTup tg = true → ∃ ts, t = .tp ts) ∧ PI X tg iter (tW (isTup tg) X.K cm W (evI Γ it)) ∧ BlkOk X.N X.env.scope scope (ownOf c.N scope) ∧ (∀ i ∈ t.ins, i ∈ (ownOf c.N scope).map (·.2)) ∧
      (∀ (s : Shared) (H : Hp) (D : Addr) (cl : List (Str × Addr)) (fp : List Addr), PG (X.blk s H scope (compEnvC scope cl D X.env) fp) tg (gTg X.K t)) ∧
      (∀ (s : Shared) (H : Hp) (D : Addr) (cl : List (Str × Addr)) (fp : List Addr), PTs (X.blk s H scope (compEnvC scope cl D X.env) fp) ifs (tTs X.K cm W0 (evTs Γ fs))) ∧
      (∀ (s : Shared) (H : Hp) (D : Addr) (cl : List (Str × Addr)) (fp : List Addr), PE (X.blk s H scope (compEnvC scope cl D X.env) fp) elt (tI X.K cm W0 (evE Γ p1))) := by
  cases n with
  | zero => simp [cpE] at h
  | succ n =>
    simp only [cpE] at h
    split at h
    · rename_i hb
      rw [Bool.and_eq_true, Bool.and_eq_true] at hb
      have hot' : c.hot = false := by simpa using hb.2
      split at h
      · rename_i t it fs p1 e1 e2 e3 e4
        split at h
        · rename_i hz
          simp only [Bool.and_eq_true, decide_eq_true_eq] at hz
          obtain ⟨⟨hz1, hz2⟩, hz3⟩ := hz
          cases h
          refine ⟨t, it, fs, p1, rfl, hb.1.2, cpT_tp e1, sound_It C (fun e p h => (sound_E g cm Γ n c X W k e p C h).1) e2, by rw [C.N, C.sc]; exact blkOk_by hb.1.1, fun i hi => by simpa using List.all_eq_true.mp hz3 i hi,
            fun s H D cl fp => sound_T (PgOk.blk C hot' scope s H D cl fp) n tg t e1, fun s H D cl fp => ?_, fun s H D cl fp => (sound_E g cm Γ n _ _ W0 k elt p1 (C.blk hot' scope s H D cl fp) e4).1⟩
          have CB := C.blk hot' scope s H D cl fp
          match ifs, fs, e3, hz1, hz2 with
          | [], fs, e3, _, _ =>
            rw [optAll_nil e3]
            refine ⟨fun pins s σ H Q I q => pts_nil.run pins s σ H Q I ?_⟩
            obtain ⟨ι, S, τ, rl, rs, o⟩ := q
            simp only [evTs] at o
            exact o ι H true Step.refl rl rfl
          | [x], fs, e3, _, hz2 =>
            obtain ⟨p2, r2, rfl, h1, h2⟩ := optAll_cons e3
            rw [optAll_nil h2]
            simp only [List.all_cons, List.all_nil, Bool.and_true] at hz2
            have hx := (sound_E g cm Γ n _ _ W0 k x p2 CB h1).2 hz2
            refine ⟨fun pins s σ H Q I q => (pts_one hx).run pins s σ H Q I ?_⟩
            obtain ⟨ι, S, τ, rl, rs, o⟩ := q
            refine ⟨ι, S, τ, rl, rs, ?_⟩
            simp only [evTs] at o
            simp only [asB]
            cases e5 : evE Γ p2 τ S with
            | bad => rw [e5] at o; exact o
            | exc c S1 => rw [e5] at o; exact o
            | ok a S1 =>
              rw [e5] at o
              cases a with
              | bl b => cases b <;> exact o
              | non => exact o
              | int b => exact o
              | str b => exact o
              | tup b => exact o
              | ref b => exact o
              | cls b => exact o
          | x :: y :: r, fs, e3, hz1, _ =>
            have := optAll_len e3
            simp only [List.length_cons] at this
            omega
        · cases h
      · cases h
    · cases h
/-! ### suites -/
section
variable {g : GI} {c : CC} {cm : Cm} {Γ : Gam} {sub : Str → Str → Bool} {X : Cx} {W : WX} {k : Nat}
theorem OutS.quiet {K : PySem.W.Frag} {W W' : WX} {ι : Nat → Addr} {S : Sto} {H : Hp} {r : Rz} {D : Ends} (h : OutS K cm W ι S H (quietZ r) D) : OutS K cm W' ι S H r D := by
  cases r with
  | exc c τ' S' => exact h.elim
  | next τ S' => exact h
  | ret v S' => exact h
  | brk τ S' => exact h
  | cnt τ S' => exact h
  | bad => exact h
theorem sound_H (C : CxS g c cm Γ sub X W k) {f : Stmt → Option Sm} (hf : ∀ a pn ss u, optAll f ss = some u → PSs (X.suite a pn) ss (tIS X.K cm W0 (evSs Γ sub u))) : ∀ (hds : List ExceptHandler) (l : List (Str × List Sm)), cpH g c f hds = some l → ∃ L, HdsOk X hds L ∧
    ∀ D cn Cn τ1 S1 ι H σ, cm cn = some Cn → Rel X.K cm ι S1 H → RSl X.K ι S1.length H τ1 σ → OutS X.K cm W ι S1 H (catchI sub (evHs Γ sub l) cn τ1 S1) D → wMany X.K W D L (.ref Cn) none σ H
  | [], l, h => by
    simp only [cpH, Option.some.injEq] at h; subst h
    refine ⟨[], .nil, fun D cn Cn τ1 S1 ι H σ hc rl rs o => ?_⟩
    simp only [evHs, catchI] at o
    exact o ι H σ Step.refl rl rs Cn hc
  | hd :: hds, l, h => by
    unfold cpH at h
    split at h
    · rename_i z; cases z
    · rename_i x p b0 su pos r he
      cases he
      split at h
      · rename_i hp
        simp only [Bool.and_eq_true, decide_eq_true_eq] at hp
        split at h
        · rename_i u l' e1 e2
          cases h
          obtain ⟨L, hL, go⟩ := sound_H C hf hds l' e2
          obtain ⟨Cx', c1, c2, _⟩ := C.exc.made x hp.2
          refine ⟨(.ref Cx', fun _ _ _ => tIS X.K cm W0 (evSs Γ sub u)) :: L, .cons ⟨C.e.gl hp.1.2, (plain_dbg hp.1.1).1, .inl c2⟩ (fun a oe cls d pn _ _ => hf a ((a, oe) :: pn) _ u e1) hL, fun D cn Cn τ1 S1 ι H σ hc rl rs o => ?_⟩
          refine ⟨sub cn x, C.exc.sub cn Cn x Cx' hc hp.2 c1, fun hb a ha => ?_, fun hb => ?_⟩
          · simp only [evHs, catchI, hb, if_true] at o
            exact ⟨ι, S1, τ1, rl, rs, OutS.quiet o⟩
          · simp only [evHs, catchI, hb, Bool.false_eq_true, if_false] at o
            exact go D cn Cn τ1 S1 ι H σ hc rl rs o
        · cases h
      · cases h
    · cases h
end
end Wg
/-! WgR: the soundness of statements. -/
namespace Wg
open PySem PySem.Spec PyProof.Rows L2
section
variable {g : GI} {c : CC} {cm : Cm} {Γ : Gam} {sub : Str → Str → Bool} {X : Cx} {W : WX} {k n : Nat}
theorem sound_Ss (ih : ∀ st p, cpS g n c st = some p → PS X st (tIS X.K cm W (evS Γ sub p))) : ∀ (ss : List Stmt) (ps : List Sm), optAll (cpS g n c) ss = some ps → PSs X ss (tIS X.K cm W (evSs Γ sub ps))
  | [], ps, h => by
    rw [optAll_nil h]
    exact PSs.weak pss_nil fun D σ H q => next_st (tIS.same q fun τ S => by simp only [evSs])
  | s :: ss, ps, h => by
    obtain ⟨p, r, rfl, h1, h2⟩ := optAll_cons h
    exact PSs.weak (pss_cons (ih s p h1) (sound_Ss ih ss r h2)) fun D σ H q => seq_st (tIS.same q fun τ S => by simp only [evSs])
theorem set_st {K : PySem.W.Frag} {tg : Tg} {p : PX} {D : Ends} {σ : L2.St} {H : Hp} {te : TE} (hte : ∀ Q, tI K cm W (evE Γ p) σ H Q → te σ H Q) (h : tIS K cm W (evS Γ sub (.set tg p)) D σ H) : tAsg te (gTg K tg) D σ H := by
  refine hte _ (tIS.bind (f := fun τ v S1 => setN tg v τ S1) (D := D) (tIS.same h fun τ S => by simp only [evS]) fun ι1 S1 H1 τ a v r1 rs ra o => ?_)
  unfold setN at o
  cases e : setT tg a τ with
  | none => rw [e] at o; exact o.elim
  | some τ' =>
    rw [e] at o
    exact setT_ok tg a v τ τ' σ e ra rs _ fun σ' rs' _ => o ι1 H1 σ' Step.refl r1 rs'
/-- o[i] = v, a list or a dict -/
def rSetA : TSet := fun o i v H Q => rSetL o i v H Q ∨ ∃ p ps k, o = .ref p ∧ i = kV k ∧ H p = some (.dK ps) ∧ ps.length < sizeLine ∧ Q (upd H p (.dK (putK ps k v)))
theorem set_any (hu : X.A.units + 1 < cLine) : L2.PSet X rSetA := by
  intro pins s σ H o i v ov iv u Q I ro ri rv h
  rcases h with h | ⟨p, ps, k, rfl, rfl, h1, h2, q⟩
  · exact set_list pins s σ H o i v ov iv u Q I ro ri rv h
  · cases ro
    exact d_setItem hu I (DPut.k h1 h2) ri rv fun s' I' => ⟨_, I', q⟩
theorem dPut_keys {k : Key} {w : IV} {v : V} : ∀ {kvs : List (Key × IV)} {ps : List (Key × V)}, ps.map (·.1) = kvs.map (·.1) → (putK ps k v).map (·.1) = (dPut kvs k w).map (·.1) := by
  intro kvs ps h
  have ha : (ps.any fun kv => decide (kv.1 = k)) = (kvs.any fun kv => decide (kv.1 = k)) := by
    have e1 : (ps.any fun kv => decide (kv.1 = k)) = (ps.map (·.1)).any fun z => decide (z = k) := by simp [List.any_map, Function.comp_def]
    have e2 : (kvs.any fun kv => decide (kv.1 = k)) = (kvs.map (·.1)).any fun z => decide (z = k) := by simp [List.any_map, Function.comp_def]
    rw [e1, e2, h]
  unfold putK dPut
  rw [ha]
  split
  · have m1 : ∀ (l : List (Key × V)), (l.map fun kv => if kv.1 = k then (kv.1, v) else kv).map (·.1) = l.map (·.1) := fun l => by
      rw [List.map_map]; refine List.map_congr_left fun x _ => ?_
      simp only [Function.comp]; split <;> rfl
    have m2 : ∀ (l : List (Key × IV)), (l.map fun kv => if kv.1 = k then (kv.1, w) else kv).map (·.1) = l.map (·.1) := fun l => by
      rw [List.map_map]; refine List.map_congr_left fun x _ => ?_
      simp only [Function.comp]; split <;> rfl
    rw [m1, m2, h]
  · simp [h]
theorem dPut_vals {K : PySem.W.Frag} {ι : Nat → Addr} {n : Nat} {H : Hp} {k : Key} {w : IV} {v : V} (rv : RV K ι n H w v) {kvs : List (Key × IV)} {ps : List (Key × V)} (h : ps.map (·.1) = kvs.map (·.1)) (r : RVs K ι n H (kvs.map (·.2)) (ps.map (·.2))) : RVs K ι n H ((dPut kvs k w).map (·.2)) ((putK ps k v).map (·.2)) := by
  have ha : (ps.any fun kv => decide (kv.1 = k)) = (kvs.any fun kv => decide (kv.1 = k)) := by
    have e1 : (ps.any fun kv => decide (kv.1 = k)) = (ps.map (·.1)).any fun z => decide (z = k) := by simp [List.any_map, Function.comp_def]
    have e2 : (kvs.any fun kv => decide (kv.1 = k)) = (kvs.map (·.1)).any fun z => decide (z = k) := by simp [List.any_map, Function.comp_def]
    rw [e1, e2, h]
  unfold putK dPut
  rw [ha]
  split
  · have go : ∀ {kvs : List (Key × IV)} {ps : List (Key × V)}, ps.map (·.1) = kvs.map (·.1) → RVs K ι n H (kvs.map (·.2)) (ps.map (·.2)) → RVs K ι n H ((kvs.map fun kv => if kv.1 = k then (kv.1, w) else kv).map (·.2)) ((ps.map fun kv => if kv.1 = k then (kv.1, v) else kv).map (·.2)) := by
      intro kvs
      induction kvs with
      | nil =>
        intro ps h r
        have : ps = [] := by simpa using h
        subst this
        exact .nil
      | cons a kvs ih =>
        intro ps h r
        cases ps with
        | nil => simp at h
        | cons b ps =>
          simp only [List.map_cons, List.cons.injEq] at h
          obtain ⟨x, y, e, r1, r2⟩ := RVs.uncons r
          simp only [List.map_cons, List.cons.injEq] at e
          obtain ⟨rfl, rfl⟩ := e
          simp only [List.map_cons]
          refine .cons ?_ (ih h.2 r2)
          rw [h.1]
          split
          · exact rv
          · exact r1
    exact go h r
  · rw [List.map_append, List.map_append]
    exact r.append (.cons rv .nil)
theorem sub_st {K : PySem.W.Frag} {p q r : PX} {D : Ends} {σ : L2.St} {H : Hp} (h : tIS K cm W (evS Γ sub (.sub p q r)) D σ H) : tAsg (tI K cm W (evE Γ r)) (gSub (tI K cm W (evE Γ p)) (tI K cm W (evE Γ q)) rSetA) D σ H := by
  refine tIS.bind (RA := RVS K) (f := fun τ v S1 => (evE Γ p τ S1).thn τ fun x S2 => (evE Γ q τ S2).thn τ fun y S3 => subN v x y τ S3) (tIS.same h fun τ S => by simp only [evS]) fun ι1 S1 H1 τ a v r1 rs ra o => ?_
  -- at fixed slots: the two further expressions
  refine ⟨ι1, S1, τ, r1, rs, ?_⟩
  cases e1 : evE Γ p τ S1 with
  | bad => rw [e1] at o; exact o
  | exc c S2 => rw [e1] at o; exact fun ι2 H2 st r2 C hC => o ι2 H2 σ st r2 (rs.step r1 st) C hC
  | ok x S2 =>
    rw [e1] at o
    intro ι2 H2 xv st2 r2 rx
    have o2 := OutS.shift o r2 st2
    have rs2 := rs.step r1 st2
    refine ⟨ι2, S2, τ, r2, rs2, ?_⟩
    dsimp only [Rs.thn] at o2
    cases e2 : evE Γ q τ S2 with
    | bad => rw [e2] at o2; exact o2
    | exc c S3 => rw [e2] at o2; exact fun ι3 H3 st r3 C hC => o2 ι3 H3 σ st r3 (rs2.step r2 st) C hC
    | ok y S3 =>
      rw [e2] at o2
      intro ι3 H3 yv st3 r3 ry
      have o3 := OutS.shift o2 r3 st3
      dsimp only [subN] at o3
      have rv3 : RV K ι3 S3.length H3 a v := (RV.step ra r1 st2).step r2 st3
      split at o3
      · rename_i m
        cases e3 : S3[m]? with
        | none => rw [e3] at o3; exact o3.elim
        | some cl =>
          rw [e3] at o3
          have hk : m < S3.length := (List.getElem?_eq_some_iff.mp e3).1
          cases cl with
          | lst xs =>
            dsimp only at o3
            split at o3
            · rename_i kk
              cases e4 : ixN xs.length kk with
              | none => rw [e4] at o3; exact o3.elim
              | some j =>
                rw [e4] at o3
                obtain ⟨vs, hx, h1, h2⟩ := lst_ok r3 (RV.step rx r2 st3) e3
                have hy : yv = .int kk := by simpa only [RVS, RV] using ry
                refine .inl ⟨ι3 m, vs, kk, j, hx, hy, h1, by rw [h2.length]; exact e4, ?_⟩
                have ht : ∀ a us, SqN K H3 a us → SqN K (upd H3 (ι3 m) (.lst (vs.set j v))) a us := fun _ _ hq => hq.upd_at fun _ _ z => by rw [h1] at z; cases z
                obtain ⟨r4, st4⟩ := r3.put hk (o := .lst (vs.set j v)) (c := .lst (xs.set j a)) ⟨_, upd_same, (h2.set rv3 j).map ht (fun _ _ => rfl) (Nat.le_refl _)⟩
                exact o3 ι3 _ σ st4 r4 ((rs2.step r2 st3).step r3 st4)
            · exact o3.elim
          | dct kvs =>
            dsimp only at o3
            cases e4 : keyOf y with
            | none => rw [e4] at o3; exact o3.elim
            | some k =>
              rw [e4] at o3
              dsimp only at o3
              split at o3
              · rename_i hz
                have hx := RV.step rx r2 st3
                simp only [RV] at hx
                obtain ⟨ps, h1, h2, h3⟩ := r3.cell m _ e3
                have hy : yv = kV k := by
                  cases y <;> simp only [keyOf] at e4 <;> cases e4 <;> (simp only [RVS, RV] at ry; exact ry)
                have hl : ps.length = kvs.length := by simpa using congrArg List.length h2
                simp only [szOk, decide_eq_true_eq] at hz
                refine .inr ⟨ι3 m, ps, k, hx.2, hy, h1, by rw [hl, sizeLine_eq]; omega, ?_⟩
                have ht : ∀ a us, SqN K H3 a us → SqN K (upd H3 (ι3 m) (.dK (putK ps k v))) a us := fun _ _ hq => hq.upd_at fun _ _ z => by rw [h1] at z; cases z
                obtain ⟨r4, st4⟩ := r3.put hk (o := .dK (putK ps k v)) (c := .dct (dPut kvs k a)) ⟨_, upd_same, dPut_keys h2, (dPut_vals rv3 h2 h3).map ht (fun _ _ => rfl) (Nat.le_refl _)⟩
                exact o3 ι3 _ σ st4 r4 ((rs2.step r2 st3).step r3 st4)
              · exact o3.elim
          | frz xs => exact o3.elim
          | ins c fs => exact o3.elim
      · exact o3.elim
theorem par_st {K : PySem.W.Frag} {i j : Nat} {p q : PX} {D : Ends} {σ : L2.St} {H : Hp} (h : tIS K cm W (evS Γ sub (.par i j p q)) D σ H) : tPar i j (tIs K cm W (evEs Γ [p, q])) D σ H := by
  obtain ⟨ι, S, τ, rl, rs, o⟩ := h
  refine ⟨ι, S, τ, rl, rs, ?_⟩
  simp only [evS] at o
  simp only [evEs]
  cases e1 : evE Γ p τ S with
  | bad => rw [e1] at o; exact o
  | exc c S1 => rw [e1] at o; exact fun ι1 H1 st r1 C hC => o ι1 H1 σ st r1 (rs.step rl st) C hC
  | ok x S1 =>
    rw [e1] at o
    dsimp only [Rs.thn, Rs.bind] at o ⊢
    cases e2 : evE Γ q τ S1 with
    | bad => rw [e2] at o; exact o
    | exc c S2 => rw [e2] at o; exact fun ι1 H1 st r1 C hC => o ι1 H1 σ st r1 (rs.step rl st) C hC
    | ok y S2 =>
      rw [e2] at o
      intro ι1 H1 vs st r1 rv
      obtain ⟨v, w, hv, h1, h2⟩ : ∃ v w, vs = [v, w] ∧ RV K ι1 S2.length H1 x v ∧ RV K ι1 S2.length H1 y w := by
        obtain ⟨v, r, rfl, h1, h2⟩ := RVs.uncons rv
        obtain ⟨w, r', rfl, h3, h4⟩ := h2.uncons
        simp only [RVs] at h4; subst h4
        exact ⟨v, w, rfl, h1, h3⟩
      exact ⟨v, w, hv, o ι1 H1 _ st r1 (((rs.step rl st).set i h1).set j h2)⟩
theorem par3_st {K : PySem.W.Frag} {i j l : Nat} {p q r : PX} {D : Ends} {σ : L2.St} {H : Hp} (h : tIS K cm W (evS Γ sub (.par3 i j l p q r)) D σ H) : tPar3 i j l (tIs K cm W (evEs Γ [p, q, r])) D σ H := by
  obtain ⟨ι, S, τ, rl, rs, o⟩ := h
  refine ⟨ι, S, τ, rl, rs, ?_⟩
  simp only [evS] at o
  simp only [evEs]
  cases e1 : evE Γ p τ S with
  | bad => rw [e1] at o; exact o
  | exc c S1 => rw [e1] at o; exact fun ι1 H1 st r1 C hC => o ι1 H1 σ st r1 (rs.step rl st) C hC
  | ok x S1 =>
    rw [e1] at o
    dsimp only [Rs.thn, Rs.bind] at o ⊢
    cases e2 : evE Γ q τ S1 with
    | bad => rw [e2] at o; exact o
    | exc c S2 => rw [e2] at o; exact fun ι1 H1 st r1 C hC => o ι1 H1 σ st r1 (rs.step rl st) C hC
    | ok y S2 =>
      rw [e2] at o
      dsimp only [Rs.thn, Rs.bind] at o ⊢
      cases e3 : evE Γ r τ S2 with
      | bad => rw [e3] at o; exact o
      | exc c S3 => rw [e3] at o; exact fun ι1 H1 st r1 C hC => o ι1 H1 σ st r1 (rs.step rl st) C hC
      | ok z S3 =>
        rw [e3] at o
        intro ι1 H1 vs st r1 rv
        obtain ⟨v, w, u, hv, h1, h2, h3⟩ : ∃ v w u, vs = [v, w, u] ∧ RV K ι1 S3.length H1 x v ∧ RV K ι1 S3.length H1 y w ∧ RV K ι1 S3.length H1 z u := by
          obtain ⟨v, r, rfl, h1, h2⟩ := RVs.uncons rv
          obtain ⟨w, r', rfl, h3, h4⟩ := h2.uncons
          obtain ⟨u, r'', rfl, h5, h6⟩ := h4.uncons
          simp only [RVs] at h6; subst h6
          exact ⟨v, w, u, rfl, h1, h3, h5⟩
        exact ⟨v, w, u, hv, o ι1 H1 _ st r1 ((((rs.step rl st).set i h1).set j h2).set l h3)⟩
theorem aug_st {K : PySem.W.Frag} {i : Nat} {p : PX} {D : Ends} {σ : L2.St} {H : Hp} {o : Bop} {f : Int → Int → Int} (hf : ∀ x y (τ : Sl) S1, augN i o x y τ S1 = (match x, y with | IV.int p, IV.int q => Rz.next (τ.set i (some (.int (f p q)))) S1 | _, _ => Rz.bad)) (h : tIS K cm W (evS Γ sub (.aug i o p)) D σ H) : tAug i (tI K cm W (evE Γ p)) (ipI f) D σ H := by
  obtain ⟨ι, S, τ, rl, rs, q⟩ := h
  simp only [evS] at q
  cases e : τ[i]? with
  | none => rw [e] at q; exact q.elim
  | some ox =>
    rw [e] at q
    cases ox with
    | none => exact q.elim
    | some x =>
      dsimp only at q
      obtain ⟨xv, hx, rx⟩ := rs.2 i x e
      refine ⟨xv, hx, ι, S, τ, rl, rs, ?_⟩
      cases e1 : evE Γ p τ S with
      | bad => rw [e1] at q; exact q
      | exc c S1 => rw [e1] at q; exact fun ι1 H1 st r1 C hC => q ι1 H1 σ st r1 (rs.step rl st) C hC
      | ok y S1 =>
        rw [e1] at q
        dsimp only [Rs.thn] at q
        rw [hf] at q
        intro ι1 H1 yv st r1 ry
        split at q
        · rename_i a b
          have e2 : xv = .int a := by simpa only [RV] using rx
          have e3 : yv = .int b := by simpa only [RVS, RV] using ry
          exact ⟨a, b, e2, e3, q ι1 H1 _ st r1 ((rs.step rl st).set i (by simp only [RV]))⟩
        · exact q.elim
end
theorem lc_hot {g : GI} {c : CC} {n : Nat} {elt tg iter : Expr} {ifs : List Expr} {scope : Scope} {pos : Pos} {p : PX} (h : cpE g n c (.ListComp elt [⟨tg, iter, ifs, 0⟩] scope pos) = some p) : c.hot = false := by
  cases n with
  | zero => simp [cpE] at h
  | succ n =>
    simp only [cpE] at h
    split at h
    · rename_i hb
      simp only [Bool.and_eq_true, Bool.not_eq_true'] at hb
      exact hb.2
    · cases h
/-- x.f = v by a property's setter -/
theorem setpropG {X : Cx} {W : WX} {k : Nat} {sp : Sp} {pins : List (Addr × Obj)} {σ : L2.St} {H : Hp} {s : Shared} {Q : L2.St → Hp → Prop} {QU : Unit → Shared → Prop} {a C dx p g : Addr} {fs : List (Str × V)} {f : Str} {y : V} {u : Value} (I : Inv X pins σ H s) (ea : H a = some (.ins C dx fs)) (c : Cls X.K C) (hp : PSet X.K C f p g)
    (F : FnG X.prog X.w X.K X.mg X.base k g sp) (hr : Room (2 * k + 2) X.A) (hgd : X.A.guards = some []) (tk : Takes X W) (ry : RelV y u) (h : sp [.ref a, y] H (fun _ H' => Q σ H') (WE W σ)) (hQ : ∀ H' s', Inv X pins σ H' s' → Q σ H' → QU () s') :
    wpAny (model X.prog X.w) X.A (setAttr (.ref a) f u) QU X.xe s := by
  obtain ⟨mA, O, _, _, _, _⟩ := ins_get I.hok ea
  obtain ⟨od, J, _⟩ := O.look
  obtain ⟨a0, rest, hrec⟩ := hp.rec_
  have I1 := I.tok (s.toks + 1)
  have hr2 : Room (2 * k + 1) X.A.in1.in1 := ⟨hr.hd, by have := hr.dp; show X.A.depth + 3 * (2 * k + 1) + 5 < _; omega, by have := hr.un; show X.A.units + 1 + 1 + 16 * (2 * k + 1) + 200 < _; omega⟩
  refine PySem.W.set_plain I.kIn J c.sa (PySem.W.osa_descr (s := { s with toks := s.toks + 1 }) PySem.W.KF.slot_pset I1.kIn J c.po hp.taker hp.typ (PySem.W.prop_set (s := { s with toks := s.toks + 1 }) I1.kIn hrec ?_))
  refine codeAny_mono (F.run X.A.in1.in1 X.stack { s with toks := s.toks + 1 } H [.ref a, u] [.ref a, y] _ (WE W σ) hr2 hgd I1.env0.in1.in1 (.cons rfl (.cons ry .nil)) h) fun r s' hq => ?_
  match r, hq with
  | .error er, hq => exact passAt tk σ pins H _ er s' I1 hq
  | .ok (.ret w), hq =>
    obtain ⟨v, H', I3, rv, q3⟩ := I1.after hq
    exact hQ H' s' I3 q3
def sFldG (X : Cx) (k : Nat) (W : WX) (ta tv : TE) (f : Str) : TS := fun D σ H => tv σ H fun y H1 => ta σ H1 fun x H2 => (∃ a C dx fs, x = .ref a ∧ H2 a = some (.ins C dx fs) ∧ Cls X.K C ∧ NoAttr X.K C f ∧ fs.length < 1000 ∧ D.nx σ (upd H2 a (.ins C dx (putF f y fs)))) ∨
  (∃ a C dx fs p g sp, x = .ref a ∧ H2 a = some (.ins C dx fs) ∧ Cls X.K C ∧ PSet X.K C f p g ∧ FnG X.prog X.w X.K X.mg X.base k g sp ∧ sp [x, y] H2 (fun _ H' => D.nx σ H') (WE W σ))
theorem ps_fldG {X : Cx} {W : WX} {k : Nat} {o value : Expr} {ta tv : TE} {f : Str} {pos pos' : Pos} (ha : PE X o ta) (hv : PE X value tv) (hr : Room (2 * k + 2) X.A) (hgd : X.A.guards = some []) (tk : Takes X W) (hs : swapsWith value (some (.Attribute o f pos')) pos.line X.env = pure false) : PS X (.Assign [.Attribute o f pos'] value pos) (sFldG X k W ta tv f) := by
  refine ⟨fun pins s σ H D I h => ?_⟩
  refine plainObj_wpAny_Assign_Attribute (thn (hv.run pins s σ H _ I h) fun u s1 ⟨y, H1, I1, ry, q⟩ => thn (ha.run pins s1 σ H1 _ I1 q) fun ov s2 ⟨x, H2, I2, rx, q2⟩ => ?_) hs
  rcases q2 with ⟨a, C, dx, fs, ex, ea, c, n, l, q2⟩ | ⟨a, C, dx, fs, p, g, sp, ex, ea, c, hp, F, q2⟩
  · subst ex
    obtain rfl : ov = Value.ref a := rx
    exact setattr_ok I2 ea c n l ry fun s3 I3 => ⟨σ, _, I3, q2⟩
  · subst ex
    obtain rfl : ov = Value.ref a := rx
    exact setpropG (Q := D.nx) I2 ea c hp F hr hgd tk ry q2 fun H' s' I3 q3 => ⟨σ, _, I3, q3⟩
/-- the field of an instance is stored -/
theorem fld_put {g : GI} {cm : Cm} {Γ : Gam} {X : Cx} {W : WX} {k : Nat} (D0 : Wd g X.prog X.w X.K X.mg X.base cm Γ k) {f : Str} (hf : f ∈ g.atts) {D : Ends} {σ : L2.St} {ι : Nat → Addr} {S : Sto} {τ : Sl} {H : Hp} {a b : IV} {x y : V} (rl : Rel X.K cm ι S H) (rs : RSl X.K ι S.length H τ σ) (ra : RV X.K ι S.length H a x) (rb : RV X.K ι S.length H b y)
    (o : OutS X.K cm W ι S H (fldN Γ f b a τ S) D) : (∃ p C dx fs, x = .ref p ∧ H p = some (.ins C dx fs) ∧ Cls X.K C ∧ NoAttr X.K C f ∧ fs.length < 1000 ∧ D.nx σ (upd H p (.ins C dx (putF f y fs)))) ∨
      (∃ a C dx fs p g sp, x = .ref a ∧ H a = some (.ins C dx fs) ∧ Cls X.K C ∧ PSet X.K C f p g ∧ FnG X.prog X.w X.K X.mg X.base k g sp ∧ sp [x, y] H (fun _ H' => D.nx σ H') (WE W σ)) := by
  unfold fldN at o
  cases a with
  | ref n =>
    simp only [RV] at ra
    obtain ⟨hn, rfl⟩ := ra
    simp only [] at o
    cases e : S[n]? with
    | none => rw [e] at o; exact o.elim
    | some cl =>
      rw [e] at o
      cases cl with
      | ins c fs =>
        obtain ⟨C, dx, ps, h1, h2, h3, h4⟩ := rl.cell n _ e
        have ck := D0.at h2
        have at_ := ck.at_ f hf
        simp only [] at o
        cases ea : Γ.att c f with
        | some at1 =>
          rw [ea] at o at_
          split at o
          · rename_i z1; cases z1
          · rename_i gq q z1
            cases z1
            obtain ⟨p, a1, ha1, hp1, hs1⟩ := at_
            obtain ⟨g1, hg1, hps⟩ := hs1 q rfl
            refine .inr ⟨_, C, dx, ps, p, g1, _, rfl, h1, ck.cl, hps, D0.meth q g1 hg1, ι, S, [.ref n, b], rl, .cons (by simp only [RV]; exact ⟨hn, trivial⟩) (.cons rb .nil), ?_⟩
            cases eq : Γ.call q [.ref n, b] S with
            | bad => rw [eq] at o; exact o
            | exc cc S1 => rw [eq] at o; exact fun ι1 H1 st r1 C1 hC => o ι1 H1 σ st r1 (rs.step rl st) C1 hC
            | ok v S1 => rw [eq] at o; exact fun ι1 H1 v1 st r1 _ => o ι1 H1 σ st r1 (rs.step rl st)
          · exact o.elim
        | none =>
          rw [ea] at o at_
          simp only [] at o
          split at o
          · rename_i hl
            have hlen : ps.length = fs.length := by
              have := congrArg List.length h3
              simpa using this
            refine .inl ⟨_, C, dx, ps, rfl, h1, ck.cl, at_, by omega, ?_⟩
            have ht : ∀ a us, SqN X.K H a us → SqN X.K (upd H (ι n) (.ins C dx (putF f y ps))) a us := fun _ _ hq => hq.upd_at fun _ _ z => by rw [h1] at z; cases z
            obtain ⟨r4, st4⟩ := rl.put hn (o := .ins C dx (putF f y ps)) (c := .ins c (putI f b fs)) ⟨C, dx, _, upd_same, h2, putI_keys f b y h3, (putI_vals rb h3 h4).map ht (fun _ _ => rfl) (Nat.le_refl _)⟩
            exact o ι _ σ st4 r4 (rs.step rl st4)
          · exact o.elim
      | lst xs => exact o.elim
      | frz xs => exact o.elim
      | dct xs => exact o.elim
  | non => exact o.elim
  | bl b => exact o.elim
  | int b => exact o.elim
  | str b => exact o.elim
  | tup b => exact o.elim
  | cls b => exact o.elim
theorem fld_st {g : GI} {cm : Cm} {Γ : Gam} {sub : Str → Str → Bool} {X : Cx} {W : WX} {k : Nat} (D0 : Wd g X.prog X.w X.K X.mg X.base cm Γ k) {f : Str} (hf : f ∈ g.atts) {p q : PX} {D : Ends} {σ : L2.St} {H : Hp} (h : tIS X.K cm W (evS Γ sub (.fld p f q)) D σ H) : sFldG X k W (tI X.K cm W (evE Γ p)) (tI X.K cm W (evE Γ q)) f D σ H := by
  refine tIS.bind (RA := RVS X.K) (f := fun τ v S1 => (evE Γ p τ S1).thn τ fun x S2 => fldN Γ f v x τ S2) (tIS.same h fun τ S => by simp only [evS]) fun ι1 S1 H1 τ b y r1 rs ra o => ?_
  refine ⟨ι1, S1, τ, r1, rs, ?_⟩
  cases e1 : evE Γ p τ S1 with
  | bad => rw [e1] at o; exact o
  | exc c S2 => rw [e1] at o; exact fun ι2 H2 st r2 C hC => o ι2 H2 σ st r2 (rs.step r1 st) C hC
  | ok x S2 =>
    rw [e1] at o
    intro ι2 H2 xv st2 r2 rx
    have o2 := OutS.shift o r2 st2
    dsimp only [Rs.thn] at o2
    exact fld_put D0 hf r2 (rs.step r1 st2) rx (RV.step ra r1 st2) o2
theorem fldaug_st {g : GI} {cm : Cm} {Γ : Gam} {sub : Str → Str → Bool} {X : Cx} {W : WX} {k : Nat} (D0 : Wd g X.prog X.w X.K X.mg X.base cm Γ k) {f : Str} (hf : f ∈ g.atts) {p q : PX} {D : Ends} {σ : L2.St} {H : Hp} (h : tIS X.K cm W (evS Γ sub (.fldaug p f .add q)) D σ H) : sFldAug X.K (tI X.K cm W (evE Γ p)) (tI X.K cm W (evE Γ q)) rAdd f D σ H := by
  refine tIS.bind (RA := RVS X.K) (f := fun τ x S1 => match fldV Γ f x S1 with
    | some u => (evE Γ q τ S1).thn τ fun y S2 => match augI .add u y with
      | some z => if clsOf x S1 = clsOf x S2 then fldN Γ f z x τ S2 else .bad
      | none => .bad
    | none => .bad) (tIS.same h fun τ S => rfl) fun ι1 S1 H1 τ a x r1 rs ra o => ?_
  cases ev : fldV Γ f a S1 with
  | none => rw [ev] at o; exact o.elim
  | some u =>
    rw [ev] at o
    simp only [] at o
    unfold fldV at ev
    cases a with
    | ref n =>
      have ra' : RV X.K ι1 S1.length H1 (.ref n) x := ra
      simp only [RV] at ra'
      obtain ⟨hn, rfl⟩ := ra'
      simp only [] at ev
      cases e : S1[n]? with
      | none => rw [e] at ev; cases ev
      | some cl =>
        rw [e] at ev
        cases cl with
        | ins c fs =>
          obtain ⟨C, dx, ps, h1, h2, h3, h4⟩ := r1.cell n _ e
          have ck := D0.at h2
          have at_ := ck.at_ f hf
          simp only [] at ev
          cases ea : Γ.att c f with
          | some at1 => rw [ea] at ev; cases ev
          | none =>
            rw [ea] at ev at_
            simp only [] at ev
            obtain ⟨l1, l2⟩ := fs_look (f := f) h3 h4
            obtain ⟨v, hv, rv⟩ := l2 u ev
            refine ⟨ι1 n, C, dx, ps, v, rfl, h1, ck.cl, at_, hv, ι1, S1, τ, r1, rs, ?_⟩
            cases e2 : evE Γ q τ S1 with
            | bad => rw [e2] at o; exact o
            | exc c S2 => rw [e2] at o; exact fun ι2 H2 st r2 C hC => o ι2 H2 σ st r2 (rs.step r1 st) C hC
            | ok y S2 =>
              rw [e2] at o
              intro ι2 H2 yv st2 r2 ry
              have o2 := OutS.shift o r2 st2
              dsimp only [Rs.thn] at o2
              cases ez : augI .add u y with
              | none => rw [ez] at o2; exact o2.elim
              | some z =>
                rw [ez] at o2
                simp only [] at o2
                split at o2
                case isFalse => exact o2.elim
                rename_i hcls
                have hc2 : ∃ fs2, S2[n]? = some (.ins c fs2) := by
                  simp only [clsOf, e] at hcls
                  split at hcls
                  · rename_i c2 fs2 hs2
                    cases hcls
                    exact ⟨fs2, hs2⟩
                  · cases hcls
                obtain ⟨fs2, hS2⟩ := hc2
                have rv2 := RV.step rv r1 st2
                unfold augI at ez
                split at ez
                · rename_i i j _
                  cases ez
                  have e3 : v = .int i := by simpa only [RV] using rv2
                  have e4 : yv = .int j := by simpa only [RVS, RV] using ry
                  have C2e : ∀ {C2 dx2 ps2}, H2 (ι1 n) = some (.ins C2 dx2 ps2) → C2 = C := fun {C2 dx2 ps2} hh => by
                    obtain ⟨C3, dx3, ps3, b1, b2, _⟩ := r2.cell n _ hS2
                    rw [h2] at b2; cases b2
                    rw [st2.ext n hn, hh] at b1; cases b1; rfl
                  rcases fld_put D0 hf (y := .int (i + j)) r2 (rs.step r1 st2) (RV.step ra r1 st2) (by simp only [RV]) o2 with ⟨p', C', dx', fs', hx, a1, a2, a3, a4, a5⟩ | ⟨p', C', dx', fs', pp, gg, sp', hx, a1, a2, a3, _⟩
                  rotate_left
                  · cases hx
                    have := C2e a1
                    subst this
                    have z1 := a3.taker
                    rw [at_.taker] at z1
                    cases z1
                  cases hx
                  have : C' = C := by
                    obtain ⟨C2, dx2, ps2, b1, b2, _⟩ := r2.cell n _ hS2
                    rw [h2] at b2; cases b2
                    rw [st2.ext n hn, a1] at b1; cases b1; rfl
                  subst this
                  exact ⟨i, j, e3, e4, dx', fs', a1, a4, a5⟩
                · rename_i z1; cases z1
                · cases ez
        | lst xs => cases ev
        | frz xs => cases ev
        | dct xs => cases ev
    | non => cases ev
    | bl b => cases ev
    | int b => cases ev
    | str b => cases ev
    | tup b => cases ev
    | cls b => cases ev
set_option maxHeartbeats 1000000 in
theorem sound_S (g : GI) (cm : Cm) (Γ : Gam) (sub : Str → Str → Bool) : ∀ (n : Nat) (c : CC) (X : Cx) (W : WX) (k : Nat) (st : Stmt) (p : Sm), CxS g c cm Γ sub X W k → cpS g n c st = some p → PS X st (tIS X.K cm W (evS Γ sub p)) := by
  intro n
  induction n with
  | zero => intro c X W k st p _ h; simp [cpS] at h
  | succ n IH =>
    intro c X W k st p C h
    have ihE : ∀ e p, cpE g n c e = some p → PE X e (tI X.K cm W (evE Γ p)) := fun e p h => (sound_E g cm Γ n c X W k e p C.e h).1
    have ihT : ∀ e p, cpE g n c e = some p → noIf e = true → PT X e (tT X.K cm W (evE Γ p)) := fun e p h => (sound_E g cm Γ n c X W k e p C.e h).2
    have ihS : ∀ st p, cpS g n c st = some p → PS X st (tIS X.K cm W (evS Γ sub p)) := fun st p h => IH c X W k st p C h
    simp only [cpS] at h
    split at h
    · rename_i e pos
      split at h
      · rename_i hc
        cases e1 : cpE g n c e with
        | none => rw [e1] at h; cases h
        | some q =>
          rw [e1] at h; cases h
          refine PS.weak (ps_expr (ihE e q e1) (swaps_no hc)) fun D σ H z => ?_
          exact tIS.bind (RA := RVS X.K) (f := fun τ _ S1 => .next τ S1) (tIS.same z fun τ S => by simp only [evS]) fun ι1 S1 H1 τ a v r1 rs ra o => o ι1 H1 σ Step.refl r1 rs
      · cases h
    · rename_i e pos
      cases e1 : cpE g n c e with
      | none => rw [e1] at h; cases h
      | some q =>
        rw [e1] at h; cases h
        refine PS.weak (ps_ret (ihE e q e1)) fun D σ H z => ?_
        exact tIS.bind (RA := RVS X.K) (f := fun τ v S1 => .ret v S1) (tIS.same z fun τ S => by simp only [evS]) fun ι1 S1 H1 τ a v r1 rs ra o => o ι1 H1 v Step.refl r1 ra
    · cases h
      refine PS.weak ps_retN fun D σ H z => ?_
      obtain ⟨ι, S, τ, rl, rs, o⟩ := z
      simp only [evS] at o
      exact o ι H .non Step.refl rl (by simp only [RV])
    · cases h
      exact PS.weak ps_pass fun D σ H z => next_st (tIS.same z fun τ S => by simp only [evS])
    · cases h
      refine PS.weak ps_break fun D σ H z => ?_
      obtain ⟨ι, S, τ, rl, rs, o⟩ := z
      simp only [evS] at o
      exact o ι H σ Step.refl rl rs
    · cases h
      refine PS.weak ps_continue fun D σ H z => ?_
      obtain ⟨ι, S, τ, rl, rs, o⟩ := z
      simp only [evS] at o
      exact o ι H σ Step.refl rl rs
    · -- x = e
      rename_i x px e pos
      split at h
      · rename_i hc
        split at h
        · rename_i i q e1 e2
          cases h
          obtain ⟨h1, h2⟩ := cpTn_ok e1
          obtain ⟨h3, h4⟩ := C.pg.loc x h2
          refine PS.weak (ps_set (by exact C.e.nd) (by rw [C.e.N]; exact ixOf_get h1) h3 (ihE e q e2) (swaps_no hc) h4) fun D σ H z => ?_
          have := set_st (tg := .nm i) (fun Q q => q) z
          simpa only [gTg] using this
        · cases h
      · split at h
        · rename_i elt tg iter ifs scope lpos hnc
          split at h
          · rename_i hs
            split at h
            · rename_i i q e1 e2
              cases h
              simp only [swC, Bool.and_eq_true, Bool.not_eq_true'] at hs
              obtain ⟨⟨⟨s1, s2⟩, s3⟩, s4⟩ := hs
              obtain ⟨h1, h2⟩ := cpTn_ok e1
              obtain ⟨t, it, fs, p1, rfl, f1, f0, f2, f3, f4, f5, f6, f7⟩ := lc_prem C.e e2
              have hl : X.env.scope.names.lookup x = some .local := by rw [C.e.sc]; exact locK_ok s2
              refine PS.weak (ps_setLc (own := ownOf c.N scope) (C.e.calm (lc_hot e2)) C.e.nd (by rw [C.e.N]; exact ixOf_get h1) hl (sw_true (by rw [C.e.sc]; exact isFn_ok s1) hl s3 s4) f2 f3 f5 f6 f7 (fold_no f1)) fun D σ H z => ?_
              have := set_st (tg := .nm i) (fun Q q => tLc_of f0 f4 q) z
              simpa only [gTg] using this
            · cases h
          · split at h
            · cases h
            rename_i hlk
            split at h
            · rename_i i q e1 e2
              cases h
              obtain ⟨h1, h2⟩ := cpTn_ok e1
              obtain ⟨h3, h4⟩ := C.pg.loc x h2
              refine PS.weak (ps_set (by exact C.e.nd) (by rw [C.e.N]; exact ixOf_get h1) h3 (ihE _ q e2) (swaps_cell C.e.sc (by simpa using hlk)) h4) fun D σ H z => ?_
              have := set_st (tg := .nm i) (fun Q q => q) z
              simpa only [gTg] using this
            · cases h
        · cases h
    · -- x, y = a, b
      rename_i x px y py kt pt a b k2 p2 pos
      split at h
      · rename_i hp
        split at h
        · rename_i i j p1 q1 e1 e2 e3 e4
          cases h
          have hp' := hp
          simp only [parC, Bool.and_eq_true, Bool.not_eq_true', decide_eq_false_iff_not] at hp'
          obtain ⟨⟨⟨⟨⟨⟨⟨⟨⟨h1, h2⟩, h3⟩, h4⟩, h5⟩, h6⟩, h7⟩, h8⟩, h9⟩, hot'⟩ := hp'
          obtain ⟨i1, _⟩ := cpTn_ok e1
          obtain ⟨j1, _⟩ := cpTn_ok e2
          have hij : i ≠ j := fun z => by
            subst z
            have a1 := ixOf_get i1
            have a2 := ixOf_get j1
            rw [a1] at a2; cases a2
            exact h5 rfl
          exact PS.weak (ps_par (C.e.calm hot') C.e.nd (by rw [C.e.N]; exact ixOf_get i1) (by rw [C.e.N]; exact ixOf_get j1) hij (by rw [C.e.sc]; exact locK_ok h2) (by rw [C.e.sc]; exact locK_ok h3)
            (sound_A C.e ihE [a, b] [p1, q1] (by simp only [optAll, e3, e4])) (par_ok C.e.sc hp)) fun D σ H z => par_st z
        · cases h
      · split at h
        · rename_i hq
          simp only [Bool.and_eq_true, Bool.not_eq_true'] at hq
          split at h
          · rename_i i j p1 q1 e1 e2 e3 e4
            cases h
            have hA := sound_A C.e ihE [a, b] [p1, q1] (by simp only [optAll, e3, e4])
            have hT : PG X (.Tuple [.Name x px, .Name y py] kt pt) (gTg X.K (.tp [.nm i, .nm j])) := sound_T C.pg 2 _ _ (by simp only [cpT, optAll, e1, e2, Option.map_some, hq.2, Bool.false_eq_true, if_false])
            exact PS.weak (ps_asg (PE.weak (pe_tupN hA) fun σ H Q q => tTup_st q) hT (sole_no rfl) (cell_ok C.e.sc (by rw [hq.1]; rfl)) rfl) fun D σ H z => set_st (fun Q q => q) z
          · cases h
        · cases h
    · -- x, y, z = a, b, d
      rename_i x px y py z pz kt pt a b d k2 p2 pos
      split at h
      · rename_i hp
        split at h
        · rename_i i j l p1 q1 r1 e1 e2 e3 e4 e5 e6
          cases h
          have hp' := hp
          simp only [par3C, Bool.and_eq_true, Bool.not_eq_true', decide_eq_false_iff_not] at hp'
          obtain ⟨⟨⟨⟨⟨⟨⟨⟨⟨⟨⟨⟨⟨⟨h1, h2⟩, h3⟩, h3'⟩, h4⟩, h4'⟩, h5⟩, h5'⟩, h5''⟩, h6⟩, h7⟩, h7'⟩, h8⟩, h9⟩, hot'⟩ := hp'
          obtain ⟨i1, _⟩ := cpTn_ok e1
          obtain ⟨j1, _⟩ := cpTn_ok e2
          obtain ⟨l1, _⟩ := cpTn_ok e3
          have ne : ∀ {u w : Str} {m m' : Nat}, ixOf c.N u = some m → ixOf c.N w = some m' → u ≠ w → m ≠ m' := fun {u w m m'} a1 a2 hu z => by
            subst z
            have b1 := ixOf_get a1
            have b2 := ixOf_get a2
            rw [b1] at b2; cases b2
            exact hu rfl
          exact PS.weak (ps_par3 (C.e.calm hot') C.e.nd (by rw [C.e.N]; exact ixOf_get i1) (by rw [C.e.N]; exact ixOf_get j1) (by rw [C.e.N]; exact ixOf_get l1) (ne i1 j1 h5) (ne i1 l1 h5') (ne j1 l1 h5'') (by rw [C.e.sc]; exact locK_ok h2) (by rw [C.e.sc]; exact locK_ok h3) (by rw [C.e.sc]; exact locK_ok h3')
            (sound_A C.e ihE [a, b, d] [p1, q1, r1] (by simp only [optAll, e4, e5, e6])) (par3_ok C.e.sc hp)) fun D σ H z => par3_st z
        · cases h
      · cases h
    · -- (..) = e
      rename_i ts kk pp e pos hne hne3
      split at h
      · rename_i hc
        rw [Bool.and_eq_true] at hc
        split at h
        · rename_i t q e1 e2
          cases h
          exact PS.weak (ps_asg (ihE e q e2) (sound_T C.pg n _ t e1) (sole_no hc.1) (stores_no hc.2) rfl) fun D σ H z => set_st (fun Q q => q) z
        · cases h
      · cases h
    · -- o[i] = e
      rename_i o i sp e pos
      split at h
      · rename_i hc
        split at h
        · rename_i p1 q1 r1 e1 e2 e3
          cases h
          refine PS.weak (ps_asg (ihE e r1 e3) (pg_sub (ihE o p1 e1) (ihE i q1 e2) (set_any (by have := C.e.units; omega)) ?_) (sole_no hc) ?_ rfl) fun D σ H z => sub_st z
          · intro v
            cases i <;> first | rfl | (cases n <;> simp [cpE] at e2)
          · cases e <;> rfl
        · cases h
      · cases h
    · -- o.f = e
      rename_i o f ap e pos
      split at h
      · rename_i hc
        simp only [Bool.and_eq_true, decide_eq_true_eq, Bool.not_eq_true'] at hc
        split at h
        · rename_i p1 q1 e1 e2
          cases h
          exact PS.weak (ps_fldG (k := k) (W := W) (ihE o p1 e1) (ihE e q1 e2) (C.e.room hc.2) C.e.grd C.e.tk (swaps_no hc.1.1)) fun D σ H z => fld_st C.e.wd hc.1.2 z
        · cases h
      · cases h
    · rename_i o f ap op e pos
      split at h
      · rename_i hc
        simp only [decide_eq_true_eq] at hc
        split at h
        · rename_i p1 q1 e1 e2 e3
          cases h
          have := opOf_ok e2
          subst this
          exact PS.weak (ps_fldaug (ihE o p1 e1) (ihE e q1 e3) in_add) fun D σ H z => fldaug_st C.e.wd hc z
        · cases h
      · cases h
    · rename_i x px op e pos
      split at h
      · rename_i i q e1 e2 e3
        cases h
        have := opOf_ok e2
        subst this
        obtain ⟨h1, h2⟩ := cpTn_ok e1
        obtain ⟨h3, h4⟩ := C.pg.loc x h2
        exact PS.weak (ps_aug C.e.nd (by rw [C.e.N]; exact ixOf_get h1) h3 (ihE e q e3) ip_add h4) fun D σ H z => aug_st (fun x y τ S1 => by cases x <;> cases y <;> rfl) z
      · rename_i i q e1 e2 e3
        cases h
        have := opOf_ok e2
        subst this
        obtain ⟨h1, h2⟩ := cpTn_ok e1
        obtain ⟨h3, h4⟩ := C.pg.loc x h2
        exact PS.weak (ps_aug C.e.nd (by rw [C.e.N]; exact ixOf_get h1) h3 (ihE e q e3) ip_sub h4) fun D σ H z => aug_st (fun x y τ S1 => by cases x <;> cases y <;> rfl) z
      · cases h
    · rename_i t a b pos
      split at h
      · rename_i hn
        split at h
        · rename_i p1 q1 r1 e1 e2 e3
          cases h
          refine PS.weak (ps_if (ihT t p1 e1 hn) (sound_Ss ihS a q1 e2) (sound_Ss ihS b r1 e3)) fun D σ H z => ?_
          refine tIS.test (f := fun τ b S1 => if b then evSs Γ sub q1 τ S1 else evSs Γ sub r1 τ S1) (D := D) (tIS.same z fun τ S => ?_) fun ι1 S1 H1 τ b r rs o => ?_
          · simp only [evS]
            cases evE Γ p1 τ S with
            | bad => rfl
            | exc c S1 => rfl
            | ok v S1 => cases v with
              | bl b => cases b <;> rfl
              | non => rfl
              | int b => rfl
              | str b => rfl
              | tup b => rfl
              | ref b => rfl
              | cls b => rfl
          · cases b with
            | true => simp only [if_true] at o ⊢; exact ⟨ι1, S1, τ, r, rs, o⟩
            | false => simp only [Bool.false_eq_true, if_false] at o ⊢; exact ⟨ι1, S1, τ, r, rs, o⟩
        · cases h
      · cases h
    · rename_i t b pos
      split at h
      · rename_i hn
        simp only [Bool.and_eq_true, Bool.not_eq_true'] at hn
        split at h
        · rename_i p1 q1 e1 e2
          cases h
          exact PS.weak (ps_while C.own (ihT t p1 e1 hn.1) (sound_Ss ihS b q1 e2)) fun D σ H z => while_st (tIS.same z fun τ S => by simp only [evS])
        · cases h
      · cases h
    · rename_i tg it b pos
      split at h
      · rename_i hn
        simp only [Bool.and_eq_true, Bool.not_eq_true'] at hn
        split at h
        · rename_i t i q e1 e2 e3
          cases h
          exact PS.weak (ps_for C.own (C.e.calm hn.2) (sound_It C.e ihE e2) (sound_T C.pg n tg t e1) (sound_Ss ihS b q e3) (fold_no hn.1)) fun D σ H z => for_st (cpT_tp e1) (tIS.same z fun τ S => by simp only [evS])
        · cases h
      · cases h
    · -- raise X('..')
      rename_i x px ms jj p2 p3 pos
      split at h
      · rename_i hp
        simp only [Bool.and_eq_true, decide_eq_true_eq, Bool.not_eq_true'] at hp
        cases h
        obtain ⟨Cl, c1, c2, c3, c4, c5, c6⟩ := C.exc.made x hp.1.2
        refine PS.weak (ps_raise (C.e.calm hp.2) C.e.tk (pmk_own PySem.F.excBase_ValueError c3 c2 c4 (raises_own c5 c6) (C.e.gl hp.1.1.2) (plain_dbg hp.1.1.1).1)) fun D σ H z => ?_
        obtain ⟨ι, S, τ, rl, rs, o⟩ := z
        simp only [evS] at o
        exact o ι H σ Step.refl rl rs Cl c1
      · cases h
    · -- try
      rename_i b hd hs pos
      split at h
      · cases h
      split at h
      · rename_i q l e1 e2
        cases h
        obtain ⟨L, hL, go⟩ := sound_H C (f := cpS g n ⟨c.N, c.sc, true⟩) (fun a pn ss u hu => sound_Ss (fun st p h => IH _ _ W0 k st p (C.suite a pn) h) ss u hu) (hd :: hs) l e2
        refine PS.weak (ps_try_many (tb := fun W => tIS X.K cm W (evSs Γ sub q)) C.stk C.frm C.e.tk (fun W' pn xe tk hp => sound_Ss (fun st p h => IH c _ W' k st p (C.tr tk hp) h) b q e1) hL) fun D σ H z => ?_
        obtain ⟨ι, S, τ, rl, rs, o⟩ := z
        refine ⟨ι, S, τ, rl, rs, ?_⟩
        simp only [evS] at o
        cases e3 : evSs Γ sub q τ S with
        | exc cn τ1 S1 =>
          rw [e3] at o
          exact fun ι1 H1 σ1 st r1 rs1 Cn hC => go D cn Cn τ1 S1 ι1 H1 σ1 hC r1 rs1 (OutS.shift o r1 st)
        | next τ1 S1 => rw [e3] at o; exact o
        | ret v S1 => rw [e3] at o; exact o
        | brk τ1 S1 => rw [e3] at o; exact o
        | cnt τ1 S1 => rw [e3] at o; exact o
        | bad => rw [e3] at o; exact o
      · cases h
    · cases h
end Wg
/-! WgS: defs. -/
namespace Wg
open PySem PySem.Spec PyProof.Rows L2 StX ClX
/-- a def of the text, by its body, where no repr is under way -/
theorem fn_G {P : Program} {w : World} {K : PySem.W.Frag} {mg : Str → Option Value} {base : Heap} {k : Nat} {x qual : Str} {st : Stmt} {f : Addr} {fd : FuncData} {N ps : List Str} {sp : Sp}
    (F : Fun K x qual st f fd) (S : FnScope N ps (defScope st)) (hb : Binds K fd ps []) (len : ∀ vs H Q E, sp vs H Q E → vs.length = ps.length)
    (hbody : ∀ (cdv : Value) (A : Around) (outer : List Env) (s : Shared) (H : Hp) (vs : List V) (Q : VK) (E : XK), Room (2 * k + 2) (A.deeper (envOfC qual (defScope st) s.heap.objs.size f cdv)) → A.guards = some [] → sp vs H Q E →
      ∃ t, PSs (cxOf (L2.CX P w) P w K mg base N qual (defScope st) f cdv A outer s H E) (defBody st) t ∧ t { nx := fun _ H' => Q .non H', rt := Q } (start N vs) H) :
    FnG P w K mg base (k + 1) f sp := by
  obtain ⟨oc, od, kV, doc, pm, an, cdv, ct, osl, efd, lk, hcd⟩ := F.ex
  subst efd
  constructor
  intro A outer s H us vs Q E hr hg e0 r hsp
  have hl := len _ _ _ _ hsp
  have stays : ∀ b o, base.get? b = some o → s.heap.get? b = some o := fun b o e => (e0.bs b o e).1
  have KX := e0.mod.kin.keeps stays
  have lim := e0.mod.nolimit.keeps stays
  have hul : us.length = ps.length := by rw [← r.length]; exact hl
  have bnd := hb s us KX (by rw [List.append_nil]; exact hul)
  rw [List.append_nil] at bnd
  have kinds : ∀ y ∈ ps.zip us, (defScope st).names.lookup y.1 = some .local ∨ ((defScope st).names.lookup y.1 = some .cell ∧ ((cellsFrom (s.heap.objs.size + 1) (defScope st).names []).lookup y.1).isSome = true) := by
    rintro ⟨n, v⟩ hy
    rcases S.par n (List.of_mem_zip hy).1 with q | q
    · exact Or.inl q
    · exact Or.inr ⟨q, PySem.W.cellsFrom_some _ _ _ (Or.inl q)⟩
  refine codeAny_call_function hr.depth (KX _ _ lk) rfl S.co S.gen rfl (PySem.W.codeRec_of KX hcd) (bnd _ _ _ _ ?_)
  refine wpAny_newFunctionEnv_cells S.kind kinds fun env he s1 xx => ?_
  subst he
  refine ⟨lim.keeps xx.toInCall.keep, codeAny_func ?_⟩
  obtain ⟨t, ht, hq⟩ := hbody cdv A outer s H vs Q E (Room.deeper (k := 2 * k + 2) hr _) hg hsp
  have I0 := inv_start (CX := L2.CX P w) (E := E) (qual := qual) (f := f) (cd := cdv) S hr.hd e0 hl r xx
  refine wpAny_mono (ht.run [] s1 (start N vs) H _ I0 hq) (fun fl s' hs => ?_) fun e s' hs => hs
  match fl, hs with
  | .ret u, ⟨v, σ', H', J, rv, q⟩ => exact ⟨v, H', J.os, J.bare, J.base, J.hok, rv, q⟩
  | .next, ⟨σ', H', J, q⟩ => exact ⟨V.non, H', J.os, J.bare, J.base, J.hok, rfl, q⟩
  | .brk, ⟨_, _, _, q⟩ => exact q.elim
  | .cont, ⟨_, _, _, q⟩ => exact q.elim
/-- def f(a, .., *v) -/
theorem fn_GS {P : Program} {w : World} {K : PySem.W.Frag} {mg : Str → Option Value} {base : Heap} {k : Nat} {x qual : Str} {st : Stmt} {f : Addr} {fd : FuncData} {N ps : List Str} {pv : Str} {sp : Sp}
    (F : Fun K x qual st f fd) (S : FnScope N (ps ++ [pv]) (defScope st)) (hb : ∀ us rest : List Value, us.length = ps.length → bindArgs fd ⟨us ++ rest, []⟩ = (newTuple rest >>= fun t => pure (ps.zip us ++ [(pv, t)])))
    (hbody : ∀ (cdv : Value) (A : Around) (outer : List Env) (s : Shared) (H : Hp) (vs : List V) (Q : VK) (E : XK), Room (2 * k + 2) (A.deeper (envOfC qual (defScope st) s.heap.objs.size f cdv)) → A.guards = some [] → sp vs H Q E →
      ∃ t, PSs (cxOf (L2.CX P w) P w K mg base N qual (defScope st) f cdv A outer s H E) (defBody st) t ∧ t { nx := fun _ H' => Q .non H', rt := Q } (start N vs) H) :
    FnG P w K mg base (k + 1) f (fun vs H Q E => ∃ ws rest, vs = ws ++ rest ∧ ws.length = ps.length ∧ rest.length ≤ sizeLine ∧ ∀ (p : Addr) (o : Obj), H p = Option.none → o.dict = Option.none → sp (ws ++ [V.ref p]) (upd H p (.frz o (.tup rest))) Q E) := by
  obtain ⟨oc, od, kV, doc, pm, an, cdv, ct, osl, efd, lk, hcd⟩ := F.ex
  subst efd
  constructor
  intro A outer s H us vs Q E hr hg e0 r hsp
  obtain ⟨ws, rest, ev, hl, hz, hq⟩ := hsp
  subst ev
  obtain ⟨u1, u2, eu, r1, r2⟩ := vals_split r
  subst eu
  have hn : H s.heap.objs.size = Option.none := e0.hok.fresh (Nat.le_refl _)
  have hl1 : u1.length = ps.length := by rw [← r1.length]; exact hl
  have hl2 : u2.length ≤ sizeLine := by rw [← r2.length]; exact hz
  refine run_bnd (k := 2 * k + 2) lk hcd S hr e0 (G := fun xs H2 => ∃ (p : Addr) (o : Obj), H p = Option.none ∧ o.dict = Option.none ∧ xs = ws ++ [V.ref p] ∧ H2 = upd H p (.frz o (.tup rest))) (fun A' Ex Q' h => ?_) fun s2 H2 xs ⟨p, o, hp, ho, ex, eH⟩ hr' => ?_
  · rw [hb u1 u2 hl1]
    refine wpAny_bind (wpAny_newTuple (wpAny_pure ?_) hl2)
    have new : ObjOk P w (upd H s.heap.objs.size (.frz (tObj u2) (.tup rest))) (s.heap.push (tObj u2)) s.heap.objs.size (.frz (tObj u2) (.tup rest)) := ⟨Heap.get?_push_size _ rfl, hz, u2, r2, ⟨_, Heap.get?_push_size _ rfl, rfl, _, rfl⟩⟩
    have un := un_laid (fs := frs outer) (s := s) (o := tObj u2) (u := .frz (tObj u2) (.tup rest)) hn
    have z := h _ _ (ws ++ [V.ref s.heap.objs.size]) (u1 ++ [Value.ref s.heap.objs.size]) (env0_laid e0 new) un rfl (fun e s' => cxUp outer s H _ _ E e s' un (fun b o q => Heap.get?_push_of_some _ q) rfl) (r1.append (.cons rfl .nil))
      (by rw [List.length_append, List.length_append, hl] <;> rfl) ⟨_, _, hn, rfl, rfl, rfl⟩
    rw [List.zip_append hl1.symm] at z
    exact z
  · subst ex eH
    exact hbody cdv A outer s2 _ _ Q E hr' hg (hq p o hp ho)
/-! ### all defs -/
/-- how the arguments are bound -/
def BindOk (K : PySem.W.Frag) (fd : FuncData) (ps : List Str) (d : PD) : Prop :=
  (d.np < 1000 ∧ Binds K fd ps [] ∧ ps.length = d.np) ∨
  (1000 ≤ d.np ∧ ∃ ps0 pv, ps = ps0 ++ [pv] ∧ ps0.length = d.np - 1000 ∧ ∀ us rest : List Value, us.length = ps0.length → bindArgs fd ⟨us ++ rest, []⟩ = (newTuple rest >>= fun t => pure (ps0.zip us ++ [(pv, t)])))
/-- a def of the text and its evaluation -/
structure DefOk (g : GI) (K : PySem.W.Frag) (x : Str) (d : PD) (f : Addr) (fd : FuncData) (st : Stmt) (N ps : List Str) (qual : Str) (m : Nat) : Prop where
  fn : Fun K x qual st f fd
  sc : FnScope N ps (defScope st)
  bnd : BindOk K fd ps d
  ns : N.length = d.ns
  cp : optAll (cpS g m ⟨N, defScope st, false⟩) (defBody st) = some d.body
structure Top (g : GI) (pr : Prg) (K : PySem.W.Frag) (mg : Str → Option Value) (cm : Cm) : Prop where
  blt : ∀ x ∈ g.blt, mg x = none
  glob : ∀ x v, x ∈ g.glob → pr.glob.lookup x = some v → ∃ u z, mg x = some u ∧ RelV z u ∧ ∀ ι n H, RV K ι n H v z
  exc : Xc g K mg cm pr.sub
  fn : ∀ q f, cm.fn q = some f → ∃ x d fd st N ps qual m, pr.defs.lookup q = some d ∧ DefOk g K x d f fd st N ps qual m
  top : ∀ x ∈ g.defs, ∃ f, cm.fn x = some f ∧ mg x = some (.ref f)
  cls : ∀ c ∈ g.cls, ∃ C, cm.ins c = some C ∧ ClsK g K mg cm pr.att pr.isub c C
  ins : ∀ c C, cm.ins c = some C → c ∈ g.cls
  attc : ∀ c f a, pr.att c f = some a → c ∈ g.cls
theorem start_ok {K : PySem.W.Frag} {ι : Nat → Addr} {n : Nat} {H : Hp} {N : List Str} {d : PD} {ivs : List IV} {vs : List V} (h : RVs K ι n H ivs vs) (hn : N.length = d.ns) : RSl K ι n H (startI d ivs) (start N vs) := by
  have hl := h.length
  refine ⟨by simp [startI, L2.start, hl, hn], fun i iv e => ?_⟩
  unfold startI at e
  by_cases hi : i < ivs.length
  · rw [List.getElem?_append_left (by simpa using hi), List.getElem?_map] at e
    cases q : ivs[i]? with
    | none => rw [q] at e; cases e
    | some a =>
      rw [q] at e
      simp only [Option.map_some, Option.some.injEq] at e
      subst e
      obtain ⟨v, hv, rv⟩ := h.get q
      refine ⟨v, ?_, rv⟩
      unfold L2.start
      rw [List.getElem?_append_left (by simpa [hl] using hi), List.getElem?_map, hv]
      rfl
  · rw [List.getElem?_append_right (by simpa using hi), List.getElem?_replicate] at e
    split at e <;> cases e
theorem body_ok {P : Program} {w : World} {g : GI} {pr : Prg} {K : PySem.W.Frag} {mg : Str → Option Value} {cm : Cm} {base : Heap} {k : Nat} {x : Str} {d : PD} {f : Addr} {fd : FuncData} {st : Stmt} {N ps : List Str} {qual : Str} {m : Nat}
    (T : Top g pr K mg cm) (ih : Wd g P w K mg base cm (mkGam pr (run pr k)) k) (D : DefOk g K x d f fd st N ps qual m) {cdv : Value} {A : Around} {outer : List Env} {s : Shared} {H H0 : Hp} {vs : List V} {Q : VK} {E : XK} {ι : Nat → Addr} {S : Sto} {ivs : List IV}
    (hr : Room (2 * k + 2) (A.deeper (envOfC qual (defScope st) s.heap.objs.size f cdv))) (hg : A.guards = some []) (rl : Rel K cm ι S H) (rv : RVs K ι S.length H ivs vs) (r0 : Rel K cm ι S H0) (st0 : Step ι S H0 ι S H) (o : OutC K cm ι S H0 ((evSs (mkGam pr (run pr k)) pr.sub d.body (startI d ivs) S).done S) Q E) :
    ∃ t, PSs (cxOf (L2.CX P w) P w K mg base N qual (defScope st) f cdv A outer s H E) (defBody st) t ∧ t { nx := fun _ H' => Q .non H', rt := Q } (start N vs) H := by
  let X := cxOf (L2.CX P w) P w K mg base N qual (defScope st) f cdv A outer s H E
  have tk : Takes X (fun cls d _ H' => E cls d H') := takes_of rfl rfl rfl rfl
  have C : CxS g ⟨N, defScope st, false⟩ cm (mkGam pr (run pr k)) pr.sub X (fun cls d _ H' => E cls d H') k :=
    ⟨⟨ih, rfl, D.sc.nd, rfl, fun _ => rfl, fun _ => hr, by have := hr.un; exact (by omega : (A.deeper (envOfC qual (defScope st) s.heap.objs.size f cdv)).units + 70 < cLine), hg, tk⟩, passes_of rfl, rfl, rfl, fun _ => rfl, T.exc⟩
  refine ⟨_, sound_Ss (fun st' p h => sound_S g cm _ pr.sub m _ X _ k st' p C h) _ _ D.cp, ι, S, startI d ivs, rl, start_ok rv D.ns, ?_⟩
  cases e : evSs (mkGam pr (run pr k)) pr.sub d.body (startI d ivs) S with
  | next τ1 S1 =>
    rw [e] at o
    intro ι1 H1 σ1 st1 r1 _
    have st2 := Step.trans rl st0 st1
    obtain ⟨a1, a2, a3⟩ := settle_ok (v := .non) (x := .non) r0 st2 r1 (by simp only [RV])
    exact o ι1 H1 .non a1 a2 (by simp only [RV])
  | ret v S1 =>
    rw [e] at o
    intro ι1 H1 z st1 r1 rz
    have st2 := Step.trans rl st0 st1
    obtain ⟨a1, a2, a3⟩ := settle_ok r0 st2 r1 rz
    exact o ι1 H1 z a1 a2 a3
  | exc cn τ1 S1 =>
    rw [e] at o
    intro ι1 H1 σ1 st1 r1 _ Cn hC
    have st2 := Step.trans rl st0 st1
    obtain ⟨a1, a2, a3⟩ := settle_ok (v := .non) (x := .non) r0 st2 r1 (by simp only [RV])
    exact o ι1 H1 a1 a2 Cn hC
  | brk τ1 S1 => rw [e] at o; exact o.elim
  | cnt τ1 S1 => rw [e] at o; exact o.elim
  | bad => rw [e] at o; exact o.elim
theorem FnG.imp {P : Program} {w : World} {K : PySem.W.Frag} {mg : Str → Option Value} {base : Heap} {k : Nat} {f : Addr} {sp sp' : Sp} (F : FnG P w K mg base k f sp) (h : ∀ vs H Q E, sp' vs H Q E → sp vs H Q E) : FnG P w K mg base k f sp' :=
  ⟨fun A outer s H us vs Q E hr hg e0 r q => F.run A outer s H us vs Q E hr hg e0 r (h _ _ _ _ q)⟩
set_option maxRecDepth 100000 in
theorem def_fn {P : Program} {w : World} {g : GI} {pr : Prg} {K : PySem.W.Frag} {mg : Str → Option Value} {cm : Cm} {base : Heap} {k : Nat} {q x : Str} {d : PD} {f : Addr} {fd : FuncData} {st : Stmt} {N ps : List Str} {qual : Str} {m : Nat}
    (T : Top g pr K mg cm) (ih : Wd g P w K mg base cm (mkGam pr (run pr k)) k) (hd : pr.defs.lookup q = some d) (D : DefOk g K x d f fd st N ps qual m) : FnG P w K mg base (k + 1) f (spI K cm (run pr (k + 1) q)) := by
  rcases D.bnd with ⟨hnp, hb, hl⟩ | ⟨hnp, ps0, pv, hps, hl, hb⟩
  · refine fn_G D.fn D.sc hb (fun vs H Q E h => ?_) fun cdv A outer s H vs Q E hr hg h => ?_
    · obtain ⟨ι, S, ivs, _, rv, o⟩ := h
      simp only [run, hd, hnp, if_true] at o
      split at o
      · rename_i hl'; rw [rv.length, hl', hl]
      · exact o.elim
    · obtain ⟨ι, S, ivs, rl, rv, o⟩ := h
      simp only [run, hd, hnp, if_true] at o
      split at o
      · exact body_ok T ih D hr hg rl rv rl Step.refl o
      · exact o.elim
  · have hS := D.sc
    rw [hps] at hS
    refine FnG.imp (fn_GS (sp := fun vs H Q E => ∃ ι S ivs H0, Rel K cm ι S H ∧ RVs K ι S.length H ivs vs ∧ Rel K cm ι S H0 ∧ Step ι S H0 ι S H ∧ OutC K cm ι S H0 ((evSs (mkGam pr (run pr k)) pr.sub d.body (startI d ivs) S).done S) Q E) D.fn hS hb fun cdv A outer s H vs Q E hr hg h => ?_) fun vs H Q E h => ?_
    · obtain ⟨ι, S, ivs, H0, rl, rv, r0, st0, o⟩ := h
      exact body_ok T ih D hr hg rl rv r0 st0 o
    · obtain ⟨ι, S, ivs, rl, rv, o⟩ := h
      have hnp' : ¬ d.np < 1000 := by omega
      simp only [run, hd, hnp', if_false] at o
      split at o
      · rename_i hz
        rw [Bool.and_eq_true, decide_eq_true_eq] at hz
        have hlen := rv.length
        have hz2 := sz_le hz.2
        refine ⟨vs.take (d.np - 1000), vs.drop (d.np - 1000), (List.take_append_drop _ _).symm, by rw [List.length_take, hl]; omega, by rw [List.length_drop]; omega, fun p ob hp hob => ?_⟩
        obtain ⟨r1, st1⟩ := rl.upd_new (o := .frz ob (.tup (vs.drop (d.np - 1000)))) hp
        refine ⟨ι, S, pack (d.np - 1000) ivs, H, r1, ?_, rl, st1, o⟩
        unfold pack
        refine ((rv.take _).step rl st1).append (.cons ?_ .nil)
        simp only [RV]
        exact ⟨p, _, rfl, .inl ⟨ob, hob, upd_same⟩, (rv.drop _).step rl st1⟩
      · exact o.elim
theorem all_defs {P : Program} {w : World} {g : GI} {pr : Prg} {K : PySem.W.Frag} {mg : Str → Option Value} {cm : Cm} (T : Top g pr K mg cm) (base : Heap) : ∀ k : Nat, Wd g P w K mg base cm (mkGam pr (run pr k)) k := by
  intro k
  have key : ∀ q f, cm.fn q = some f → FnG P w K mg base k f (spI K cm (run pr k q)) := by
    induction k with
    | zero =>
      intro q f hq
      refine ⟨fun A outer s H us vs Q E hr hg e0 r h => ?_⟩
      obtain ⟨ι, S, ivs, _, _, o⟩ := h
      simp only [run] at o
      exact o.elim
    | succ k ih =>
      intro q f hq
      have W0 : Wd g P w K mg base cm (mkGam pr (run pr k)) k := ⟨T.blt, T.cls, T.ins, T.attc, ih, T.glob, fun x hx => by
        obtain ⟨f, h1, h2⟩ := T.top x hx
        obtain ⟨x', d, fd, st, N, ps, qual, m, _, D⟩ := T.fn x f h1
        exact ⟨f, h2, D.fn.kp, ih x f h1⟩⟩
      obtain ⟨x', d, fd, st, N, ps, qual, m, hd, D⟩ := T.fn q f hq
      exact def_fn T W0 hd D
  exact ⟨T.blt, T.cls, T.ins, T.attc, key, T.glob, fun x hx => by
    obtain ⟨f, h1, h2⟩ := T.top x hx
    obtain ⟨x', d, fd, st, N, ps, qual, m, _, D⟩ := T.fn x f h1
    exact ⟨f, h2, D.fn.kp, key x f h1⟩⟩
end Wg
/-! WgT: the end of a law. -/
namespace Wg
open PySem PySem.Spec PyProof.Rows L2
/-- no list stands in the written part -/
def noLst (K : PySem.W.Frag) : Bool := K.all fun p => match p.2.cls with
  | .type n => !(n == "list")
  | _ => true
theorem noLst_at {K : PySem.W.Frag} (h : noLst K = true) {a : Addr} {o : Obj} (e : K.lookup a = some o) : o.cls ≠ .type "list" := by
  intro z
  have hm : (a, o) ∈ K := by
    revert e
    induction K with
    | nil => intro e; simp at e
    | cons p r ih =>
      intro e
      rw [List.lookup_cons] at e
      cases q : a == p.1 with
      | true => rw [q] at e; simp only [Option.some.injEq] at e; have : a = p.1 := by simpa using q
                subst this; subst e; exact List.mem_cons_self
      | false => rw [q] at e; exact List.mem_cons_of_mem _ (ih (by simp only [noLst, List.all_cons, Bool.and_eq_true] at h; exact h.2) e)
  have := List.all_eq_true.mp h _ hm
  rw [z] at this
  simp at this
section
variable {P : Program} {w : World} {K : PySem.W.Frag} {mg mb : Str → Option Value} {k : Nat} {fa a : Addr} {sp : Sp} {s₁ : Shared} {vs : List Value} {ns : List Int}
theorem law_G (KX : K.In s₁.heap) (hns : s₁.heap.Ns mainGlobals mg) (hb : s₁.heap.Ns builtinsNs mb) (hbb : ∀ x : Str, x ≠ "__name__" → mb x = bootBuiltins x) (hlim : s₁.heap.NoLimit) (hg : s₁.gens = #[])
    (ha : s₁.heap.get? a = some { cls := .type "list", data := .seq vs.toArray }) (hi : IntsAre vs ns) (hl : ns.length ≤ sizeLine) (nl : noLst K = true) (hr : Room (2 * k + 1) callerA) (F : ∀ base : Heap, FnG P w K mg base k fa sp)
    (hsp : ∀ H : Hp, (∃ o, H a = some (.frz o (.lst (ns.map V.int)))) → (∀ b, b ≠ a → H b = none) → sp [.ref a] H (fun v _ => v = .bl true) fun _ _ _ => False) :
    codeAny (model P w) callerA (.call (.ref fa) ⟨[.ref a], []⟩) (fun r s' => r = .ok (.ret (.bool true)) ∧ OldK s₁.heap s'.heap ∧ s'.os = s₁.os ∧ AllBare s'.gens) s₁ := by
  have hk : K.lookup a = none := by
    cases e : K.lookup a with
    | none => rfl
    | some o =>
      have q := KX a o e
      rw [ha] at q
      cases q
      exact absurd rfl (noLst_at nl e)
  generalize ho : ({ cls := .type "list", data := .seq vs.toArray } : Obj) = ob at ha
  have hob : ob.data = .seq vs.toArray 0 := by rw [← ho]
  -- the script is all that is tracked
  let H : Hp := fun b => if b = a then some (.frz ob (.lst (ns.map V.int))) else none
  have Ha : H a = some (.frz ob (.lst (ns.map V.int))) := if_pos rfl
  have Hn : ∀ b, b ≠ a → H b = none := fun b h => if_neg h
  have rv := vals_ints hi
  have hok : HOk P w H s₁.heap := fun b u e => by
    by_cases h : b = a
    · subst h
      rw [Ha] at e; cases e
      refine ⟨ha, by rw [List.length_map]; exact hl, vs, 0, rv, ?_⟩
      rw [ha, ← ho]
    · rw [Hn b h] at e; cases e
  have up : ∀ {b : Addr} {o : Obj}, s₁.heap.get? b = some o → b ≠ a → (hidT s₁.heap H).get? b = some o := fun e h => hidT_get e (Hn _ h)
  have nsUp : ∀ {b : Addr} {m : Str → Option Value}, s₁.heap.Ns b m → (hidT s₁.heap H).Ns b m := by
    rintro b m ⟨o, es, ep, e, d, r⟩
    refine ⟨o, es, ep, up e ?_, d, r⟩
    rintro rfl
    rw [ha] at e; cases e
    rw [hob] at d; cases d
  have hKb : K.In (hidT s₁.heap H) := fun b o e => up (KX b o e) (by rintro rfl; rw [hk] at e; cases e)
  have hM : Mod K mg (hidT s₁.heap H) := by
    obtain ⟨mc, l1, l2⟩ := hlim
    exact ⟨hKb, nsUp hns, ⟨mb, nsUp hb, hbb⟩, mc, nsUp l1, l2⟩
  have e0 : Env0 P w K mg (hidT s₁.heap H) callerA [] s₁ H :=
    ⟨rfl, hM, fun b o e => of_hidT e, Nat.le_of_eq (hidT_size _ _), trivial, fun b z => (by cases z), hok, AllBare.of_eq hg⟩
  have key := (F (hidT s₁.heap H)).run callerA [] s₁ H [.ref a] [.ref a] _ _ hr rfl e0 (.cons rfl .nil) (hsp H ⟨_, Ha⟩ Hn)
  refine codeAny_mono key fun r s' h => ?_
  match r, h with
  | .error e, h =>
    obtain ⟨_, _, _, _, _, _, _, _, _, _, _, _, z⟩ := h
    exact z.elim
  | .ok (.ret u), ⟨v, H', os, bare, un, hok', r', q⟩ =>
    obtain rfl : v = .bl true := q
    obtain rfl : u = Value.bool true := r'
    refine ⟨rfl, OldK.of_keep fun b o e => ?_, os, bare⟩
    by_cases h : b = a
    · subst h
      have z2 := un.frzs b _ _ Ha
      obtain ⟨e2, _⟩ := hok' b _ z2
      rw [ha] at e; cases e
      exact e2
    · exact un.keep b o e (Hn b h) (by intro z; cases z) (by intro z; cases z)
end
end Wg
namespace Wg
open PySem PySem.Spec PyProof.Rows L2
theorem all_nil {α : Type} {p : α → Prop} : ∀ x ∈ ([] : List α), p x := fun _ h => by cases h
theorem all_cons {α : Type} {p : α → Prop} {a : α} {l : List α} (h : p a) (t : ∀ x ∈ l, p x) : ∀ x ∈ a :: l, p x := fun x hx => by
  rcases List.mem_cons.mp hx with rfl | hx
  · exact h
  · exact t x hx
end Wg
/-! WnA: a law's head by one run: the facts are read off the heap by a Hook. -/
namespace Wg
open PySem PySem.Spec PyProof.Rows L2 StX ClX
/-! ### where things stand -/
inductive HPath where
  | top (x : Str) | meth (c m : Str) | getter (c m : Str) | setter (c m : Str) | cmeth (c m : Str)
def recAt (K : PySem.W.Frag) (p : Addr) (T : String) (i : Nat) : Addr := match PySem.W.recIn K p T with
  | some vs => match vs[i]? with
    | some (.ref a) => a
    | _ => 0
  | none => 0
def cmAt (K : PySem.W.Frag) (C : Addr) (m : Str) : Addr := match PySem.W.findCls K (.ref C) (.type "type") m with
  | some (.get _ (.ref p) _ _) => p
  | _ => 0
def HPath.adr (K : PySem.W.Frag) : HPath → Addr
  | .top x => He.ga K x
  | .meth c m => He.ma K (He.ga K c) m
  | .getter c m => recAt K (He.ma K (He.ga K c) m) "property" 0
  | .setter c m => recAt K (He.ma K (He.ga K c) m) "property" 1
  | .cmeth c m => recAt K (cmAt K (He.ga K c) m) "classmethod" 0
/-- a def: its key, where it stands, name, qualified name, statement, local names, parameters -/
structure HDef where
  q : Str
  at_ : HPath
  x : Str
  qual : Str
  st : Stmt
  N : List Str
  ps : List Str
abbrev HDef.adr (K : PySem.W.Frag) (d : HDef) : Addr := d.at_.adr K
/-! ### what is read off -/
abbrev HV : Type := Option (Str × Str × Arguments × FuncBody × Scope × Addr × List (Str × Addr) × Value × Addr)
def hvOf (K : PySem.W.Frag) (a : Addr) : HV := match K.lookup a with
  | some ⟨_, _, .func fd, _⟩ => some (fd.name, fd.qualname, fd.params, fd.body, fd.scope, fd.globals, fd.closure, fd.defaults, fd.builtins)
  | _ => none
def HDef.val (d : HDef) : HV := some (d.x, d.qual, defArgs d.st, .stmts (defBody d.st), defScope d.st, mainGlobals, [], .none, builtinsNs)
def eqV (a b : Option (Option Value)) : Bool := He.eqO a b
def isRef (o : Option (Option Value)) (a : Addr) : Bool := match o with
  | some (some (.ref b)) => Nat.beq b a
  | _ => false
theorem isRef_ok {o : Option (Option Value)} {a : Addr} (h : isRef o a = true) : o = some (some (.ref a)) := by
  unfold isRef at h
  split at h
  · rw [Nat.eq_of_beq_eq_true h]
  · cases h
def isBlt (o : Option (Option Value)) (s : String) : Bool := match o with
  | some (some (.builtin t)) => decide (t = s)
  | _ => false
theorem isBlt_ok {o : Option (Option Value)} {s : String} (h : isBlt o s = true) : o = some (some (.builtin s)) := by
  unfold isBlt at h
  split at h
  · rw [of_decide_eq_true h]
  · cases h
def isNone (o : Option (Option Value)) : Bool := match o with
  | some none => true
  | _ => false
theorem isNone_ok {o : Option (Option Value)} (h : isNone o = true) : o = some none := by
  unfold isNone at h
  split at h
  · rfl
  · cases h
def isB (o : Option Bool) (b : Bool) : Bool := match o with
  | some c => c == b
  | none => false
theorem isB_ok {o : Option Bool} {b : Bool} (h : isB o b = true) : o = some b := by
  unfold isB at h
  split at h
  · rw [eq_of_beq h]
  · cases h
def codeB (K : PySem.W.Frag) (a : Addr) (q : Str) : Bool := match K.lookup a with
  | some ⟨_, _, .func fd, _⟩ => PySem.W.codeIn K fd.code q
  | _ => false
/-- a constant as it stands -/
def litB (v : IV) (u : Value) : Bool := match v, u with
  | .int i, .int j _ => decide (i = j)
  | .str x, .str y _ => decide (x = y)
  | _, _ => false
theorem litB_ok {v : IV} {u : Value} (h : litB v u = true) : ∃ z, RelV z u ∧ ∀ K ι n H, RV K ι n H v z := by
  unfold litB at h
  split at h
  · rename_i i j t
    exact ⟨.int i, ⟨t, by rw [of_decide_eq_true h]⟩, fun K ι n H => by simp only [RV]⟩
  · rename_i i j t
    exact ⟨.str i, ⟨t, by rw [of_decide_eq_true h]⟩, fun K ι n H => by simp only [RV]⟩
  · cases h
def globB (K : PySem.W.Frag) (x : Str) (o : Option IV) : Bool := match o with
  | none => true
  | some v => match PySem.W.nsIn K mainGlobals x with
    | some (some u) => litB v u
    | _ => false
def excB (g : GI) (sub : Str → Str → Bool) (K : PySem.W.Frag) (x : Str) : Bool :=
  isRef (PySem.W.nsIn K mainGlobals x) (He.ga K x) && (He.Fa.exc x).ok K && g.exc.all fun y => isB (PySem.W.exmOne K (.ref (He.ga K x)) (.ref (He.ga K y))) (sub x y)
def adrOf (hs : List HDef) (K : PySem.W.Frag) (q : Str) : Option Addr := match hs.find? fun d => decide (d.q = q) with
  | some d => some (d.adr K)
  | none => none
def isSome' (o : Option Addr) (a : Addr) : Bool := match o with
  | some b => Nat.beq b a
  | none => false
theorem isSome'_ok {o : Option Addr} {a : Addr} (h : isSome' o a = true) : o = some a := by
  unfold isSome' at h
  split at h
  · rw [Nat.eq_of_beq_eq_true h]
  · cases h
def crB (K : PySem.W.Frag) (C : Addr) : Bool := PySem.W.readsIn K C (.type "type") && isBlt (PySem.W.specialIn K (.ref C) "__getattribute__") "type.__getattribute__"
def isGet (o : Option PySem.W.CFound) (p C : Addr) : Bool := match o with
  | some (.get (.builtin s) (.ref a) .none (.ref b)) => decide (s = "classmethod.__get__") && (Nat.beq a p && Nat.beq b C)
  | _ => false
theorem isGet_ok {o : Option PySem.W.CFound} {p C : Addr} (h : isGet o p C = true) : o = some (.get (.builtin "classmethod.__get__") (.ref p) .none (.ref C)) := by
  unfold isGet at h
  split at h
  · simp only [Bool.and_eq_true, decide_eq_true_eq] at h
    rw [h.1, Nat.eq_of_beq_eq_true h.2.1, Nat.eq_of_beq_eq_true h.2.2]
  · cases h
def recB (K : PySem.W.Frag) (p : Addr) (T : String) (a : Addr) : Bool := match PySem.W.recIn K p T with
  | some (.ref b :: _) => Nat.beq b a
  | _ => false
theorem recB_ok {K : PySem.W.Frag} {p a : Addr} {T : String} (h : recB K p T a = true) : ∃ r, PySem.W.recIn K p T = some (.ref a :: r) := by
  unfold recB at h
  split at h
  · rename_i b r e
    exact ⟨r, by rw [e, Nat.eq_of_beq_eq_true h]⟩
  · cases h
def rec2B (K : PySem.W.Frag) (p : Addr) (T : String) (a : Addr) : Bool := match PySem.W.recIn K p T with
  | some (_ :: .ref b :: _) => Nat.beq b a
  | _ => false
theorem rec2B_ok {K : PySem.W.Frag} {p a : Addr} {T : String} (h : rec2B K p T a = true) : ∃ z r, PySem.W.recIn K p T = some (z :: .ref a :: r) := by
  unfold rec2B at h
  split at h
  · rename_i z b r e
    exact ⟨z, r, by rw [e, Nat.eq_of_beq_eq_true h]⟩
  · cases h
def isVal (o : Option PySem.W.CFound) (u : Value) : Bool := match o with
  | some (.val v) => decide (v = u)
  | _ => false
theorem isVal_ok {o : Option PySem.W.CFound} {u : Value} (h : isVal o u = true) : o = some (.val u) := by
  unfold isVal at h
  split at h
  · rw [of_decide_eq_true h]
  · cases h
def isTy (o : Option Value) (s : String) : Bool := match o with
  | some (.type t) => decide (t = s)
  | _ => false
theorem isTy_ok {o : Option Value} {s : String} (h : isTy o s = true) : o = some (.type s) := by
  unfold isTy at h
  split at h
  · rw [of_decide_eq_true h]
  · cases h
/-- what the class has by a name -/
def atB (hs : List HDef) (K : PySem.W.Frag) (C : Addr) (f : Str) : Option At → Bool
  | none => isNone (PySem.W.findIn K (.ref C) f)
  | some (.meth q) => isRef (PySem.W.findIn K (.ref C) f) (He.ma K C f) && (isSome' (adrOf hs K q) (He.ma K C f) && (PySem.W.isFn K (.ref (He.ma K C f)) && PySem.W.keepIn K (.ref (He.ma K C f))))
  | some (.prop gq sq) => isRef (PySem.W.findIn K (.ref C) f) (He.ma K C f) && (isBlt (PySem.W.specialIn K (.ref (He.ma K C f)) "__get__") "property.__get__" && (isB (PySem.W.takesIn K (.ref (He.ma K C f))) true &&
      (recB K (He.ma K C f) "property" (recAt K (He.ma K C f) "property" 0) && (isSome' (adrOf hs K gq) (recAt K (He.ma K C f) "property" 0) && match sq with
        | none => true
        | some q => isSome' (adrOf hs K q) (recAt K (He.ma K C f) "property" 1) && (isRef (PySem.W.takerIn K C f) (He.ma K C f) && (isTy (PySem.W.typeIn K (.ref (He.ma K C f))) "property" && rec2B K (He.ma K C f) "property" (recAt K (He.ma K C f) "property" 1)))))))
  | some (.con v) => match PySem.W.findIn K (.ref C) f with
    | some (some u) => litB v u && (isNone (PySem.W.specialIn K u "__get__") && (!PySem.W.copiedNames.contains f && (crB K C && isVal (PySem.W.findCls K (.ref C) (.type "type") f) u)))
    | _ => false
  | some (.cmeth q) => isSome' (adrOf hs K q) (recAt K (cmAt K C f) "classmethod" 0) && (crB K C && (isGet (PySem.W.findCls K (.ref C) (.type "type") f) (cmAt K C f) C && (recB K (cmAt K C f) "classmethod" (recAt K (cmAt K C f) "classmethod" 0) && PySem.W.fnIn K (recAt K (cmAt K C f) "classmethod" 0))))
def initB (hs : List HDef) (K : PySem.W.Frag) (C : Addr) : Option At → Bool
  | some (.meth q) => isSome' (adrOf hs K q) (He.ma K C "__init__") && (PySem.W.makesIn K C && (isRef (PySem.W.findIn K (.ref C) "__init__") (He.ma K C "__init__") && (PySem.W.isFn K (.ref (He.ma K C "__init__")) && PySem.W.keepIn K (.ref C))))
  | _ => true
def clsB (g : GI) (pr : Prg) (hs : List HDef) (K : PySem.W.Frag) (c : Str) : Bool :=
  isRef (PySem.W.nsIn K mainGlobals c) (He.ga K c) && (PySem.W.plainGet K (He.ga K c) Str.empty && (PySem.W.hasDictIn K (He.ga K c) && (PySem.W.plainOver K (He.ga K c) && (isBlt (PySem.W.findIn K (.ref (He.ga K c)) "__setattr__") "object.__setattr__" &&
  (isBlt (PySem.W.findIn K (.ref (He.ga K c)) "__class__") "object.__class__" && (isB (PySem.W.mroIn K (He.ga K c) (.type "object")) true && (isBlt (PySem.W.findIn K (.ref (He.ga K c)) "__eq__") "object.__eq__" &&
  (isBlt (PySem.W.findIn K (.ref (He.ga K c)) "__ne__") "object.__ne__" && ((baseTys.all fun t => isB (PySem.W.kitOne K (.type t) (.ref (He.ga K c))) false) && ((g.cls.all fun d => isB (PySem.W.kitOne K (.ref (He.ga K d)) (.ref (He.ga K c))) (pr.isub d c)) &&
  (initB hs K (He.ga K c) (pr.att c "__init__") && g.atts.all fun f => atB hs K (He.ga K c) f (pr.att c f))))))))))))
def topB (g : GI) (pr : Prg) (hs : List HDef) (K : PySem.W.Frag) : Bool :=
  noLst K && ((g.blt.all fun x => isNone (PySem.W.nsIn K mainGlobals x)) && ((g.glob.all fun x => globB K x (pr.glob.lookup x)) && ((g.exc.all fun x => excB g pr.sub K x) &&
  ((hs.all fun d => codeB K (d.adr K) d.qual && PySem.W.keepIn K (.ref (d.adr K))) && ((g.defs.all fun x => match adrOf hs K x with
    | some a => isRef (PySem.W.nsIn K mainGlobals x) a
    | none => false) && ((g.cls.isEmpty || (isBlt (PySem.W.specialIn K (.builtin "object.__class__") "__get__") "getset_descriptor.__get__" && isB (PySem.W.takesIn K (.builtin "object.__class__")) true)) && g.cls.all fun c => clsB g pr hs K c))))))
/-! ### what it says -/
structure DefS (g : GI) (d : HDef) (p : PD) : Prop where
  sc : FnScope d.N d.ps (defScope d.st)
  ns : d.N.length = p.ns
  cp : optAll (cpS g 60 ⟨d.N, defScope d.st, false⟩) (defBody d.st) = some p.body
  bnd : ∀ (K : PySem.W.Frag) (kV doc pm : Value) (an : Option Addr) (cdv ct : Value), BindOk K (PySem.W.fnOf d.x d.qual (defArgs d.st) (defBody d.st) (defScope d.st) .none kV doc pm an cdv ct) d.ps p
theorem hv_ok {K : PySem.W.Frag} {a : Addr} {d : HDef} (e : hvOf K a = d.val) (c : codeB K a d.qual = true) :
    ∃ oc od osl kV doc pm an cdv ct, K.lookup a = some ⟨oc, od, .func (PySem.W.fnOf d.x d.qual (defArgs d.st) (defBody d.st) (defScope d.st) .none kV doc pm an cdv ct), osl⟩ ∧ PySem.W.codeIn K cdv d.qual = true := by
  unfold codeB at c
  unfold hvOf at e
  cases q : K.lookup a with
  | none => rw [q] at c; cases c
  | some o =>
    obtain ⟨oc, od, dt, osl⟩ := o
    rw [q] at c e
    cases dt with
    | func fd =>
      obtain ⟨n1, n2, n3, n4, n5, n6, n7, n8, n9, n10, n11, n12, n13, n14, n15⟩ := fd
      have e2 : (some (n1, n2, n3, n4, n5, n6, n7, n8, n15) : HV) = some (d.x, d.qual, defArgs d.st, .stmts (defBody d.st), defScope d.st, mainGlobals, [], .none, builtinsNs) := e
      simp only [Option.some.injEq, Prod.mk.injEq] at e2
      obtain ⟨h1, h2, h3, h4, h5, h6, h7, h8, h9⟩ := e2
      subst h1 h2 h3 h4 h5 h6 h7 h8 h9
      exact ⟨oc, od, osl, n9, n10, n11, n12, n13, n14, rfl, c⟩
    | _ => cases c
section
variable {g : GI} {pr : Prg} {hs : List HDef} {K : PySem.W.Frag} {h : Heap} {mg : Str → Option Value}
def cmOf (g : GI) (hs : List HDef) (K : PySem.W.Frag) : Cm := ⟨fun x => if x ∈ g.exc then some (He.ga K x) else none, fun c => if c ∈ g.cls then some (He.ga K c) else none, adrOf hs K⟩
theorem atB_ok {C : Addr} {f : Str} {a : Option At} (h : atB hs K C f a = true) : AtOk K (cmOf g hs K) C f a := by
  match a, h with
  | none, h => exact isNone_ok h
  | some (.meth q), h =>
    simp only [atB, Bool.and_eq_true] at h
    exact ⟨_, isSome'_ok h.2.1, ⟨isRef_ok h.1, h.2.2.1, h.2.2.2⟩⟩
  | some (.prop gq sq), h =>
    simp only [atB, Bool.and_eq_true] at h
    obtain ⟨h1, h2, h3, h4, h5, h6⟩ := h
    refine ⟨_, _, isSome'_ok h5, ⟨isRef_ok h1, isBlt_ok h2, isB_ok h3, recB_ok h4⟩, fun q hq => ?_⟩
    subst hq
    simp only [Bool.and_eq_true] at h6
    exact ⟨_, isSome'_ok h6.1, ⟨isRef_ok h6.2.1, isTy_ok h6.2.2.1, rec2B_ok h6.2.2.2⟩⟩
  | some (.con v), h =>
    simp only [atB] at h
    split at h
    · rename_i u e
      simp only [Bool.and_eq_true, Bool.not_eq_true', crB] at h
      obtain ⟨h1, h2, h3, ⟨h4, h5⟩, h6⟩ := h
      obtain ⟨z, rz, rv⟩ := litB_ok h1
      exact ⟨z, u, ⟨e, rz, isNone_ok h2, h3⟩, fun ι n H => rv K ι n H, _, ⟨h4, isBlt_ok h5⟩, ⟨isVal_ok h6, rz⟩⟩
    · cases h
  | some (.cmeth q), h =>
    simp only [atB, Bool.and_eq_true, crB] at h
    obtain ⟨h1, ⟨h2, h3⟩, h4, h5, h6⟩ := h
    exact ⟨_, _, _, isSome'_ok h1, ⟨h2, isBlt_ok h3⟩, ⟨isGet_ok h4, recB_ok h5, h6⟩⟩
theorem top_of (X : K.In h) (G : h.Ns mainGlobals mg) (ok : topB g pr hs K = true) (hv : (hs.map fun d => hvOf K (d.adr K)) = hs.map HDef.val) (hd : ∀ d ∈ hs, ∃ p, pr.defs.lookup d.q = some p ∧ DefS g d p) (ha : ∀ c f a, pr.att c f = some a → c ∈ g.cls) :
    noLst K = true ∧ ∃ cm, Top g pr K mg cm := by
  simp only [topB, Bool.and_eq_true] at ok
  obtain ⟨o1, o2, o3, o4, o5, o6, o7, o8⟩ := ok
  refine ⟨o1, cmOf g hs K, ⟨fun x hx => ?_, fun x v hx hv => ?_, ⟨fun x hx => ?_, fun c C d D hc hd hD => ?_⟩, fun q f hq => ?_, fun x hx => ?_, fun c hc => ?_, fun c C hC => ?_, ha⟩⟩
  · exact PySem.W.mg_none_of X G (isNone_ok (List.all_eq_true.mp o2 x hx))
  · have := List.all_eq_true.mp o3 x hx
    rw [hv] at this
    simp only [globB] at this
    split at this
    · rename_i u e
      obtain ⟨z, rz, rv⟩ := litB_ok this
      exact ⟨u, z, PySem.W.mg_of X G e, rz, fun ι n H => rv K ι n H⟩
    · cases this
  · have := List.all_eq_true.mp o4 x hx
    simp only [excB, Bool.and_eq_true] at this
    obtain ⟨e1, e2, e3, e4⟩ := He.exc_ok this.1.2
    exact ⟨_, if_pos hx, PySem.W.mg_of X G (isRef_ok this.1.1), e1, e2, e3, e4⟩
  · have hce : c ∈ g.exc := by
      by_cases q : c ∈ g.exc
      · exact q
      · have : (cmOf g hs K) c = none := if_neg q
        rw [this] at hc; cases hc
    have ec : (cmOf g hs K) c = some (He.ga K c) := if_pos hce
    have ed : (cmOf g hs K) d = some (He.ga K d) := if_pos hd
    rw [ec] at hc; rw [ed] at hD
    cases hc; cases hD
    have := List.all_eq_true.mp o4 c hce
    simp only [excB, Bool.and_eq_true] at this
    exact isB_ok (List.all_eq_true.mp this.2 d hd)
  · have hq' : adrOf hs K q = some f := hq
    unfold adrOf at hq'
    split at hq'
    · rename_i d e
      cases hq'
      have hm := List.mem_of_find?_eq_some e
      have hqq : d.q = q := by have := List.find?_some e; exact of_decide_eq_true this
      obtain ⟨p, hp, D⟩ := hd d hm
      have o5' := List.all_eq_true.mp o5 d hm
      simp only [Bool.and_eq_true] at o5'
      have e2 : hvOf K (d.adr K) = d.val := (List.map_eq_map_iff.mp hv) d hm
      obtain ⟨oc, od, osl, kV, doc, pm, an, cdv, ct, hl, hc⟩ := hv_ok e2 o5'.1
      subst hqq
      exact ⟨d.x, p, _, d.st, d.N, d.ps, d.qual, 60, hp, ⟨fun_mk hl hc o5'.2, D.sc, D.bnd K kV doc pm an cdv ct, D.ns, D.cp⟩⟩
    · cases hq'
  · have := List.all_eq_true.mp o6 x hx
    split at this
    · rename_i a e
      exact ⟨a, e, PySem.W.mg_of X G (isRef_ok this)⟩
    · cases this
  · have hb := List.all_eq_true.mp o8 c hc
    simp only [clsB, Bool.and_eq_true] at hb
    obtain ⟨c1, c2, c3, c4, c5, c6, c7, c8, c9, c10, c11, c12, c13⟩ := hb
    have hne : g.cls.isEmpty = false := by
      cases q : g.cls with
      | nil => rw [q] at hc; cases hc
      | cons _ _ => rfl
    rw [hne, Bool.false_or, Bool.and_eq_true] at o7
    refine ⟨_, if_pos hc, ⟨isRef_ok c1, PySem.W.mg_of X G (isRef_ok c1), ⟨c2, c3, c4, isBlt_ok c5⟩, isBlt_ok c6, isBlt_ok o7.1, isB_ok o7.2, isB_ok c7, isBlt_ok c8, isBlt_ok c9, fun t ht => isB_ok (List.all_eq_true.mp c10 t ht), fun d D hD => ?_, fun q hq => ?_, fun f hf => ?_⟩⟩
    · by_cases z : d ∈ g.cls
      · have : (cmOf g hs K).ins d = some (He.ga K d) := if_pos z
        rw [this] at hD; cases hD
        exact isB_ok (List.all_eq_true.mp c11 d z)
      · have : (cmOf g hs K).ins d = none := if_neg z
        rw [this] at hD; cases hD
    · rw [hq] at c12
      simp only [initB, Bool.and_eq_true] at c12
      exact ⟨_, isSome'_ok c12.1, ⟨c12.2.1, isRef_ok c12.2.2.1, c12.2.2.2.1, c12.2.2.2.2⟩⟩
    · exact atB_ok (List.all_eq_true.mp c13 f hf)
  · by_cases z : c ∈ g.cls
    · exact z
    · have : (cmOf g hs K).ins c = none := if_neg z
      rw [this] at hC; cases hC
end
/-! ### the Hook -/
/-- what an object names, as far as the facts want it -/
def refsS (o : Obj) : List Addr := match o.data with
  | .func fd => He.refV fd.code ++ fd.closure.map (·.2)
  | .cls cd => cd.ns :: cd.mro.flatMap He.refV
  | .dict es _ => es.toList.flatMap fun e => He.refV e.val
  | .fields vs => match o.cls with
    | .type t => if t = "property" ∨ t = "classmethod" then vs.toList.flatMap He.refV else []
    | _ => []
  | .cell (some v) => He.refV v
  | _ => []
def memN (a : Nat) : List Nat → Bool
  | [] => false
  | b :: r => match Nat.beq b a with
    | true => true
    | false => memN a r
/-- further addresses, each once -/
def newN : List Nat → List Nat → List Nat → List Nat
  | [], _, acc => acc
  | a :: r, seen, acc => match memN a seen with
    | true => newN r seen acc
    | false => match memN a acc with
      | true => newN r seen acc
      | false => newN r seen (a :: acc)
def frL {α : Type} : List Nat → (List Nat → α) → α
  | [], k => k []
  | a :: r, k => HandSHeadRun.frNat a fun a => frL r fun r => k (a :: r)
def growS (g : Addr → Option Obj) : Nat → List Addr → List Addr → List Addr
  | 0, _, seen => seen
  | n + 1, fr, seen => frL (newN (fr.flatMap fun a => match g a with | some o => refsS o | none => []) seen []) fun nw => growS g n nw (seen ++ nw)
def frag (g : Addr → Option Obj) : PySem.W.Frag := He.frG g (growS g 5 [mainGlobals] [mainGlobals, cStatics])
def frF {α : Type} : List (Addr × Obj) → (List (Addr × Obj) → α) → α
  | [], k => k []
  | p :: r, k => match p with
    | (a, o) => frF r fun r => k ((a, o) :: r)
theorem frF_eq {α : Type} : ∀ (l : List (Addr × Obj)) (k : List (Addr × Obj) → α), frF l k = k l
  | [], _ => rfl
  | (a, o) :: r, k => by show frF r (fun r => k ((a, o) :: r)) = _; rw [frF_eq r]
abbrev HAl : Type := Bool × List HV
def hObs (g : GI) (pr : Prg) (hs : List HDef) (K : PySem.W.Frag) : HAl := (topB g pr hs K, hs.map fun d => hvOf K (d.adr K))
def hVal (hs : List HDef) : HAl := (true, hs.map HDef.val)
def hookH (g : GI) (pr : Prg) (hs : List HDef) : PySem.W.Hook where
  α := HAl
  obs := fun s => frF (frag s.heap.get?) (hObs g pr hs)
  val := fun _ => hVal hs
  says := fun _ h => ∃ K : PySem.W.Frag, K.In h ∧ hObs g pr hs K = hVal hs
  of := fun _ _ e => ⟨_, He.frG_in, by rw [frF_eq] at e; exact e⟩
  keeps := fun _ _ _ ⟨K, hK, c⟩ k => ⟨K, PySem.W.Frag.In.keeps hK k, c⟩
def obH (g : GI) (pr : Prg) (hs : List HDef) (s : PySem.W.SharedT) : HAl := frF (frag (HandSHeadRun.getT s)) (hObs g pr hs)
theorem obH_eq (g : GI) (pr : Prg) (hs : List HDef) (s : PySem.W.SharedT) : obH g pr hs s = (hookH g pr hs).obs s.abs := by
  have e : HandSHeadRun.getT s = s.abs.heap.get? := funext fun a => HandSHeadRun.getT_eq s a
  show frF (frag (HandSHeadRun.getT s)) (hObs g pr hs) = frF (frag s.abs.heap.get?) (hObs g pr hs)
  rw [e]
/-- a law's end over such a head -/
theorem walk_H {l : PySem.W.OpenLaw} {n k : Nat} {q : Program} {loose : List Str} {XP : (Str → Option Value) → Heap → Prop} {d : DefRec} {x : Str} {g : GI} {pr : Prg} {hs : List HDef}
    (hn : l.most = some n) (hn2 : n ≤ sizeLine) (hdf : d.params.defaults = []) (hnm : d.name = x) (hr : Room (2 * k + 1) callerA)
    (hlaw : x ∈ g.defs) (hd : ∀ e ∈ hs, ∃ p, pr.defs.lookup e.q = some p ∧ DefS g e p) (ha : ∀ c f a, pr.att c f = some a → c ∈ g.cls)
    (hrun : ∀ ns : List Int, ns.length ≤ n → (∀ z ∈ ns, Builtin.Int.intBits z ≤ 1048576) → ∃ S', run pr k x [.ref 0] [.frz (ns.map .int)] = .ok (.bl true) S') :
    PySem.W.WalkO q loose XP (hookH g pr hs).says l.row.toRowW d [] (fun f vs => PySem.call f vs) := by
  subst hnm
  refine Att.attach_callB hn hdf fun w s₀ s₁ mg mb fa o pm cd doc a vs ns G Y ho hd' hcd hmg hobj hints hlen hbits hg => ?_
  obtain ⟨K, KX, c⟩ := Y
  obtain ⟨nl, cm, T⟩ := top_of (g := g) (pr := pr) (hs := hs) (mg := mg) KX G.T.g (congrArg Prod.fst c) (congrArg Prod.snd c) hd ha
  have FF : ∀ base : Heap, FnG l.prog w K mg base k fa (spI K cm (run pr k d.name)) := fun base => by
    obtain ⟨f, h1, h2, h3⟩ := (all_defs (P := l.prog) (w := w) T base k).fn d.name hlaw
    rw [hmg] at h1; cases h1
    exact h3
  refine law_G KX G.T.g G.T.b G.T.builtins G.T.nolimit hg hobj hints (Nat.le_trans hlen hn2) nl hr FF fun H hH hO => ?_
  obtain ⟨ob, hH⟩ := hH
  obtain ⟨S', e⟩ := hrun ns hlen hbits
  refine ⟨fun _ => a, [.frz (ns.map .int)], [.ref 0], ⟨fun i c hc => ?_, fun i j hi hj _ => by simp at hi hj; omega⟩, .cons (by simp only [RV]; exact ⟨by simp, trivial⟩) .nil, ?_⟩
  · cases i with
    | zero =>
      simp at hc; subst hc
      refine ⟨ob, _, hH, ?_⟩
      have all : ∀ l : List Int, RVs K (fun _ => a) 1 H (l.map .int) (l.map V.int) := by
        intro l
        induction l with
        | nil => exact .nil
        | cons z r ih => exact .cons (by simp only [RV]) ih
      exact all ns
    | succ i => simp at hc
  · rw [e]
    intro ι' H' v st r rv
    simpa only [RV] using rv
end Wg
namespace Lw
open PySem PySem.Spec PyProof.Rows L2 Wg
/-! ### the text -/
def tp (i : Nat) : Stmt := PySem.Challenge.pw_wagerroom_k09_partitions_refused.main.body.getD i (.Pass ⟨0, 0, 0, 0⟩)
def gi : GI := { defs := ["is_integer", "is_valid_labels", "check_labels", "grouped", "relabelled", "check_partitions", "refined", "joined", "_law_cell", "_law_source", "_law_draw", "_law_choose", "_law_is_equal", "_law_is_integer", "_law_odd", "_law_bent", "_law_labels", "_law_canonical", "_law_is_labels", "_law_refined", "_law_joined", "_law_due", "law"], glob := ["MOST_CASES"], blt := ["len", "max", "min", "repr", "str", "int", "list", "tuple", "all", "isinstance", "range", "bool", "enumerate", "zip"], exc := ["RoomError", "InvalidLabelsError", "MismatchError"], cls := [], atts := [], mets := [] }
def d_is_integer : PD := ⟨1, 1, [
    .ret (.and (.isi (.loc 0) .int) (.not (.isi (.loc 0) .bool)))]⟩
def lb_is_valid_labels_1 : List Sm := [
      .cond (.or (.not (.call "is_integer" [(.loc 2)])) (.not (.chain .le .le (.k (.int 0)) (.loc 2) (.loc 1)))) [
        .ret (.k (.bl false))] [],
      .cond (.cmp .eq (.loc 2) (.loc 1)) [
        .aug 1 .add (.k (.int 1))] []]
def d_is_valid_labels : PD := ⟨1, 3, [
    .cond (.or (.not (.isi (.loc 0) .tuple)) (.not (.chain .le .le (.k (.int 1)) (.blt .len [(.loc 0)]) (.glb "MOST_CASES")))) [
      .ret (.k (.bl false))] [],
    .set (.nm 1) (.k (.int 0)),
    .for (.nm 2) (.val (.loc 0)) lb_is_valid_labels_1,
    .ret (.k (.bl true))]⟩
def d_check_labels : PD := ⟨1, 1, [
    .cond (.not (.call "is_valid_labels" [(.loc 0)])) [
      .raise "InvalidLabelsError"] []]⟩
def lb_grouped_1 : List Sm := [
      .expr (.mth "append" (.loc 1) [(.blt .tuple [(.lc [3, 4] (.tp [(.nm 3), (.nm 4)]) (.enum (.loc 0)) [(.cmp .eq (.loc 4) (.loc 2))] (.loc 3))])])]
def d_grouped : PD := ⟨1, 5, [
    .set (.nm 1) (.lst []),
    .for (.nm 2) (.rng [(.bin .add (.blt .max [(.loc 0)]) (.k (.int 1)))]) lb_grouped_1,
    .ret (.blt .tuple [(.loc 1)])]⟩
def lb_relabelled_1 : List Sm := [
      .cond (.cmp .notin (.loc 3) (.loc 1)) [
        .expr (.mth "append" (.loc 1) [(.loc 3)])] [],
      .expr (.mth "append" (.loc 2) [(.mth "index" (.loc 1) [(.loc 3)])])]
def d_relabelled : PD := ⟨1, 4, [
    .set (.nm 1) (.lst []),
    .set (.nm 2) (.lst []),
    .for (.nm 3) (.val (.loc 0)) lb_relabelled_1,
    .ret (.blt .tuple [(.loc 2)])]⟩
def lb_check_partitions_2 : List Sm := [
      .cond (.cmp .ne (.blt .len [(.loc 1)]) (.blt .len [(.ix (.loc 0) (.k (.int 0)))])) [
        .raise "MismatchError"] []]
def lb_check_partitions_1 : List Sm := [
      .expr (.call "check_labels" [(.loc 1)])]
def d_check_partitions : PD := ⟨1, 2, [
    .for (.nm 1) (.val (.loc 0)) lb_check_partitions_1,
    .cond (.cmp .eq (.blt .len [(.loc 0)]) (.k (.int 0))) [
      .raise "MismatchError"] [],
    .for (.nm 1) (.val (.loc 0)) lb_check_partitions_2]⟩
def d_refined : PD := ⟨1000, 2, [
    .expr (.call "check_partitions" [(.loc 0)]),
    .ret (.gc (.call "relabelled" [(.lc [1] (.nm 1) (.zips (.loc 0)) [] (.loc 1))]))]⟩
def lb_joined_3 : List Sm := [
          .set (.nm 6) (.ix (.loc 1) (.loc 5)),
          .set (.nm 1) (.lc [7] (.nm 7) (.val (.loc 1)) [] (.ite (.cmp .eq (.loc 7) (.loc 6)) (.loc 4) (.loc 7)))]
def lb_joined_2 : List Sm := [
        .set (.nm 4) (.ix (.loc 1) (.ix (.loc 3) (.k (.int 0)))),
        .for (.nm 5) (.val (.loc 3)) lb_joined_3]
def lb_joined_1 : List Sm := [
      .for (.nm 3) (.val (.call "grouped" [(.loc 2)])) lb_joined_2]
def d_joined : PD := ⟨1000, 8, [
    .expr (.call "check_partitions" [(.loc 0)]),
    .set (.nm 1) (.rgs false (.blt .len [(.ix (.loc 0) (.k (.int 0)))])),
    .for (.nm 2) (.val (.loc 0)) lb_joined_1,
    .ret (.call "relabelled" [(.loc 1)])]⟩
def d_l_cell : PD := ⟨2, 2, [
    .cond (.cmp .lt (.loc 1) (.blt .len [(.loc 0)])) [
      .ret (.ix (.loc 0) (.loc 1))] [],
    .ret (.k (.int 0))]⟩
def d_l_source : PD := ⟨1, 1, [
    .ret (.lst [(.blt .max [(.k (.int 0)), (.bin .sub (.loc 0) (.bin .pow (.k (.int 10)) (.k (.int 18))))]), (.bin .add (.bin .mod (.loc 0) (.k (.int 2147483629))) (.k (.int 1))), (.k (.int 0))])]⟩
def d_l_draw : PD := ⟨2, 4, [
    .cond (.cmp .gt (.ix (.loc 0) (.k (.int 0))) (.k (.int 0))) [
      .set (.nm 2) (.bin .mod (.ix (.loc 0) (.k (.int 0))) (.loc 1)),
      .sub (.loc 0) (.k (.int 0)) (.bin .fdiv (.ix (.loc 0) (.k (.int 0))) (.loc 1)),
      .ret (.loc 2)] [],
    .sub (.loc 0) (.k (.int 2)) (.bin .add (.ix (.loc 0) (.k (.int 2))) (.k (.int 1))),
    .sub (.loc 0) (.k (.int 1)) (.bin .mod (.bin .add (.bin .add (.bin .mul (.ix (.loc 0) (.k (.int 1))) (.k (.int 48271))) (.bin .mul (.k (.int 1009)) (.ix (.loc 0) (.k (.int 2))))) (.k (.int 7))) (.k (.int 2147483647))),
    .set (.nm 3) (.bin .mod (.bin .add (.bin .add (.bin .mul (.ix (.loc 0) (.k (.int 1))) (.ix (.loc 0) (.k (.int 1)))) (.bin .mul (.k (.int 69621)) (.ix (.loc 0) (.k (.int 1))))) (.k (.int 11))) (.k (.int 2147483629))),
    .set (.nm 3) (.bin .mod (.bin .add (.bin .mul (.loc 3) (.loc 3)) (.bin .mul (.k (.int 40014)) (.loc 3))) (.k (.int 2147483587))),
    .ret (.bin .mod (.bin .fdiv (.loc 3) (.k (.int 16))) (.loc 1))]⟩
def d_l_choose : PD := ⟨2, 2, [
    .ret (.ix (.loc 1) (.call "_law_draw" [(.loc 0), (.blt .len [(.loc 1)])]))]⟩
def d_l_is_equal : PD := ⟨2, 2, [
    .ret (.cmp .eq (.blt .repr [(.loc 0)]) (.blt .repr [(.loc 1)]))]⟩
def d_l_is_integer : PD := ⟨1, 1, [
    .ret (.and (.isi (.loc 0) .int) (.not (.isi (.loc 0) .bool)))]⟩
def d_l_odd : PD := ⟨1, 2, [
    .set (.nm 1) (.lst [(.k .non), (.k (.bl true)), (.k (.bl false)), (.neg (.k (.int 1))), (.k (.int 0)), (.k (.int 1)), (.k (.int 2)), (.k (.int 7)), (.bin .pow (.k (.int 10)) (.k (.int 12))), (.k (.str "")), (.k (.str "0")), (.k (.str "1/2")), (.tup []), (.lst []), (.dct []), (.tup [(.k (.int 0))]), (.lst [(.k (.int 0))]), (.tup [(.k (.int 0)), (.k (.int 1))]), (.lst [(.k (.int 0)), (.k (.int 1))])]),
    .set (.nm 1) (.bin .add (.loc 1) (.lst [(.tup [(.k (.int 1)), (.k (.int 2))]), (.lst [(.k (.int 1)), (.k (.int 2))]), (.tup [(.k (.int 2)), (.k (.int 4))]), (.tup [(.k (.int 1)), (.k (.int 0))]), (.tup [(.k (.int 0)), (.k (.int 2))]), (.tup [(.neg (.k (.int 1))), (.k (.int 2))]), (.tup [(.k (.int 1)), (.neg (.k (.int 2)))]), (.tup [(.k (.bl true)), (.k (.int 2))]), (.tup [(.k (.int 1)), (.k (.bl true))]), (.tup [(.k (.int 0)), (.k .non)])])),
    .set (.nm 1) (.bin .add (.loc 1) (.lst [(.tup [(.tup [(.k (.int 1)), (.k (.int 2))]), (.tup [(.k (.int 1)), (.k (.int 2))])]), (.lst [(.tup [(.k (.int 1)), (.k (.int 2))]), (.tup [(.k (.int 1)), (.k (.int 2))])]), (.tup [(.k (.int 0)), (.k (.int 0))]), (.tup [(.k (.int 0)), (.k (.int 1)), (.k (.int 1))]), (.tup [(.k (.bl false)), (.k (.int 1))]), (.tup [(.k (.int 0)), (.k (.bl true))]), (.dct [((.k (.int 0)), (.k (.int 1)))]), (.tup [(.k (.int 1)), (.k (.int 1))])])),
    .ret (.call "_law_choose" [(.loc 0), (.bin .add (.loc 1) (.lst [(.tup [(.tup [(.k (.int 0)), (.k (.int 0)), (.k (.int 1))])]), (.tup [(.k (.str "walk")), (.tup [])]), (.tup [(.k (.str "source")), (.tup [])]), (.tup [(.k (.int 0)), (.k (.int 1)), (.k (.int 0))]), (.tup [(.k (.int 1))]), (.tup [(.k (.int 13)), (.k (.int 1))]), (.k (.str "walk"))]))])]⟩
def d_l_bent : PD := ⟨3, 5, [
    .cond (.and (.call "_law_is_integer" [(.loc 1)]) (.cmp .gt (.call "_law_draw" [(.loc 0), (.k (.int 4))]) (.k (.int 0)))) [
      .ret (.ix (.lst [(.bin .add (.loc 1) (.k (.int 1))), (.bin .sub (.loc 1) (.k (.int 1))), (.cmp .eq (.loc 1) (.k (.int 1))), (.bin .sub (.k (.int 0)) (.loc 1)), (.bin .mul (.loc 1) (.k (.int 2))), (.blt .str [(.loc 1)])]) (.call "_law_draw" [(.loc 0), (.k (.int 6))]))] [],
    .cond (.or (.not (.isi (.loc 1) .tuple)) (.or (.cmp .eq (.loc 1) (.tup [])) (.cmp .eq (.loc 2) (.k (.int 0))))) [
      .ret (.call "_law_odd" [(.loc 0)])] [],
    .par 3 4 (.call "_law_draw" [(.loc 0), (.blt .len [(.loc 1)])]) (.call "_law_draw" [(.loc 0), (.k (.int 9))]),
    .cond (.cmp .lt (.loc 4) (.k (.int 4))) [
      .ret (.ix (.lst [(.bin .add (.sl (.loc 1) none (some (.loc 3))) (.sl (.loc 1) (some (.bin .add (.loc 3) (.k (.int 1)))) none)), (.bin .add (.sl (.loc 1) none (some (.bin .add (.loc 3) (.k (.int 1))))) (.sl (.loc 1) (some (.loc 3)) none)), (.blt .list [(.loc 1)]), (.rev (.loc 1))]) (.loc 4))] [],
    .ret (.bin .add (.bin .add (.sl (.loc 1) none (some (.loc 3))) (.tup [(.call "_law_bent" [(.loc 0), (.ix (.loc 1) (.loc 3)), (.bin .sub (.loc 2) (.k (.int 1)))])])) (.sl (.loc 1) (some (.bin .add (.loc 3) (.k (.int 1)))) none))]⟩
def lb_l_labels_1 : List Sm := [
      .expr (.mth "append" (.loc 3) [(.call "_law_draw" [(.loc 0), (.blt .min [(.bin .add (.blt .max [(.loc 3)]) (.k (.int 2))), (.loc 2)])])])]
def d_l_labels : PD := ⟨3, 4, [
    .set (.nm 3) (.lst [(.k (.int 0))]),
    .whil (.cmp .lt (.blt .len [(.loc 3)]) (.loc 1)) lb_l_labels_1,
    .ret (.blt .tuple [(.loc 3)])]⟩
def lb_l_canonical_1 : List Sm := [
      .cond (.cmp .notin (.loc 3) (.loc 1)) [
        .expr (.mth "append" (.loc 1) [(.loc 3)])] [],
      .expr (.mth "append" (.loc 2) [(.mth "index" (.loc 1) [(.loc 3)])])]
def d_l_canonical : PD := ⟨1, 4, [
    .par 1 2 (.lst []) (.lst []),
    .for (.nm 3) (.val (.loc 0)) lb_l_canonical_1,
    .ret (.blt .tuple [(.loc 2)])]⟩
def d_l_is_labels : PD := ⟨1, 2, [
    .cond (.or (.not (.isi (.loc 0) .tuple)) (.or (.not (.chain .le .le (.k (.int 1)) (.blt .len [(.loc 0)]) (.k (.int 12)))) (.not (.blt .all [(.lc [1] (.nm 1) (.val (.loc 0)) [] (.call "_law_is_integer" [(.loc 1)]))])))) [
      .ret (.k (.bl false))] [],
    .ret (.cmp .eq (.call "_law_canonical" [(.loc 0)]) (.loc 0))]⟩
def d_l_refined : PD := ⟨1, 1, [
    .tryx [
      .cond (.cmp .eq (.blt .len [(.loc 0)]) (.k (.int 0))) [
        .ret (.blt .len [(.call "refined" [])])] [],
      .cond (.cmp .eq (.blt .len [(.loc 0)]) (.k (.int 1))) [
        .ret (.blt .len [(.call "refined" [(.ix (.loc 0) (.k (.int 0)))])])] [],
      .cond (.cmp .eq (.blt .len [(.loc 0)]) (.k (.int 2))) [
        .ret (.blt .len [(.call "refined" [(.ix (.loc 0) (.k (.int 0))), (.ix (.loc 0) (.k (.int 1)))])])] [],
      .ret (.blt .len [(.call "refined" [(.ix (.loc 0) (.k (.int 0))), (.ix (.loc 0) (.k (.int 1))), (.ix (.loc 0) (.k (.int 2)))])])] [("InvalidLabelsError", [
      .ret (.k (.str "labels"))]), ("MismatchError", [
      .ret (.k (.str "mismatch"))])]]⟩
def d_l_joined : PD := ⟨1, 1, [
    .tryx [
      .cond (.cmp .eq (.blt .len [(.loc 0)]) (.k (.int 0))) [
        .ret (.blt .len [(.call "joined" [])])] [],
      .cond (.cmp .eq (.blt .len [(.loc 0)]) (.k (.int 1))) [
        .ret (.blt .len [(.call "joined" [(.ix (.loc 0) (.k (.int 0)))])])] [],
      .cond (.cmp .eq (.blt .len [(.loc 0)]) (.k (.int 2))) [
        .ret (.blt .len [(.call "joined" [(.ix (.loc 0) (.k (.int 0))), (.ix (.loc 0) (.k (.int 1)))])])] [],
      .ret (.blt .len [(.call "joined" [(.ix (.loc 0) (.k (.int 0))), (.ix (.loc 0) (.k (.int 1))), (.ix (.loc 0) (.k (.int 2)))])])] [("InvalidLabelsError", [
      .ret (.k (.str "labels"))]), ("MismatchError", [
      .ret (.k (.str "mismatch"))])]]⟩
def d_l_due : PD := ⟨1, 2, [
    .cond (.not (.blt .all [(.lc [1] (.nm 1) (.val (.loc 0)) [] (.call "_law_is_labels" [(.loc 1)]))])) [
      .ret (.k (.str "labels"))] [],
    .cond (.or (.cmp .eq (.loc 0) (.lst [])) (.gc (.cmp .ne (.lc [1] (.nm 1) (.val (.loc 0)) [(.cmp .ne (.blt .len [(.loc 1)]) (.blt .len [(.ix (.loc 0) (.k (.int 0)))]))] (.loc 1)) (.lst [])))) [
      .ret (.k (.str "mismatch"))] [],
    .ret (.blt .len [(.ix (.loc 0) (.k (.int 0)))])]⟩
def lb_law_2 : List Sm := [
        .set (.nm 4) (.bin .add (.k (.int 1)) (.call "_law_draw" [(.loc 2), (.k (.int 12))])),
        .set (.nm 5) (.lc [6] (.nm 6) (.rng [(.bin .mod (.loc 3) (.k (.int 4)))]) [] (.call "_law_labels" [(.loc 2), (.loc 4), (.loc 4)])),
        .cond (.and (.cmp .eq (.bin .mod (.loc 3) (.k (.int 3))) (.k (.int 1))) (.cmp .ne (.loc 5) (.lst []))) [
          .sub (.loc 5) (.neg (.k (.int 1))) (.call "_law_labels" [(.loc 2), (.bin .add (.k (.int 1)) (.call "_law_draw" [(.loc 2), (.k (.int 12))])), (.k (.int 12))])] [],
        .cond (.and (.cmp .gt (.bin .mod (.loc 3) (.k (.int 5))) (.k (.int 2))) (.cmp .ne (.loc 5) (.lst []))) [
          .set (.nm 6) (.call "_law_draw" [(.loc 2), (.blt .len [(.loc 5)])]),
          .sub (.loc 5) (.loc 6) (.call "_law_choose" [(.loc 2), (.lst [(.call "_law_bent" [(.loc 2), (.ix (.loc 5) (.loc 6)), (.k (.int 1))]), (.call "_law_odd" [(.loc 2)])])])] [],
        .set (.nm 7) (.call "_law_due" [(.loc 5)]),
        .cond (.not (.call "_law_is_equal" [(.lst [(.call "_law_refined" [(.loc 5)]), (.call "_law_joined" [(.loc 5)])]), (.lst [(.loc 7), (.loc 7)])])) [
          .ret (.k (.bl false))] []]
def lb_law_1 : List Sm := [
      .set (.nm 2) (.call "_law_source" [(.call "_law_cell" [(.loc 0), (.loc 1)])]),
      .for (.nm 3) (.rng [(.k (.int 16))]) lb_law_2,
      .set (.nm 8) (.call "_law_labels" [(.loc 2), (.bin .add (.k (.int 1)) (.call "_law_draw" [(.loc 2), (.k (.int 11))])), (.k (.int 11))]),
      .set (.nm 5) (.lst [(.loc 8), (.bin .add (.loc 8) (.tup [(.k (.int 0))])), (.call "_law_choose" [(.loc 2), (.lst [(.call "_law_bent" [(.loc 2), (.loc 8), (.k (.int 1))]), (.call "_law_odd" [(.loc 2)])])])]),
      .cond (.not (.call "_law_is_equal" [(.lst [(.call "_law_refined" [(.loc 5)]), (.call "_law_joined" [(.loc 5)])]), (.bin .mul (.lst [(.call "_law_due" [(.loc 5)])]) (.k (.int 2)))])) [
        .ret (.k (.bl false))] []]
def d_law : PD := ⟨1, 9, [
    .for (.nm 1) (.rng [(.blt .max [(.k (.int 1)), (.blt .min [(.blt .len [(.loc 0)]), (.k (.int 3))])])]) lb_law_1,
    .ret (.k (.bl true))]⟩
def pr : Prg where
  defs := ([("is_integer", d_is_integer), ("is_valid_labels", d_is_valid_labels), ("check_labels", d_check_labels), ("grouped", d_grouped), ("relabelled", d_relabelled), ("check_partitions", d_check_partitions), ("refined", d_refined), ("joined", d_joined), ("_law_cell", d_l_cell), ("_law_source", d_l_source), ("_law_draw", d_l_draw), ("_law_choose", d_l_choose), ("_law_is_equal", d_l_is_equal), ("_law_is_integer", d_l_is_integer), ("_law_odd", d_l_odd), ("_law_bent", d_l_bent), ("_law_labels", d_l_labels), ("_law_canonical", d_l_canonical), ("_law_is_labels", d_l_is_labels), ("_law_refined", d_l_refined), ("_law_joined", d_l_joined), ("_law_due", d_l_due), ("law", d_law)] : List (Str × PD))
  glob := [("MOST_CASES", (.int 12))]
  sub := fun c d => match ([("RoomError", ["RoomError"]), ("InvalidLabelsError", ["InvalidLabelsError", "RoomError"]), ("MismatchError", ["MismatchError", "RoomError"])] : List (Str × List Str)).lookup c with
    | some l => l.contains d
    | none => false
theorem lk_is_integer : pr.defs.lookup ("is_integer" : Str) = some d_is_integer := by kernel_rfl
theorem lk_is_valid_labels : pr.defs.lookup ("is_valid_labels" : Str) = some d_is_valid_labels := by kernel_rfl
theorem lk_check_labels : pr.defs.lookup ("check_labels" : Str) = some d_check_labels := by kernel_rfl
theorem lk_grouped : pr.defs.lookup ("grouped" : Str) = some d_grouped := by kernel_rfl
theorem lk_relabelled : pr.defs.lookup ("relabelled" : Str) = some d_relabelled := by kernel_rfl
theorem lk_check_partitions : pr.defs.lookup ("check_partitions" : Str) = some d_check_partitions := by kernel_rfl
theorem lk_refined : pr.defs.lookup ("refined" : Str) = some d_refined := by kernel_rfl
theorem lk_joined : pr.defs.lookup ("joined" : Str) = some d_joined := by kernel_rfl
theorem lk_l_cell : pr.defs.lookup ("_law_cell" : Str) = some d_l_cell := by kernel_rfl
theorem lk_l_source : pr.defs.lookup ("_law_source" : Str) = some d_l_source := by kernel_rfl
theorem lk_l_draw : pr.defs.lookup ("_law_draw" : Str) = some d_l_draw := by kernel_rfl
theorem lk_l_choose : pr.defs.lookup ("_law_choose" : Str) = some d_l_choose := by kernel_rfl
theorem lk_l_is_equal : pr.defs.lookup ("_law_is_equal" : Str) = some d_l_is_equal := by kernel_rfl
theorem lk_l_is_integer : pr.defs.lookup ("_law_is_integer" : Str) = some d_l_is_integer := by kernel_rfl
theorem lk_l_odd : pr.defs.lookup ("_law_odd" : Str) = some d_l_odd := by kernel_rfl
theorem lk_l_bent : pr.defs.lookup ("_law_bent" : Str) = some d_l_bent := by kernel_rfl
theorem lk_l_labels : pr.defs.lookup ("_law_labels" : Str) = some d_l_labels := by kernel_rfl
theorem lk_l_canonical : pr.defs.lookup ("_law_canonical" : Str) = some d_l_canonical := by kernel_rfl
theorem lk_l_is_labels : pr.defs.lookup ("_law_is_labels" : Str) = some d_l_is_labels := by kernel_rfl
theorem lk_l_refined : pr.defs.lookup ("_law_refined" : Str) = some d_l_refined := by kernel_rfl
theorem lk_l_joined : pr.defs.lookup ("_law_joined" : Str) = some d_l_joined := by kernel_rfl
theorem lk_l_due : pr.defs.lookup ("_law_due" : Str) = some d_l_due := by kernel_rfl
theorem lk_law : pr.defs.lookup ("law" : Str) = some d_law := by kernel_rfl
end Lw
namespace Lw
open PySem PySem.Spec PyProof.Rows L2 Wg StX ClX
/-! ### the facts of the head -/
theorem sc_is_integer : FnScope ["value"] ["value"] (defScope (tp 5)) := ⟨rfl, rfl, rfl, by decide +kernel, rfl, by decide +kernel, by decide +kernel⟩
theorem cp_is_integer : optAll (cpS gi 60 ⟨["value"], defScope (tp 5), false⟩) (defBody (tp 5)) = some d_is_integer.body := by kernel_rfl
def h_is_integer : HDef := ⟨"is_integer", (.top "is_integer"), "is_integer", "is_integer", (tp 5), ["value"], ["value"]⟩
theorem hs_is_integer : DefS gi h_is_integer d_is_integer := ⟨sc_is_integer, rfl, cp_is_integer, fun K kV doc pm an cdv ct => .inl ⟨by decide, Binds.all (ps := ["value"]) (fun us hl => match us, hl with | [_], _ => rfl), rfl⟩⟩
theorem sc_is_valid_labels : FnScope ["value", "unused", "label"] ["value"] (defScope (tp 8)) := ⟨rfl, rfl, rfl, by decide +kernel, rfl, by decide +kernel, by decide +kernel⟩
theorem cp_is_valid_labels : optAll (cpS gi 60 ⟨["value", "unused", "label"], defScope (tp 8), false⟩) (defBody (tp 8)) = some d_is_valid_labels.body := by kernel_rfl
def h_is_valid_labels : HDef := ⟨"is_valid_labels", (.top "is_valid_labels"), "is_valid_labels", "is_valid_labels", (tp 8), ["value", "unused", "label"], ["value"]⟩
theorem hs_is_valid_labels : DefS gi h_is_valid_labels d_is_valid_labels := ⟨sc_is_valid_labels, rfl, cp_is_valid_labels, fun K kV doc pm an cdv ct => .inl ⟨by decide, Binds.all (ps := ["value"]) (fun us hl => match us, hl with | [_], _ => rfl), rfl⟩⟩
theorem sc_check_labels : FnScope ["labels"] ["labels"] (defScope (tp 9)) := ⟨rfl, rfl, rfl, by decide +kernel, rfl, by decide +kernel, by decide +kernel⟩
theorem cp_check_labels : optAll (cpS gi 60 ⟨["labels"], defScope (tp 9), false⟩) (defBody (tp 9)) = some d_check_labels.body := by kernel_rfl
def h_check_labels : HDef := ⟨"check_labels", (.top "check_labels"), "check_labels", "check_labels", (tp 9), ["labels"], ["labels"]⟩
theorem hs_check_labels : DefS gi h_check_labels d_check_labels := ⟨sc_check_labels, rfl, cp_check_labels, fun K kV doc pm an cdv ct => .inl ⟨by decide, Binds.all (ps := ["labels"]) (fun us hl => match us, hl with | [_], _ => rfl), rfl⟩⟩
theorem sc_grouped : FnScope ["labels", "parts", "label", "case", "other"] ["labels"] (defScope (tp 10)) := ⟨rfl, rfl, rfl, by decide +kernel, rfl, by decide +kernel, by decide +kernel⟩
theorem cp_grouped : optAll (cpS gi 60 ⟨["labels", "parts", "label", "case", "other"], defScope (tp 10), false⟩) (defBody (tp 10)) = some d_grouped.body := by kernel_rfl
def h_grouped : HDef := ⟨"grouped", (.top "grouped"), "grouped", "grouped", (tp 10), ["labels", "parts", "label", "case", "other"], ["labels"]⟩
theorem hs_grouped : DefS gi h_grouped d_grouped := ⟨sc_grouped, rfl, cp_grouped, fun K kV doc pm an cdv ct => .inl ⟨by decide, Binds.all (ps := ["labels"]) (fun us hl => match us, hl with | [_], _ => rfl), rfl⟩⟩
theorem sc_relabelled : FnScope ["keys", "seen", "labels", "key"] ["keys"] (defScope (tp 11)) := ⟨rfl, rfl, rfl, by decide +kernel, rfl, by decide +kernel, by decide +kernel⟩
theorem cp_relabelled : optAll (cpS gi 60 ⟨["keys", "seen", "labels", "key"], defScope (tp 11), false⟩) (defBody (tp 11)) = some d_relabelled.body := by kernel_rfl
def h_relabelled : HDef := ⟨"relabelled", (.top "relabelled"), "relabelled", "relabelled", (tp 11), ["keys", "seen", "labels", "key"], ["keys"]⟩
theorem hs_relabelled : DefS gi h_relabelled d_relabelled := ⟨sc_relabelled, rfl, cp_relabelled, fun K kV doc pm an cdv ct => .inl ⟨by decide, Binds.all (ps := ["keys"]) (fun us hl => match us, hl with | [_], _ => rfl), rfl⟩⟩
theorem sc_check_partitions : FnScope ["partitions", "labels"] ["partitions"] (defScope (tp 12)) := ⟨rfl, rfl, rfl, by decide +kernel, rfl, by decide +kernel, by decide +kernel⟩
theorem cp_check_partitions : optAll (cpS gi 60 ⟨["partitions", "labels"], defScope (tp 12), false⟩) (defBody (tp 12)) = some d_check_partitions.body := by kernel_rfl
def h_check_partitions : HDef := ⟨"check_partitions", (.top "check_partitions"), "check_partitions", "check_partitions", (tp 12), ["partitions", "labels"], ["partitions"]⟩
theorem hs_check_partitions : DefS gi h_check_partitions d_check_partitions := ⟨sc_check_partitions, rfl, cp_check_partitions, fun K kV doc pm an cdv ct => .inl ⟨by decide, Binds.all (ps := ["partitions"]) (fun us hl => match us, hl with | [_], _ => rfl), rfl⟩⟩
theorem sc_refined : FnScope ["partitions", "row"] ["partitions"] (defScope (tp 13)) := ⟨rfl, rfl, rfl, by decide +kernel, rfl, by decide +kernel, by decide +kernel⟩
theorem cp_refined : optAll (cpS gi 60 ⟨["partitions", "row"], defScope (tp 13), false⟩) (defBody (tp 13)) = some d_refined.body := by kernel_rfl
def h_refined : HDef := ⟨"refined", (.top "refined"), "refined", "refined", (tp 13), ["partitions", "row"], ["partitions"]⟩
theorem hs_refined : DefS gi h_refined d_refined := ⟨sc_refined, rfl, cp_refined, fun K kV doc pm an cdv ct => .inr ⟨by decide, [], "partitions", rfl, rfl, fun us rest hl => match us, rest, hl with | [], [], _ => rfl | [], _ :: _, _ => rfl⟩⟩
theorem sc_joined : FnScope ["partitions", "group", "labels", "part", "kept", "case", "old", "name"] ["partitions"] (defScope (tp 14)) := ⟨rfl, rfl, rfl, by decide +kernel, rfl, by decide +kernel, by decide +kernel⟩
theorem cp_joined : optAll (cpS gi 60 ⟨["partitions", "group", "labels", "part", "kept", "case", "old", "name"], defScope (tp 14), false⟩) (defBody (tp 14)) = some d_joined.body := by kernel_rfl
def h_joined : HDef := ⟨"joined", (.top "joined"), "joined", "joined", (tp 14), ["partitions", "group", "labels", "part", "kept", "case", "old", "name"], ["partitions"]⟩
theorem hs_joined : DefS gi h_joined d_joined := ⟨sc_joined, rfl, cp_joined, fun K kV doc pm an cdv ct => .inr ⟨by decide, [], "partitions", rfl, rfl, fun us rest hl => match us, rest, hl with | [], [], _ => rfl | [], _ :: _, _ => rfl⟩⟩
theorem sc_l_cell : FnScope ["_law_script", "_law_index"] ["_law_script", "_law_index"] (defScope (tp 16)) := ⟨rfl, rfl, rfl, by decide +kernel, rfl, by decide +kernel, by decide +kernel⟩
theorem cp_l_cell : optAll (cpS gi 60 ⟨["_law_script", "_law_index"], defScope (tp 16), false⟩) (defBody (tp 16)) = some d_l_cell.body := by kernel_rfl
def h_l_cell : HDef := ⟨"_law_cell", (.top "_law_cell"), "_law_cell", "_law_cell", (tp 16), ["_law_script", "_law_index"], ["_law_script", "_law_index"]⟩
theorem hs_l_cell : DefS gi h_l_cell d_l_cell := ⟨sc_l_cell, rfl, cp_l_cell, fun K kV doc pm an cdv ct => .inl ⟨by decide, Binds.all (ps := ["_law_script", "_law_index"]) (fun us hl => match us, hl with | [_, _], _ => rfl), rfl⟩⟩
theorem sc_l_source : FnScope ["_law_cell_here"] ["_law_cell_here"] (defScope (tp 17)) := ⟨rfl, rfl, rfl, by decide +kernel, rfl, by decide +kernel, by decide +kernel⟩
theorem cp_l_source : optAll (cpS gi 60 ⟨["_law_cell_here"], defScope (tp 17), false⟩) (defBody (tp 17)) = some d_l_source.body := by kernel_rfl
def h_l_source : HDef := ⟨"_law_source", (.top "_law_source"), "_law_source", "_law_source", (tp 17), ["_law_cell_here"], ["_law_cell_here"]⟩
theorem hs_l_source : DefS gi h_l_source d_l_source := ⟨sc_l_source, rfl, cp_l_source, fun K kV doc pm an cdv ct => .inl ⟨by decide, Binds.all (ps := ["_law_cell_here"]) (fun us hl => match us, hl with | [_], _ => rfl), rfl⟩⟩
theorem sc_l_draw : FnScope ["_law_supply", "_law_many", "_law_found", "_law_mixed"] ["_law_supply", "_law_many"] (defScope (tp 18)) := ⟨rfl, rfl, rfl, by decide +kernel, rfl, by decide +kernel, by decide +kernel⟩
theorem cp_l_draw : optAll (cpS gi 60 ⟨["_law_supply", "_law_many", "_law_found", "_law_mixed"], defScope (tp 18), false⟩) (defBody (tp 18)) = some d_l_draw.body := by kernel_rfl
def h_l_draw : HDef := ⟨"_law_draw", (.top "_law_draw"), "_law_draw", "_law_draw", (tp 18), ["_law_supply", "_law_many", "_law_found", "_law_mixed"], ["_law_supply", "_law_many"]⟩
theorem hs_l_draw : DefS gi h_l_draw d_l_draw := ⟨sc_l_draw, rfl, cp_l_draw, fun K kV doc pm an cdv ct => .inl ⟨by decide, Binds.all (ps := ["_law_supply", "_law_many"]) (fun us hl => match us, hl with | [_, _], _ => rfl), rfl⟩⟩
theorem sc_l_choose : FnScope ["_law_supply", "_law_values"] ["_law_supply", "_law_values"] (defScope (tp 19)) := ⟨rfl, rfl, rfl, by decide +kernel, rfl, by decide +kernel, by decide +kernel⟩
theorem cp_l_choose : optAll (cpS gi 60 ⟨["_law_supply", "_law_values"], defScope (tp 19), false⟩) (defBody (tp 19)) = some d_l_choose.body := by kernel_rfl
def h_l_choose : HDef := ⟨"_law_choose", (.top "_law_choose"), "_law_choose", "_law_choose", (tp 19), ["_law_supply", "_law_values"], ["_law_supply", "_law_values"]⟩
theorem hs_l_choose : DefS gi h_l_choose d_l_choose := ⟨sc_l_choose, rfl, cp_l_choose, fun K kV doc pm an cdv ct => .inl ⟨by decide, Binds.all (ps := ["_law_supply", "_law_values"]) (fun us hl => match us, hl with | [_, _], _ => rfl), rfl⟩⟩
theorem sc_l_is_equal : FnScope ["_law_actual", "_law_due_here"] ["_law_actual", "_law_due_here"] (defScope (tp 20)) := ⟨rfl, rfl, rfl, by decide +kernel, rfl, by decide +kernel, by decide +kernel⟩
theorem cp_l_is_equal : optAll (cpS gi 60 ⟨["_law_actual", "_law_due_here"], defScope (tp 20), false⟩) (defBody (tp 20)) = some d_l_is_equal.body := by kernel_rfl
def h_l_is_equal : HDef := ⟨"_law_is_equal", (.top "_law_is_equal"), "_law_is_equal", "_law_is_equal", (tp 20), ["_law_actual", "_law_due_here"], ["_law_actual", "_law_due_here"]⟩
theorem hs_l_is_equal : DefS gi h_l_is_equal d_l_is_equal := ⟨sc_l_is_equal, rfl, cp_l_is_equal, fun K kV doc pm an cdv ct => .inl ⟨by decide, Binds.all (ps := ["_law_actual", "_law_due_here"]) (fun us hl => match us, hl with | [_, _], _ => rfl), rfl⟩⟩
theorem sc_l_is_integer : FnScope ["_law_value"] ["_law_value"] (defScope (tp 21)) := ⟨rfl, rfl, rfl, by decide +kernel, rfl, by decide +kernel, by decide +kernel⟩
theorem cp_l_is_integer : optAll (cpS gi 60 ⟨["_law_value"], defScope (tp 21), false⟩) (defBody (tp 21)) = some d_l_is_integer.body := by kernel_rfl
def h_l_is_integer : HDef := ⟨"_law_is_integer", (.top "_law_is_integer"), "_law_is_integer", "_law_is_integer", (tp 21), ["_law_value"], ["_law_value"]⟩
theorem hs_l_is_integer : DefS gi h_l_is_integer d_l_is_integer := ⟨sc_l_is_integer, rfl, cp_l_is_integer, fun K kV doc pm an cdv ct => .inl ⟨by decide, Binds.all (ps := ["_law_value"]) (fun us hl => match us, hl with | [_], _ => rfl), rfl⟩⟩
theorem sc_l_odd : FnScope ["_law_supply", "_law_values"] ["_law_supply"] (defScope (tp 22)) := ⟨rfl, rfl, rfl, by decide +kernel, rfl, by decide +kernel, by decide +kernel⟩
theorem cp_l_odd : optAll (cpS gi 60 ⟨["_law_supply", "_law_values"], defScope (tp 22), false⟩) (defBody (tp 22)) = some d_l_odd.body := by kernel_rfl
def h_l_odd : HDef := ⟨"_law_odd", (.top "_law_odd"), "_law_odd", "_law_odd", (tp 22), ["_law_supply", "_law_values"], ["_law_supply"]⟩
theorem hs_l_odd : DefS gi h_l_odd d_l_odd := ⟨sc_l_odd, rfl, cp_l_odd, fun K kV doc pm an cdv ct => .inl ⟨by decide, Binds.all (ps := ["_law_supply"]) (fun us hl => match us, hl with | [_], _ => rfl), rfl⟩⟩
theorem sc_l_bent : FnScope ["_law_supply", "_law_value", "_law_depth", "_law_at", "_law_way"] ["_law_supply", "_law_value", "_law_depth"] (defScope (tp 23)) := ⟨rfl, rfl, rfl, by decide +kernel, rfl, by decide +kernel, by decide +kernel⟩
theorem cp_l_bent : optAll (cpS gi 60 ⟨["_law_supply", "_law_value", "_law_depth", "_law_at", "_law_way"], defScope (tp 23), false⟩) (defBody (tp 23)) = some d_l_bent.body := by kernel_rfl
def h_l_bent : HDef := ⟨"_law_bent", (.top "_law_bent"), "_law_bent", "_law_bent", (tp 23), ["_law_supply", "_law_value", "_law_depth", "_law_at", "_law_way"], ["_law_supply", "_law_value", "_law_depth"]⟩
theorem hs_l_bent : DefS gi h_l_bent d_l_bent := ⟨sc_l_bent, rfl, cp_l_bent, fun K kV doc pm an cdv ct => .inl ⟨by decide, Binds.all (ps := ["_law_supply", "_law_value", "_law_depth"]) (fun us hl => match us, hl with | [_, _, _], _ => rfl), rfl⟩⟩
theorem sc_l_labels : FnScope ["_law_supply", "_law_size", "_law_most", "_law_found"] ["_law_supply", "_law_size", "_law_most"] (defScope (tp 24)) := ⟨rfl, rfl, rfl, by decide +kernel, rfl, by decide +kernel, by decide +kernel⟩
theorem cp_l_labels : optAll (cpS gi 60 ⟨["_law_supply", "_law_size", "_law_most", "_law_found"], defScope (tp 24), false⟩) (defBody (tp 24)) = some d_l_labels.body := by kernel_rfl
def h_l_labels : HDef := ⟨"_law_labels", (.top "_law_labels"), "_law_labels", "_law_labels", (tp 24), ["_law_supply", "_law_size", "_law_most", "_law_found"], ["_law_supply", "_law_size", "_law_most"]⟩
theorem hs_l_labels : DefS gi h_l_labels d_l_labels := ⟨sc_l_labels, rfl, cp_l_labels, fun K kV doc pm an cdv ct => .inl ⟨by decide, Binds.all (ps := ["_law_supply", "_law_size", "_law_most"]) (fun us hl => match us, hl with | [_, _, _], _ => rfl), rfl⟩⟩
theorem sc_l_canonical : FnScope ["_law_keys", "_law_seen", "_law_found", "_law_key"] ["_law_keys"] (defScope (tp 25)) := ⟨rfl, rfl, rfl, by decide +kernel, rfl, by decide +kernel, by decide +kernel⟩
theorem cp_l_canonical : optAll (cpS gi 60 ⟨["_law_keys", "_law_seen", "_law_found", "_law_key"], defScope (tp 25), false⟩) (defBody (tp 25)) = some d_l_canonical.body := by kernel_rfl
def h_l_canonical : HDef := ⟨"_law_canonical", (.top "_law_canonical"), "_law_canonical", "_law_canonical", (tp 25), ["_law_keys", "_law_seen", "_law_found", "_law_key"], ["_law_keys"]⟩
theorem hs_l_canonical : DefS gi h_l_canonical d_l_canonical := ⟨sc_l_canonical, rfl, cp_l_canonical, fun K kV doc pm an cdv ct => .inl ⟨by decide, Binds.all (ps := ["_law_keys"]) (fun us hl => match us, hl with | [_], _ => rfl), rfl⟩⟩
theorem sc_l_is_labels : FnScope ["_law_value", "_law_one"] ["_law_value"] (defScope (tp 26)) := ⟨rfl, rfl, rfl, by decide +kernel, rfl, by decide +kernel, by decide +kernel⟩
theorem cp_l_is_labels : optAll (cpS gi 60 ⟨["_law_value", "_law_one"], defScope (tp 26), false⟩) (defBody (tp 26)) = some d_l_is_labels.body := by kernel_rfl
def h_l_is_labels : HDef := ⟨"_law_is_labels", (.top "_law_is_labels"), "_law_is_labels", "_law_is_labels", (tp 26), ["_law_value", "_law_one"], ["_law_value"]⟩
theorem hs_l_is_labels : DefS gi h_l_is_labels d_l_is_labels := ⟨sc_l_is_labels, rfl, cp_l_is_labels, fun K kV doc pm an cdv ct => .inl ⟨by decide, Binds.all (ps := ["_law_value"]) (fun us hl => match us, hl with | [_], _ => rfl), rfl⟩⟩
theorem sc_l_refined : FnScope ["_law_rows"] ["_law_rows"] (defScope (tp 27)) := ⟨rfl, rfl, rfl, by decide +kernel, rfl, by decide +kernel, by decide +kernel⟩
theorem cp_l_refined : optAll (cpS gi 60 ⟨["_law_rows"], defScope (tp 27), false⟩) (defBody (tp 27)) = some d_l_refined.body := by kernel_rfl
def h_l_refined : HDef := ⟨"_law_refined", (.top "_law_refined"), "_law_refined", "_law_refined", (tp 27), ["_law_rows"], ["_law_rows"]⟩
theorem hs_l_refined : DefS gi h_l_refined d_l_refined := ⟨sc_l_refined, rfl, cp_l_refined, fun K kV doc pm an cdv ct => .inl ⟨by decide, Binds.all (ps := ["_law_rows"]) (fun us hl => match us, hl with | [_], _ => rfl), rfl⟩⟩
theorem sc_l_joined : FnScope ["_law_rows"] ["_law_rows"] (defScope (tp 28)) := ⟨rfl, rfl, rfl, by decide +kernel, rfl, by decide +kernel, by decide +kernel⟩
theorem cp_l_joined : optAll (cpS gi 60 ⟨["_law_rows"], defScope (tp 28), false⟩) (defBody (tp 28)) = some d_l_joined.body := by kernel_rfl
def h_l_joined : HDef := ⟨"_law_joined", (.top "_law_joined"), "_law_joined", "_law_joined", (tp 28), ["_law_rows"], ["_law_rows"]⟩
theorem hs_l_joined : DefS gi h_l_joined d_l_joined := ⟨sc_l_joined, rfl, cp_l_joined, fun K kV doc pm an cdv ct => .inl ⟨by decide, Binds.all (ps := ["_law_rows"]) (fun us hl => match us, hl with | [_], _ => rfl), rfl⟩⟩
theorem sc_l_due : FnScope ["_law_rows", "_law_row"] ["_law_rows"] (defScope (tp 29)) := ⟨rfl, rfl, rfl, by decide +kernel, rfl, by decide +kernel, by decide +kernel⟩
theorem cp_l_due : optAll (cpS gi 60 ⟨["_law_rows", "_law_row"], defScope (tp 29), false⟩) (defBody (tp 29)) = some d_l_due.body := by kernel_rfl
def h_l_due : HDef := ⟨"_law_due", (.top "_law_due"), "_law_due", "_law_due", (tp 29), ["_law_rows", "_law_row"], ["_law_rows"]⟩
theorem hs_l_due : DefS gi h_l_due d_l_due := ⟨sc_l_due, rfl, cp_l_due, fun K kV doc pm an cdv ct => .inl ⟨by decide, Binds.all (ps := ["_law_rows"]) (fun us hl => match us, hl with | [_], _ => rfl), rfl⟩⟩
theorem sc_law : FnScope ["_law_script", "_law_k", "_law_supply", "_law_lap", "_law_size", "_law_rows", "_law_at", "_law_due_here", "_law_one"] ["_law_script"] (defScope (tp 30)) := ⟨rfl, rfl, rfl, by decide +kernel, rfl, by decide +kernel, by decide +kernel⟩
theorem cp_law : optAll (cpS gi 60 ⟨["_law_script", "_law_k", "_law_supply", "_law_lap", "_law_size", "_law_rows", "_law_at", "_law_due_here", "_law_one"], defScope (tp 30), false⟩) (defBody (tp 30)) = some d_law.body := by kernel_rfl
def h_law : HDef := ⟨"law", (.top "law"), "law", "law", (tp 30), ["_law_script", "_law_k", "_law_supply", "_law_lap", "_law_size", "_law_rows", "_law_at", "_law_due_here", "_law_one"], ["_law_script"]⟩
theorem hs_law : DefS gi h_law d_law := ⟨sc_law, rfl, cp_law, fun K kV doc pm an cdv ct => .inl ⟨by decide, Binds.all (ps := ["_law_script"]) (fun us hl => match us, hl with | [_], _ => rfl), rfl⟩⟩
def hs : List HDef := [h_is_integer, h_is_valid_labels, h_check_labels, h_grouped, h_relabelled, h_check_partitions, h_refined, h_joined, h_l_cell, h_l_source, h_l_draw, h_l_choose, h_l_is_equal, h_l_is_integer, h_l_odd, h_l_bent, h_l_labels, h_l_canonical, h_l_is_labels, h_l_refined, h_l_joined, h_l_due, h_law]
theorem hs_ok : ∀ d ∈ hs, ∃ p, pr.defs.lookup d.q = some p ∧ DefS gi d p := (all_cons ⟨_, lk_is_integer, hs_is_integer⟩ (all_cons ⟨_, lk_is_valid_labels, hs_is_valid_labels⟩ (all_cons ⟨_, lk_check_labels, hs_check_labels⟩ (all_cons ⟨_, lk_grouped, hs_grouped⟩ (all_cons ⟨_, lk_relabelled, hs_relabelled⟩ (all_cons ⟨_, lk_check_partitions, hs_check_partitions⟩ (all_cons ⟨_, lk_refined, hs_refined⟩ (all_cons ⟨_, lk_joined, hs_joined⟩ (all_cons ⟨_, lk_l_cell, hs_l_cell⟩ (all_cons ⟨_, lk_l_source, hs_l_source⟩ (all_cons ⟨_, lk_l_draw, hs_l_draw⟩ (all_cons ⟨_, lk_l_choose, hs_l_choose⟩ (all_cons ⟨_, lk_l_is_equal, hs_l_is_equal⟩ (all_cons ⟨_, lk_l_is_integer, hs_l_is_integer⟩ (all_cons ⟨_, lk_l_odd, hs_l_odd⟩ (all_cons ⟨_, lk_l_bent, hs_l_bent⟩ (all_cons ⟨_, lk_l_labels, hs_l_labels⟩ (all_cons ⟨_, lk_l_canonical, hs_l_canonical⟩ (all_cons ⟨_, lk_l_is_labels, hs_l_is_labels⟩ (all_cons ⟨_, lk_l_refined, hs_l_refined⟩ (all_cons ⟨_, lk_l_joined, hs_l_joined⟩ (all_cons ⟨_, lk_l_due, hs_l_due⟩ (all_cons ⟨_, lk_law, hs_law⟩ all_nil)))))))))))))))))))))))
theorem at_ok : ∀ c f a, pr.att c f = some a → c ∈ gi.cls := fun c f a ha => by simp [pr] at ha
end Lw
/-! WgU: plain tools for the evaluation. -/
namespace Wg
open PySem L2
/-! ### what a callee leaves -/
theorem okOld_append {S G : Sto} : ∀ m, m ≤ S.length → okOld S.length m S (S ++ G) = true
  | 0, _ => rfl
  | m + 1, h => by
    have hm : m < S.length := h
    simp only [okOld, List.getElem?_append_left hm, List.getElem?_eq_getElem hm, Cell.eqb_refl, Bool.or_true, Bool.true_and]
    exact okOld_append m (Nat.le_of_lt h)
theorem settle_self (S : Sto) (v : IV) : settle S v S = S := by
  unfold settle
  split
  · exact List.take_length
  · rfl
theorem settle_append {S G : Sto} {v : IV} (h : v.lt S.length = true) : settle S v (S ++ G) = S := by
  unfold settle
  rw [h, okOld_append _ (Nat.le_refl _), Bool.and_self, if_pos rfl, List.take_left]
/-! ### while -/
section
variable {test : Sl → Sto → Rs IV} {body : Sl → Sto → Rz} {τ τ2 : Sl} {S S1 S2 : Sto}
theorem whileN_det : ∀ {n m : Nat} {τ : Sl} {S : Sto} {r r' : Rz}, whileN test body n τ S = some r → whileN test body m τ S = some r' → r = r'
  | 0, _, _, _, _, _, h, _ => by simp [whileN] at h
  | _ + 1, 0, _, _, _, _, _, h => by simp [whileN] at h
  | n + 1, m + 1, τ, S, r, r', h, h' => by
    simp only [whileN] at h h'
    split at h
    · rename_i S1 e
      rw [e] at h'
      simp only [] at h'
      cases e2 : body τ S1 with
      | next a b => rw [e2] at h h'; exact whileN_det h h'
      | cnt a b => rw [e2] at h h'; exact whileN_det h h'
      | brk a b => rw [e2] at h h'; cases h; cases h'; rfl
      | ret a b => rw [e2] at h h'; cases h; cases h'; rfl
      | exc a b c => rw [e2] at h h'; cases h; cases h'; rfl
      | bad => rw [e2] at h h'; cases h; cases h'; rfl
    · rename_i S1 e
      rw [e] at h'
      cases h; cases h'; rfl
    · rename_i c S1 e
      rw [e] at h'
      cases h; cases h'; rfl
    · rename_i x n1 n2 n3
      cases e : test τ S with
      | bad => rw [e] at h'; cases h; cases h'; rfl
      | exc c S1 => exact absurd e (n3 c S1)
      | ok v S1 =>
        cases v with
        | bl b => cases b with
          | true => exact absurd e (n1 S1)
          | false => exact absurd e (n2 S1)
        | non => rw [e] at h'; cases h; cases h'; rfl
        | int i => rw [e] at h'; cases h; cases h'; rfl
        | str i => rw [e] at h'; cases h; cases h'; rfl
        | tup i => rw [e] at h'; cases h; cases h'; rfl
        | ref i => rw [e] at h'; cases h; cases h'; rfl
        | cls i => rw [e] at h'; cases h; cases h'; rfl
open Classical in
theorem whileC_of {n : Nat} {r : Rz} (h : whileN test body n τ S = some r) : whileC test body τ S = r := by
  unfold whileC
  have hx : ∃ n r, whileN test body n τ S = some r := ⟨n, r, h⟩
  rw [dif_pos hx]
  exact whileN_det hx.choose_spec.choose_spec h
open Classical in
theorem whileC_step (h : test τ S = .ok (.bl true) S1) (hb : body τ S1 = .next τ2 S2) : whileC test body τ S = whileC test body τ2 S2 := by
  by_cases hx : ∃ n r, whileN test body n τ2 S2 = some r
  · obtain ⟨n, r, e⟩ := hx
    rw [whileC_of e]
    refine whileC_of (n := n + 1) ?_
    simp only [whileN, h, hb, e]
  · have hy : ¬ ∃ n r, whileN test body n τ S = some r := by
      rintro ⟨n, r, e⟩
      cases n with
      | zero => simp [whileN] at e
      | succ n => simp only [whileN, h, hb] at e; exact hx ⟨n, r, e⟩
    unfold whileC
    rw [dif_neg hx, dif_neg hy]
theorem whileC_stop (h : test τ S = .ok (.bl false) S1) : whileC test body τ S = .next τ S1 := whileC_of (n := 1) (by simp only [whileN, h])
end
/-! ### loops that keep an invariant -/
/-- a for over items, whose turns all go on: the slots and store by a function of the turn -/
theorem forGo_inv {body : Sl → Sto → Rz} {tg : Tg} {held : Option (Nat × Cell)} (I : Nat → Sl → Sto → Prop) : ∀ (xs : List IV) (i : Nat) (τ : Sl) (S : Sto), I i τ S →
    (∀ j x τ S, i ≤ j → xs[j - i]? = some x → I j τ S → holds held S = true ∧ ∃ τ1, setT tg x τ = some τ1 ∧ ∃ τ2 S2, body τ1 S = .next τ2 S2 ∧ I (j + 1) τ2 S2) →
    (∀ τ S, I (i + xs.length) τ S → holds held S = true) → ∃ τ' S', forGo body tg held xs τ S = .next τ' S' ∧ I (i + xs.length) τ' S'
  | [], i, τ, S, h, _, hd => ⟨τ, S, by simp only [forGo]; rw [if_pos (hd τ S (by simpa using h))], by simpa using h⟩
  | x :: xs, i, τ, S, h, hs, hd => by
    obtain ⟨h1, τ1, h2, τ2, S2, h3, h4⟩ := hs i x τ S (Nat.le_refl _) (by simp) h
    obtain ⟨τ', S', e, q⟩ := forGo_inv (body := body) (tg := tg) (held := held) I xs (i + 1) τ2 S2 h4 (fun j y τ S hj e hI => hs j y τ S (by omega) (by
        have : j - i = (j - (i + 1)) + 1 := by omega
        rw [this]; simpa using e) hI) (fun τ S hI => hd τ S (by
        have : i + (x :: xs).length = i + 1 + xs.length := by simp; omega
        rw [this]; exact hI))
    refine ⟨τ', S', ?_, by have : i + (x :: xs).length = i + 1 + xs.length := by simp; omega
                           rw [this]; exact q⟩
    simp only [forGo, h1, if_true, h2, h3, e]
end Wg
/-! WgV: texts of data; divisors. -/
namespace Wg
open PySem L2
/-! ### how long a data's text is at most -/
mutual
def wtD : PyData → Nat
  | .none => 4
  | .bool _ => 5
  | .int _ => 1921
  | .str x => (reprText x).length
  | .list xs => wtDs xs + 3
  | .tuple xs => wtDs xs + 3
  | .dict kvs => wtKv kvs + 3
def wtDs : List PyData → Nat
  | [] => 0
  | x :: xs => wtD x + 2 + wtDs xs
def wtKv : List (PyData × PyData) → Nat
  | [] => 0
  | (k, v) :: r => wtD k + wtD v + 4 + wtKv r
end
mutual
theorem shown_le : ∀ d : PyData, d.showable = true → d.shown.length ≤ wtD d
  | .none, _ => by simp only [PyData.shown, wtD]; decide
  | .bool b, _ => by cases b <;> simp only [PyData.shown, wtD] <;> decide
  | .int i, h => by
    simp only [PyData.shown, wtD]
    exact PyProof.Rows.int_text_len_1921 (by simpa [PyData.showable] using h)
  | .str x, _ => by simp only [PyData.shown, wtD]; exact Nat.le_refl _
  | .list xs, h => by
    simp only [PyData.shown, wtD]
    have := listText_len_le (PyData.shownAll xs)
    have := shownAll_le xs (by simpa [PyData.showable] using h)
    omega
  | .tuple xs, h => by
    simp only [PyData.shown, wtD]
    have := tupleText_len_le (PyData.shownAll xs)
    have := shownAll_le xs (by simpa [PyData.showable] using h)
    omega
  | .dict kvs, h => by
    simp only [PyData.shown, wtD]
    have := dictText_len_le (PyData.shownKv kvs)
    have := shownKv_le kvs (by simpa [PyData.showable] using h)
    omega
theorem shownAll_le : ∀ xs : List PyData, PyData.showableAll xs = true → ((PyData.shownAll xs).map (·.length)).sum + 2 * (PyData.shownAll xs).length ≤ wtDs xs
  | [], _ => by simp [PyData.shownAll, wtDs]
  | x :: xs, h => by
    simp only [PyData.showableAll, Bool.and_eq_true] at h
    have h1 := shown_le x h.1
    have h2 := shownAll_le xs h.2
    simp only [PyData.shownAll, wtDs, List.map_cons, List.sum_cons, List.length_cons]
    omega
theorem shownKv_le : ∀ kvs : List (PyData × PyData), PyData.showableKv kvs = true → ((PyData.shownKv kvs).map (·.length)).sum + 2 * (PyData.shownKv kvs).length ≤ wtKv kvs
  | [], _ => by simp [PyData.shownKv, wtKv]
  | (k, v) :: r, h => by
    simp only [PyData.showableKv, Bool.and_eq_true] at h
    have h1 := shown_le k h.1.1
    have h2 := shown_le v h.1.2
    have h3 := shownKv_le r h.2
    simp only [PyData.shownKv, wtKv, List.map_cons, List.sum_cons, List.length_cons, Str.length_append]
    have : (Str.ofString ": ").length = 2 := by decide
    omega
end
theorem shownOk_of {d : PyData} (h1 : d.showable = true) (h2 : (!d.hasDict || !hasL d) = true) (h3 : wtD d ≤ 16777216) (h4 : d.depth ≤ 60) : shownOk d = true := by
  simp only [shownOk, h1, h2, Bool.true_and, Bool.and_true, Bool.and_eq_true, decide_eq_true_eq]
  exact ⟨Nat.le_trans (shown_le d h1) h3, h4⟩
/-! ### divisors -/
end Wg
/-! WgW: the evaluation's equations, each at all its arguments. -/
namespace Wg
open PySem L2
section
variable {Γ : Gam} {sub : Str → Str → Bool} {τ : Sl} {S S1 : Sto} {v : IV}
theorem bind_ok {α β : Type} {a : α} {f : α → Sto → Rs β} : (Rs.ok a S).bind f = f a S := (rfl)
theorem bind_exc {α β : Type} {c : Str} {f : α → Sto → Rs β} : (Rs.exc c S : Rs α).bind f = .exc c S := (rfl)
theorem thn_ok {α : Type} {a : α} {f : α → Sto → Rz} : (Rs.ok a S).thn τ f = f a S := (rfl)
theorem thn_exc {α : Type} {c : Str} {f : α → Sto → Rz} : (Rs.exc c S : Rs α).thn τ f = .exc c τ S := (rfl)
theorem seq_next {f : Sl → Sto → Rz} : (Rz.next τ S).seq f = f τ S := (rfl)
theorem seq_ret {f : Sl → Sto → Rz} : (Rz.ret v S).seq f = .ret v S := (rfl)
theorem seq_brk {f : Sl → Sto → Rz} : (Rz.brk τ S).seq f = .brk τ S := (rfl)
theorem seq_cnt {f : Sl → Sto → Rz} : (Rz.cnt τ S).seq f = .cnt τ S := (rfl)
theorem seq_exc {c : Str} {f : Sl → Sto → Rz} : (Rz.exc c τ S).seq f = .exc c τ S := (rfl)
theorem done_ret : (Rz.ret v S1).done S = .ok v (settle S v S1) := (rfl)
theorem done_next : (Rz.next τ S1).done S = .ok .non (settle S .non S1) := (rfl)
theorem done_exc {c : Str} : (Rz.exc c τ S1).done S = .exc c (settle S .non S1) := (rfl)
theorem tr_ok {b : Bool} {f : Bool → Sto → Rs IV} : truth (.ok (.bl b) S) f = f b S := (rfl)
theorem tr_exc {c : Str} {f : Bool → Sto → Rs IV} : truth (.exc c S) f = .exc c S := (rfl)
theorem settle_len (h : S1.length = S.length) : settle S v S1 = S1 := by
  unfold settle
  split
  · rw [← h, List.take_length]
  · rfl
/-! expressions -/
def getI (o : Option (Option IV)) (S : Sto) : Rs IV := match o with
  | some (some v) => .ok v S
  | _ => .bad
theorem getI_some : getI (some (some v)) S = .ok v S := (rfl)
def getO (o : Option IV) (S : Sto) : Rs IV := match o with
  | some v => .ok v S
  | none => .bad
theorem getO_some : getO (some v) S = .ok v S := (rfl)
theorem x_k : evE Γ (.k v) τ S = .ok v S := (rfl)
theorem x_loc {i : Nat} : evE Γ (.loc i) τ S = getI τ[i]? S := (rfl)
theorem x_glb {x : Str} : evE Γ (.glb x) τ S = getO (Γ.glob x) S := by simp only [evE, getO] <;> (cases Γ.glob x <;> rfl)
theorem x_bin {o : Bop} {a b : PX} : evE Γ (.bin o a b) τ S = (evE Γ a τ S).bind fun x S1 => (evE Γ b τ S1).bind fun y S2 => binI o x y S2 := (rfl)
theorem x_neg {a : PX} : evE Γ (.neg a) τ S = (evE Γ a τ S).bind fun x S1 => negI x S1 := (rfl)
theorem x_cmp {o : Cop} {a b : PX} : evE Γ (.cmp o a b) τ S = (evE Γ a τ S).bind fun x S1 => (evE Γ b τ S1).bind fun y S2 => cmpI o x y S2 := (rfl)
theorem x_chain {o o' : Cop} {a b c : PX} : evE Γ (.chain o o' a b c) τ S = (evE Γ a τ S).bind fun x S1 => (evE Γ b τ S1).bind fun y S2 => truth (cmpI o x y S2) fun k S3 =>
      if k then (evE Γ c τ S3).bind fun z S4 => cmpI o' y z S4 else .ok (.bl false) S3 := (rfl)
theorem x_and {a b : PX} : evE Γ (.and a b) τ S = truth (evE Γ a τ S) fun k S1 => if k then evE Γ b τ S1 else .ok (.bl false) S1 := (rfl)
theorem x_or {a b : PX} : evE Γ (.or a b) τ S = truth (evE Γ a τ S) fun k S1 => if k then .ok (.bl true) S1 else evE Γ b τ S1 := (rfl)
theorem x_not {a : PX} : evE Γ (.not a) τ S = truth (evE Γ a τ S) fun k S1 => .ok (.bl (!k)) S1 := (rfl)
theorem x_ite {c a b : PX} : evE Γ (.ite c a b) τ S = truth (evE Γ c τ S) fun k S1 => if k then evE Γ a τ S1 else evE Γ b τ S1 := (rfl)
def mkTu (xs : List IV) (S : Sto) : Rs IV := if szOk xs.length then .ok (.tup xs) S else .bad
def mkLi (xs : List IV) (S : Sto) : Rs IV := if szOk xs.length then .ok (.ref S.length) (S ++ [.lst xs]) else .bad
theorem mkLi_eq {xs : List IV} (h : szOk xs.length = true) : mkLi xs S = .ok (.ref S.length) (S ++ [.lst xs]) := if_pos h
theorem mkTu_1 {a : IV} : mkTu [a] S = .ok (.tup [a]) S := (rfl)
theorem mkTu_0 : mkTu [] S = .ok (.tup []) S := (rfl)
theorem mkTu_2 {a b : IV} : mkTu [a, b] S = .ok (.tup [a, b]) S := (rfl)
theorem mkTu_3 {a b c : IV} : mkTu [a, b, c] S = .ok (.tup [a, b, c]) S := (rfl)
theorem mkTu_4 {a b c d : IV} : mkTu [a, b, c, d] S = .ok (.tup [a, b, c, d]) S := (rfl)
theorem mkLi_0 : mkLi [] S = .ok (.ref S.length) (S ++ [.lst []]) := (rfl)
theorem mkLi_1 {a : IV} : mkLi [a] S = .ok (.ref S.length) (S ++ [.lst [a]]) := (rfl)
theorem mkLi_2 {a b : IV} : mkLi [a, b] S = .ok (.ref S.length) (S ++ [.lst [a, b]]) := (rfl)
theorem mkLi_3 {a b c : IV} : mkLi [a, b, c] S = .ok (.ref S.length) (S ++ [.lst [a, b, c]]) := (rfl)
theorem mkLi_4 {a b c d : IV} : mkLi [a, b, c, d] S = .ok (.ref S.length) (S ++ [.lst [a, b, c, d]]) := (rfl)
theorem x_tup {es : List PX} : evE Γ (.tup es) τ S = (evEs Γ es τ S).bind fun xs S1 => mkTu xs S1 := (rfl)
theorem x_lst {es : List PX} : evE Γ (.lst es) τ S = (evEs Γ es τ S).bind fun xs S1 => mkLi xs S1 := (rfl)
theorem x_dct0 : evE Γ (.dct []) τ S = .ok (.ref S.length) (S ++ [.dct []]) := (rfl)
theorem x_dct1 {i j : Int} : evE Γ (.dct [(.k (.int i), .k (.int j))]) τ S = .ok (.ref S.length) (S ++ [.dct [(.inl i, .int j)]]) := (rfl)
theorem x_ix {a b : PX} : evE Γ (.ix a b) τ S = (evE Γ a τ S).bind fun x S1 => (evE Γ b τ S1).bind fun y S2 => ixI x y S2 := (rfl)
theorem x_sl {a : PX} {lo hi : Option PX} : evE Γ (.sl a lo hi) τ S = (evE Γ a τ S).bind fun x S1 => (evO Γ lo τ S1).bind fun l S2 => (evO Γ hi τ S2).bind fun h S3 => slI x l h S3 := (rfl)
theorem x_rev {a : PX} : evE Γ (.rev a) τ S = (evE Γ a τ S).bind fun x S1 => revI x S1 := (rfl)
theorem r_tup {xs : List IV} : revI (.tup xs) S = .ok (.tup xs.reverse) S := (rfl)
theorem x_rgs {t : Bool} {e : PX} : evE Γ (.rgs t e) τ S = (evE Γ e τ S).bind fun x S1 => rgsI t x S1 := (rfl)
theorem rgs_l {n : Nat} (h : n ≤ 1000) : rgsI false (.int (n : Nat)) S = .ok (.ref S.length) (S ++ [.lst (rngI n)]) := by
  have c : (decide ((0 : Int) ≤ (n : Nat)) && decide (((n : Nat) : Int) ≤ 1000)) = true := by simp only [Bool.and_eq_true, decide_eq_true_eq]; omega
  simp only [rgsI, c, if_true, Bool.false_eq_true, if_false, Int.toNat_natCast, alloc]
theorem x_call {f : Str} {es : List PX} : evE Γ (.call f es) τ S = (evEs Γ es τ S).bind fun xs S1 => Γ.call f xs S1 := (rfl)
theorem x_blt {f : Bf} {es : List PX} : evE Γ (.blt f es) τ S = ((evEs Γ es τ S).bind fun xs S1 => bltI f xs S1).settle S := (rfl)
theorem st_self : (Rs.ok v S).settle S = .ok v S := by simp only [Rs.settle, settle_self]
theorem st_exc {c : Str} : (Rs.exc c S).settle S = .exc c S := by simp only [Rs.settle, settle_self]
theorem st_excA {c : Str} {G : Sto} : (Rs.exc c (S ++ G)).settle S = .exc c S := by simp only [Rs.settle]; rw [settle_append rfl]
theorem x_gc {e : PX} : evE Γ (.gc e) τ S = (evE Γ e τ S).settle S := (rfl)
theorem settle_new {c : Cell} : settle S (.ref S.length) (S ++ [c]) = S ++ [c] := by unfold settle; simp [IV.lt]
theorem st_new {c : Cell} : (Rs.ok (.ref S.length) (S ++ [c])).settle S = .ok (.ref S.length) (S ++ [c]) := by simp only [Rs.settle, settle_new]
theorem st_int {i : Int} {G : Sto} : (Rs.ok (.int i) (S ++ G)).settle S = .ok (.int i) S := by simp only [Rs.settle]; rw [settle_append rfl]
theorem st_bl {i : Bool} {G : Sto} : (Rs.ok (.bl i) (S ++ G)).settle S = .ok (.bl i) S := by simp only [Rs.settle]; rw [settle_append rfl]
theorem st_str {i : Str} {G : Sto} : (Rs.ok (.str i) (S ++ G)).settle S = .ok (.str i) S := by simp only [Rs.settle]; rw [settle_append rfl]
/-! attributes, methods, new instances -/
theorem x_att {f : Str} {o : PX} : evE Γ (.att f o) τ S = (evE Γ o τ S).bind fun x S1 => attI Γ f x S1 := (rfl)
def metR (Γ : Gam) (q : Option Str) (x : IV) (r : Sto → Rs (List IV)) (S : Sto) : Rs IV := match q with
  | some q => (r S).bind fun xs S2 => Γ.call q (x :: xs) S2
  | none => .bad
theorem x_met {m : Str} {o : PX} {es : List PX} : evE Γ (.met m o es) τ S = (evE Γ o τ S).bind fun x S1 => metR Γ (metI Γ m es.isEmpty x S1) x (evEs Γ es τ) S1 := (rfl)
theorem metR_some {q : Str} {x : IV} {r : Sto → Rs (List IV)} : metR Γ (some q) x r S = (r S).bind fun xs S2 => Γ.call q (x :: xs) S2 := (rfl)
def newR (Γ : Gam) (y : IV) (r : Sto → Rs (List IV)) (S : Sto) : Rs IV := match y with
  | .cls c => if hasInit Γ c then (r S).bind fun xs S1 => mkI Γ c xs S1 else .bad
  | _ => .bad
theorem x_new {f : PX} {es : List PX} : evE Γ (.new f es) τ S = (evE Γ f τ S).bind fun y S0 => newR Γ y (evEs Γ es τ) S0 := (rfl)
theorem x_iso {a : PX} {c : Str} : evE Γ (.iso a c) τ S = (evE Γ a τ S).bind fun x S1 => isoI Γ x c S1 := (rfl)
def starR (y : IV) (S : Sto) : Rs (List IV) := match itemsI y S with
  | some ys => .ok ys S
  | none => .bad
theorem starR_tup {xs : List IV} : starR (.tup xs) S = .ok xs S := (rfl)
theorem x_calls {f : Str} {es : List PX} {e : PX} : evE Γ (.calls f es e) τ S = (evEs Γ es τ S).bind fun xs S1 => (evE Γ e τ S1).bind fun y S2 => (starR y S2).bind fun ys S3 => Γ.call f (xs ++ ys) S3 := by
  simp only [evE]
  congr 1; funext xs S1; congr 1; funext y S2
  unfold starR
  cases itemsI y S2 <;> rfl
theorem att_fld {n : Nat} {c f : Str} {fs : List (Str × IV)} {w : IV} (h : S[n]? = some (.ins c fs)) (ha : Γ.att c f = none) (hf : fs.lookup f = some w) : attI Γ f (.ref n) S = .ok w S := by simp only [attI, h, ha, hf]
theorem att_prop {n : Nat} {c f g : Str} {s : Option Str} {fs : List (Str × IV)} (h : S[n]? = some (.ins c fs)) (ha : Γ.att c f = some (.prop g s)) : attI Γ f (.ref n) S = okOnly (Γ.call g [.ref n] S) := by simp only [attI, h, ha]
theorem ok_only : okOnly (.ok v S) = .ok v S := (rfl)
theorem s_fld {o e : PX} {f : Str} : evS Γ sub (.fld o f e) τ S = (evE Γ e τ S).thn τ fun v S1 => (evE Γ o τ S1).thn τ fun x S2 => fldN Γ f v x τ S2 := (rfl)
def enumR (x : IV) (S : Sto) : Rs Walk := match enumV x S with
  | some w => .ok w S
  | none => .bad
theorem xi_enum {e : PX} : evI Γ (.enum e) τ S = (evE Γ e τ S).bind fun x S1 => enumR x S1 := (rfl)
theorem enumR_tup {xs : List IV} : enumR (.tup xs) S = .ok ⟨enumI xs, none⟩ S := (rfl)
def zipsR (x : IV) (S : Sto) : Rs Walk := match zipsV x with
  | some w => .ok w S
  | none => .bad
theorem xi_zips {e : PX} : evI Γ (.zips e) τ S = (evE Γ e τ S).bind fun x S1 => zipsR x S1 := (rfl)
def zipR (x y : IV) (S : Sto) : Rs Walk := match x, y with
  | .tup xs, .tup ys => .ok ⟨zipI xs ys, none⟩ S
  | _, _ => .bad
theorem xi_zip {a b : PX} : evI Γ (.zip a b) τ S = (evE Γ a τ S).bind fun x S1 => (evE Γ b τ S1).bind fun y S2 => zipR x y S2 := (rfl)
theorem zipR_tup {xs ys : List IV} : zipR (.tup xs) (.tup ys) S = .ok ⟨zipI xs ys, none⟩ S := (rfl)
theorem x_isi {a : PX} {T : Ty} : evE Γ (.isi a T) τ S = (evE Γ a τ S).bind fun x S1 => isiI x T S1 := (rfl)
theorem x_mth {m : Str} {o : PX} {es : List PX} : evE Γ (.mth m o es) τ S = (evE Γ o τ S).bind fun x S1 => if rcvI x S1 then (evEs Γ es τ S1).bind fun xs S2 => mthI m x xs S2 else if rcv2 m x S1 then (evEs Γ es τ S1).bind fun xs S2 => mth2 m x xs S2 else .bad := (rfl)
theorem xs_nil : evEs Γ [] τ S = .ok [] S := (rfl)
theorem xs_cons {e : PX} {es : List PX} : evEs Γ (e :: es) τ S = (evE Γ e τ S).bind fun x S1 => (evEs Γ es τ S1).bind fun xs S2 => .ok (x :: xs) S2 := (rfl)
theorem xo_none : evO Γ none τ S = .ok none S := (rfl)
def intR (x : IV) (S : Sto) : Rs (Option Int) := match x with
  | .int i => .ok (some i) S
  | _ => .bad
theorem intR_int {i : Int} : intR (.int i) S = .ok (some i) S := (rfl)
theorem xo_some {e : PX} : evO Γ (some e) τ S = (evE Γ e τ S).bind fun x S1 => intR x S1 := (rfl)
def walkR (x : IV) (S : Sto) : Rs Walk := match walkV x S with
  | some w => .ok w S
  | none => .bad
def rngR (xs : List IV) (S : Sto) : Rs Walk := match xs with
  | [.int n] => if decide (-(2 ^ 62) ≤ n) && decide (n < 2 ^ 62) then .ok ⟨rngI n.toNat, none⟩ S else .bad
  | [.int a, .int b] => if decide (-1000 ≤ a) && decide (a ≤ 1000) && decide (-1000 ≤ b) && decide (b ≤ 1000) then .ok ⟨rngJ a b, none⟩ S else .bad
  | _ => .bad
theorem xi_val {e : PX} : evI Γ (.val e) τ S = (evE Γ e τ S).bind fun x S1 => walkR x S1 := (rfl)
theorem xi_rng {es : List PX} : evI Γ (.rng es) τ S = (evEs Γ es τ S).bind fun xs S1 => rngR xs S1 := (rfl)
theorem rngR_nat {n : Nat} (h : n < 4000000000000000000) : rngR [.int (n : Nat)] S = .ok ⟨rngI n, none⟩ S := by
  simp only [rngR]
  rw [if_pos (by simp; omega)]
  simp
theorem walkR_tup {xs : List IV} : walkR (.tup xs) S = .ok ⟨xs, none⟩ S := (rfl)
theorem walkR_str {z : Str} : walkR (.str z) S = .ok ⟨signs z, none⟩ S := (rfl)
theorem walkR_lst {n : Nat} {xs : List IV} (h : S[n]? = some (.lst xs)) : walkR (.ref n) S = .ok ⟨xs, some (n, .lst xs)⟩ S := by simp only [walkR, walkV, h]
/-- one turn of a comprehension -/
def lcOne (Γ : Gam) (own : List Nat) (tg : Tg) (ifs : List PX) (elt : PX) (τ : Sl) (x : IV) (S : Sto) : Rs (Option IV) := match setT tg x (wipeI τ own) with
  | none => .bad
  | some τ' => (evTs Γ ifs τ' S).bind fun k S3 => if k then (evE Γ elt τ' S3).bind fun y S4 => .ok (some y) S4 else .ok none S3
theorem x_lc {own : List Nat} {tg : Tg} {it : PIt} {ifs : List PX} {elt : PX} : evE Γ (.lc own tg it ifs elt) τ S = (evI Γ it τ S).bind fun wk S1 =>
      (lcGo (lcOne Γ own tg ifs elt τ) wk.held wk.items [] S1).bind fun ys S2 => .ok (.ref S2.length) (S2 ++ [.lst ys]) := (rfl)
theorem ts_nil : evTs Γ [] τ S = .ok true S := (rfl)
def tsR (x : IV) (S : Sto) (r : Rs Bool) : Rs Bool := match x with
  | .bl true => r
  | .bl false => .ok false S
  | _ => .bad
theorem tsR_bl {b : Bool} {r : Rs Bool} : tsR (.bl b) S r = if b = true then r else .ok false S := by cases b <;> rfl
theorem ts_cons {e : PX} {es : List PX} : evTs Γ (e :: es) τ S = (evE Γ e τ S).bind fun x S1 => tsR x S1 (evTs Γ es τ S1) := (rfl)
/-! statements -/
def pickZ (v : IV) (a b : Rz) : Rz := match v with
  | .bl true => a
  | .bl false => b
  | _ => .bad
theorem pick_bl {k : Bool} {a b : Rz} : pickZ (.bl k) a b = if k = true then a else b := by cases k <;> rfl
theorem s_nil : evSs Γ sub [] τ S = .next τ S := (rfl)
noncomputable def rest (Γ : Gam) (sub : Str → Str → Bool) (ss : List Sm) (τ : Sl) (S : Sto) : Rz := evSs Γ sub ss τ S
theorem rest_eq {ss : List Sm} : rest Γ sub ss τ S = evSs Γ sub ss τ S := (rfl)
theorem s_cons {s : Sm} {ss : List Sm} : evSs Γ sub (s :: ss) τ S = (evS Γ sub s τ S).seq (rest Γ sub ss) := (rfl)
theorem s_expr {e : PX} : evS Γ sub (.expr e) τ S = (evE Γ e τ S).thn τ fun _ S1 => .next τ S1 := (rfl)
theorem s_ret {e : PX} : evS Γ sub (.ret e) τ S = (evE Γ e τ S).thn τ fun v S1 => .ret v S1 := (rfl)
theorem s_retN : evS Γ sub .retN τ S = .ret .non S := (rfl)
theorem s_pass : evS Γ sub .pass τ S = .next τ S := (rfl)
theorem s_brk : evS Γ sub .brk τ S = .brk τ S := (rfl)
theorem s_cnt : evS Γ sub .cnt τ S = .cnt τ S := (rfl)
theorem s_set {tg : Tg} {e : PX} : evS Γ sub (.set tg e) τ S = (evE Γ e τ S).thn τ fun v S1 => setN tg v τ S1 := (rfl)
theorem s_par {i j : Nat} {a b : PX} : evS Γ sub (.par i j a b) τ S = (evE Γ a τ S).thn τ fun x S1 => (evE Γ b τ S1).thn τ fun y S2 => .next ((τ.set i (some x)).set j (some y)) S2 := (rfl)
theorem s_par3 {i j l : Nat} {a b c : PX} : evS Γ sub (.par3 i j l a b c) τ S = (evE Γ a τ S).thn τ fun x S1 => (evE Γ b τ S1).thn τ fun y S2 => (evE Γ c τ S2).thn τ fun z S3 => .next (((τ.set i (some x)).set j (some y)).set l (some z)) S3 := (rfl)
theorem s_sub {o i e : PX} : evS Γ sub (.sub o i e) τ S = (evE Γ e τ S).thn τ fun v S1 => (evE Γ o τ S1).thn τ fun x S2 => (evE Γ i τ S2).thn τ fun y S3 => subN v x y τ S3 := (rfl)
theorem s_cond {c : PX} {a b : List Sm} : evS Γ sub (.cond c a b) τ S = (evE Γ c τ S).thn τ fun v S1 => pickZ v (evSs Γ sub a τ S1) (evSs Γ sub b τ S1) := (rfl)
theorem s_whil {c : PX} {b : List Sm} : evS Γ sub (.whil c b) τ S = whileC (evE Γ c) (evSs Γ sub b) τ S := (rfl)
theorem s_for {tg : Tg} {it : PIt} {b : List Sm} : evS Γ sub (.for tg it b) τ S = (evI Γ it τ S).thn τ fun wk S1 => forGo (evSs Γ sub b) tg wk.held wk.items τ S1 := (rfl)
theorem s_raise {c : Str} : evS Γ sub (.raise c) τ S = .exc c τ S := (rfl)
noncomputable def catR (Γ : Gam) (sub : Str → Str → Bool) (hs : List (Str × List Sm)) (r : Rz) : Rz := match r with
  | .exc c τ1 S1 => catchI sub (evHs Γ sub hs) c τ1 S1
  | r => r
theorem s_try {b : List Sm} {hs : List (Str × List Sm)} : evS Γ sub (.tryx b hs) τ S = catR Γ sub hs (evSs Γ sub b τ S) := (rfl)
theorem cat_next {hs : List (Str × List Sm)} : catR Γ sub hs (.next τ S) = .next τ S := (rfl)
theorem cat_ret {hs : List (Str × List Sm)} : catR Γ sub hs (.ret v S) = .ret v S := (rfl)
theorem cat_brk {hs : List (Str × List Sm)} : catR Γ sub hs (.brk τ S) = .brk τ S := (rfl)
theorem cat_cnt {hs : List (Str × List Sm)} : catR Γ sub hs (.cnt τ S) = .cnt τ S := (rfl)
theorem cat_hit {c d : Str} {b : List Sm} {hs : List (Str × List Sm)} (h : sub c d = true) : catR Γ sub ((d, b) :: hs) (.exc c τ S) = quietZ (evSs Γ sub b τ S) := by simp only [catR, evHs, catchI, h, if_true]
theorem q_ret : quietZ (.ret v S) = .ret v S := (rfl)
theorem q_next : quietZ (.next τ S) = .next τ S := (rfl)
theorem q_brk : quietZ (.brk τ S) = .brk τ S := (rfl)
theorem q_cnt : quietZ (.cnt τ S) = .cnt τ S := (rfl)
theorem cat_miss {c d : Str} {b : List Sm} {hs : List (Str × List Sm)} (h : sub c d = false) : catR Γ sub ((d, b) :: hs) (.exc c τ S) = catR Γ sub hs (.exc c τ S) := by simp only [catR, evHs, catchI, h]; rfl
def augR (i : Nat) (o : Bop) (x : Option (Option IV)) (r : Sto → Rs IV) (τ : Sl) (S : Sto) : Rz := match x with
  | some (some x) => (r S).thn τ fun y S1 => augN i o x y τ S1
  | _ => .bad
theorem s_aug {i : Nat} {o : Bop} {e : PX} : evS Γ sub (.aug i o e) τ S = augR i o τ[i]? (evE Γ e τ) τ S := (rfl)
theorem augR_some {i : Nat} {o : Bop} {r : Sto → Rs IV} : augR i o (some (some v)) r τ S = (r S).thn τ fun y S1 => augN i o v y τ S1 := (rfl)
theorem aug_add {i : Nat} {p q : Int} : augN i .add (.int p) (.int q) τ S = .next (τ.set i (some (.int (p + q)))) S := (rfl)
theorem aug_sub {i : Nat} {p q : Int} : augN i .sub (.int p) (.int q) τ S = .next (τ.set i (some (.int (p - q)))) S := (rfl)
theorem set_nm {i : Nat} : setN (.nm i) v τ S = .next (τ.set i (some v)) S := (rfl)
def ofO (o : Option Sl) (S : Sto) : Rz := match o with
  | some τ => .next τ S
  | none => .bad
theorem ofO_some : ofO (some τ) S = .next τ S := (rfl)
theorem set_tp {ts : List Tg} {xs : List IV} : setN (.tp ts) (.tup xs) τ S = ofO (setTs ts xs τ) S := by simp only [setN, setT, ofO] <;> (cases setTs ts xs τ <;> rfl)
theorem t_nil : setTs [] [] τ = some τ := (rfl)
theorem t_nm {i : Nat} {ts : List Tg} {xs : List IV} : setTs (.nm i :: ts) (v :: xs) τ = setTs ts xs (τ.set i (some v)) := (rfl)
theorem sT_nm {i : Nat} : setT (.nm i) v τ = some (τ.set i (some v)) := (rfl)
theorem sT_tp {ts : List Tg} {xs : List IV} : setT (.tp ts) (.tup xs) τ = setTs ts xs τ := (rfl)
/-! operators -/
variable {i j : Int}
theorem b_add : binI .add (.int i) (.int j) S = .ok (.int (i + j)) S := (rfl)
theorem b_sub : binI .sub (.int i) (.int j) S = .ok (.int (i - j)) S := (rfl)
theorem b_mul (h : mulOk i j = true) : binI .mul (.int i) (.int j) S = .ok (.int (i * j)) S := if_pos h
theorem b_fdiv (h : divOk j = true) : binI .fdiv (.int i) (.int j) S = .ok (.int (i.fdiv j)) S := if_pos h
theorem b_mod (h : j ≠ 0) : binI .mod (.int i) (.int j) S = .ok (.int (i.fmod j)) S := if_neg h
theorem b_pow (h : powOk i j = true) : binI .pow (.int i) (.int j) S = .ok (.int (i ^ j.toNat)) S := if_pos h
theorem b_tup {x y : List IV} (h : szOk (x.length + y.length) = true) : binI .add (.tup x) (.tup y) S = .ok (.tup (x ++ y)) S := if_pos h
theorem n_int : negI (.int i) S = .ok (.int (-i)) S := (rfl)
theorem c_lt : cmpI .lt (.int i) (.int j) S = .ok (.bl (decide (i < j))) S := (rfl)
theorem c_le : cmpI .le (.int i) (.int j) S = .ok (.bl (decide (i ≤ j))) S := (rfl)
theorem c_gt : cmpI .gt (.int i) (.int j) S = .ok (.bl (decide (j < i))) S := (rfl)
theorem c_ge : cmpI .ge (.int i) (.int j) S = .ok (.bl (decide (j ≤ i))) S := (rfl)
theorem c_eq : cmpI .eq (.int i) (.int j) S = .ok (.bl (decide (i = j))) S := (rfl)
theorem c_ne : cmpI .ne (.int i) (.int j) S = .ok (.bl (!decide (i = j))) S := (rfl)
theorem c_eqs {x y : Str} : cmpI .eq (.str x) (.str y) S = .ok (.bl (decide (x = y))) S := (rfl)
theorem c_nes {x y : Str} : cmpI .ne (.str x) (.str y) S = .ok (.bl (!decide (x = y))) S := (rfl)
theorem c_eqb {x y : Bool} : cmpI .eq (.bl x) (.bl y) S = .ok (.bl (decide (x = y))) S := (rfl)
theorem eqT_some {a b : IV} {k : Bool} : eqT a b S (some k) = some k := (rfl)
theorem c_eq0 {a : IV} : cmpI .eq a v S = boolR (eqT a v S (eqI a v S)) S := (rfl)
theorem i_tup {xs : List IV} : ixI (.tup xs) (.int i) S = getO (atI xs i) S := by simp only [ixI, itemsI, getO] <;> (cases atI xs i <;> rfl)
theorem i_lst {n : Nat} {xs : List IV} (h : S[n]? = some (.lst xs)) : ixI (.ref n) (.int i) S = getO (atI xs i) S := by simp only [ixI, itemsI, h, getO] <;> (cases atI xs i <;> rfl)
theorem i_frz {n : Nat} {xs : List IV} (h : S[n]? = some (.frz xs)) : ixI (.ref n) (.int i) S = getO (atI xs i) S := by simp only [ixI, itemsI, h, getO] <;> (cases atI xs i <;> rfl)
theorem l_tup {xs : List IV} : bltI .len [.tup xs] S = .ok (.int xs.length) S := (rfl)
theorem l_lst {n : Nat} {xs : List IV} (h : S[n]? = some (.lst xs)) : bltI .len [.ref n] S = .ok (.int xs.length) S := by simp only [bltI, lenI, itemsI, h]
theorem l_frz {n : Nat} {xs : List IV} (h : S[n]? = some (.frz xs)) : bltI .len [.ref n] S = .ok (.int xs.length) S := by simp only [bltI, lenI, itemsI, h]
theorem f_abs : bltI .abs [.int i] S = .ok (.int i.natAbs) S := by
  have : (if i < 0 then -i else i) = (i.natAbs : Int) := by split <;> omega
  simp only [bltI, this]
theorem f_max : bltI .max [.int i, .int j] S = .ok (.int (max i j)) S := by
  have : (if j > i then j else i) = max i j := by split <;> omega
  simp only [bltI, this]
theorem f_min : bltI .min [.int i, .int j] S = .ok (.int (min i j)) S := by
  have : (if j < i then j else i) = min i j := by split <;> omega
  simp only [bltI, this]
theorem u_lst {n m : Nat} {xs : List IV} (h : S[n]? = some (.lst xs)) (hi : ixN xs.length i = some m) : subN v (.ref n) (.int i) τ S = .next τ (S.set n (.lst (xs.set m v))) := by simp only [subN, h, hi]
theorem at0 {a : IV} {l : List IV} : atI (a :: l) 0 = some a := by
  have := atI_nat (xs := a :: l) (j := 0) (v := a) rfl
  simpa using this
theorem at1 {a b : IV} {l : List IV} : atI (a :: b :: l) 1 = some b := by
  have := atI_nat (xs := a :: b :: l) (j := 1) (v := b) rfl
  simpa using this
theorem at2 {a b c : IV} {l : List IV} : atI (a :: b :: c :: l) 2 = some c := by
  have := atI_nat (xs := a :: b :: c :: l) (j := 2) (v := c) rfl
  simpa using this
theorem set_self {c : Cell} {n : Nat} (h : n < S.length) : (S.set n c)[n]? = some c := by rw [List.getElem?_set_self h]
end
/-! sizes -/
theorem log_of {i : Int} {k : Nat} (h : i.natAbs < 2 ^ k) (hk : 0 < k) : i.natAbs.log2 < k := by
  by_cases z : i.natAbs = 0
  · rw [z]; simpa using hk
  · exact (Nat.log2_lt z).mpr h
theorem mulOk_of {i j : Int} (h1 : i.natAbs < 2 ^ 250) (h2 : j.natAbs < 2 ^ 250) : mulOk i j = true := by
  have := log_of h1 (by decide)
  have := log_of h2 (by decide)
  simp only [mulOk, Bool.or_eq_true, decide_eq_true_eq]
  exact .inl (.inl (by omega))
theorem mulOk_r {i j : Int} (h : j.natAbs < 2 ^ 64) : mulOk i j = true := by
  simp only [mulOk, Bool.or_eq_true, decide_eq_true_eq]
  exact .inr h
theorem divOk_of {j : Int} (h0 : j ≠ 0) (h : j.natAbs < 2 ^ 250) : divOk j = true := by
  have := log_of h (by decide)
  simp only [divOk, Bool.and_eq_true, decide_eq_true_eq]
  exact ⟨h0, by omega⟩
def Has (pr : Prg) (f : Str) (d : PD) : Prop := pr.defs.lookup f = some d
noncomputable abbrev gam (pr : Prg) (k : Nat) : Gam := mkGam pr (run pr k)
theorem run_eq {pr : Prg} {f : Str} {d : PD} {vs : List IV} {S : Sto} {k : Nat} (h : Has pr f d) (hl : vs.length = d.np) (hn : d.np < 1000 := by decide) : run pr (k + 1) f vs S = (evSs (gam pr k) pr.sub d.body (vs.map some ++ List.replicate (d.ns - vs.length) none) S).done S := by
  unfold Has at h
  rw [run, h]
  simp only [hl, hn, if_true, startI]
theorem run_star {pr : Prg} {f : Str} {d : PD} {vs : List IV} {S : Sto} {k : Nat} (h : Has pr f d) (hn : 1000 ≤ d.np) (hl : d.np - 1000 ≤ vs.length) (hz : szOk vs.length = true) : run pr (k + 1) f vs S = (evSs (gam pr k) pr.sub d.body (startI d (pack (d.np - 1000) vs)) S).done S := by
  unfold Has at h
  rw [run, h]
  have hn' : ¬ d.np < 1000 := by omega
  simp only [hn', if_false, hz, hl, decide_true, Bool.and_self, if_true]
end Wg
/-! WgX: the defs that many laws share. -/
namespace Wg
open PySem L2
def d_is_integer : PD := ⟨1, 1, [
    .ret (.and (.isi (.loc 0) .int) (.not (.isi (.loc 0) .bool)))]⟩
def d_greatest_divisor : PD := ⟨2, 2, [
    .set (.nm 0) (.blt .abs [(.loc 0)]),
    .set (.nm 1) (.blt .abs [(.loc 1)]),
    .whil (.cmp .gt (.loc 1) (.k (.int 0))) [
      .par 0 1 (.loc 1) (.bin .mod (.loc 0) (.loc 1))],
    .ret (.loc 0)]⟩
def d_reduced : PD := ⟨2, 3, [
    .set (.nm 2) (.call "greatest_divisor" [(.loc 0), (.loc 1)]),
    .cond (.cmp .lt (.loc 1) (.k (.int 0))) [
      .set (.nm 2) (.neg (.loc 2))] [],
    .ret (.tup [(.bin .fdiv (.loc 0) (.loc 2)), (.bin .fdiv (.loc 1) (.loc 2))])]⟩
def d_l_cell : PD := ⟨2, 2, [
    .cond (.cmp .lt (.loc 1) (.blt .len [(.loc 0)])) [
      .ret (.ix (.loc 0) (.loc 1))] [],
    .ret (.k (.int 0))]⟩
def d_l_source : PD := ⟨1, 1, [
    .ret (.lst [(.blt .max [(.k (.int 0)), (.bin .sub (.loc 0) (.bin .pow (.k (.int 10)) (.k (.int 18))))]), (.bin .add (.bin .mod (.loc 0) (.k (.int 2147483629))) (.k (.int 1))), (.k (.int 0))])]⟩
def d_l_draw : PD := ⟨2, 4, [
    .cond (.cmp .gt (.ix (.loc 0) (.k (.int 0))) (.k (.int 0))) [
      .set (.nm 2) (.bin .mod (.ix (.loc 0) (.k (.int 0))) (.loc 1)),
      .sub (.loc 0) (.k (.int 0)) (.bin .fdiv (.ix (.loc 0) (.k (.int 0))) (.loc 1)),
      .ret (.loc 2)] [],
    .sub (.loc 0) (.k (.int 2)) (.bin .add (.ix (.loc 0) (.k (.int 2))) (.k (.int 1))),
    .sub (.loc 0) (.k (.int 1)) (.bin .mod (.bin .add (.bin .add (.bin .mul (.ix (.loc 0) (.k (.int 1))) (.k (.int 48271))) (.bin .mul (.k (.int 1009)) (.ix (.loc 0) (.k (.int 2))))) (.k (.int 7))) (.k (.int 2147483647))),
    .set (.nm 3) (.bin .mod (.bin .add (.bin .add (.bin .mul (.ix (.loc 0) (.k (.int 1))) (.ix (.loc 0) (.k (.int 1)))) (.bin .mul (.k (.int 69621)) (.ix (.loc 0) (.k (.int 1))))) (.k (.int 11))) (.k (.int 2147483629))),
    .set (.nm 3) (.bin .mod (.bin .add (.bin .mul (.loc 3) (.loc 3)) (.bin .mul (.k (.int 40014)) (.loc 3))) (.k (.int 2147483587))),
    .ret (.bin .mod (.bin .fdiv (.loc 3) (.k (.int 16))) (.loc 1))]⟩
def d_l_choose : PD := ⟨2, 2, [
    .ret (.ix (.loc 1) (.call "_law_draw" [(.loc 0), (.blt .len [(.loc 1)])]))]⟩
def d_l_is_equal : PD := ⟨2, 2, [
    .ret (.cmp .eq (.blt .repr [(.loc 0)]) (.blt .repr [(.loc 1)]))]⟩
section
variable {pr : Prg} {k : Nat} {S : Sto} {f : Str}
def isInt : IV → Bool
  | .int _ => true
  | _ => false
/-- a plain cell: no instance -/
def plainC : Cell → Bool
  | .ins _ _ => false
  | _ => true
def plainV (S : Sto) : IV → Prop
  | .ref n => ∃ c, S[n]? = some c ∧ plainC c = true
  | .cls _ => False
  | _ => True
theorem is_integer_run (h : Has pr f d_is_integer) (v : IV) (hs : plainV S v) : run pr (k + 1) f [v] S = .ok (.bl (isInt v)) S := by
  rw [run_eq h rfl]
  cases v with
  | ref n =>
    obtain ⟨c, h1, h2⟩ := hs
    cases c <;> simp [d_is_integer, bind_ok, bind_exc, thn_ok, thn_exc, seq_next, seq_ret, seq_brk, seq_cnt, seq_exc, done_ret, done_next, done_exc, tr_ok, tr_exc, getI_some, getO_some, x_k, x_loc, x_glb, x_bin, x_neg, x_cmp, x_chain, x_and, x_or, x_not, x_ite, mkTu_0, mkTu_1, mkTu_2, mkTu_3, mkTu_4, mkLi_0, mkLi_1, mkLi_2, mkLi_3, mkLi_4, x_tup, x_lst, x_dct0, x_dct1, x_ix, x_sl, x_rev, r_tup, x_rgs, x_call, x_blt, st_self, st_exc, st_excA, x_gc, st_new, st_int, st_bl, st_str, x_att, x_met, metR_some, x_new, x_iso, x_calls, starR_tup, ok_only, s_fld, xi_enum, enumR_tup, xi_zip, zipR_tup, q_ret, q_next, q_brk, q_cnt, List.isEmpty_cons, List.isEmpty_nil, x_isi, x_mth, xs_nil, xs_cons, xo_none, intR_int, xo_some, xi_val, xi_rng, walkR_tup, walkR_str, x_lc, ts_nil, tsR_bl, ts_cons, pick_bl, s_nil, s_cons, rest_eq, s_expr, s_ret, s_retN, s_pass, s_brk, s_cnt, s_set, s_par, s_par3, s_sub, s_cond, s_whil, s_for, s_raise, s_try, cat_next, cat_ret, cat_brk, cat_cnt, s_aug, augR_some, aug_add, aug_sub, set_nm, ofO_some, set_tp, t_nil, t_nm, sT_nm, sT_tp, b_add, b_sub, n_int, c_lt, c_le, c_gt, c_ge, c_eq, c_ne, c_eqs, c_nes, c_eqb, i_tup, l_tup, f_abs, f_max, f_min, at0, at1, at2, settle_self, List.map_cons, List.map_nil, List.length_cons, List.length_nil, List.cons_append, List.nil_append, List.append_nil, List.getElem?_cons_zero, List.getElem?_cons_succ, List.set_cons_zero, List.set_cons_succ, List.replicate, Nat.sub_self, Nat.zero_add, Nat.reduceAdd, Nat.reduceSub, isiI, isInt, plainC, h1] at h2 ⊢
  | cls n => exact hs.elim
  | _ => simp [d_is_integer, bind_ok, bind_exc, thn_ok, thn_exc, seq_next, seq_ret, seq_brk, seq_cnt, seq_exc, done_ret, done_next, done_exc, tr_ok, tr_exc, getI_some, getO_some, x_k, x_loc, x_glb, x_bin, x_neg, x_cmp, x_chain, x_and, x_or, x_not, x_ite, mkTu_0, mkTu_1, mkTu_2, mkTu_3, mkTu_4, mkLi_0, mkLi_1, mkLi_2, mkLi_3, mkLi_4, x_tup, x_lst, x_dct0, x_dct1, x_ix, x_sl, x_rev, r_tup, x_rgs, x_call, x_blt, st_self, st_exc, st_excA, x_gc, st_new, st_int, st_bl, st_str, x_att, x_met, metR_some, x_new, x_iso, x_calls, starR_tup, ok_only, s_fld, xi_enum, enumR_tup, xi_zip, zipR_tup, q_ret, q_next, q_brk, q_cnt, List.isEmpty_cons, List.isEmpty_nil, x_isi, x_mth, xs_nil, xs_cons, xo_none, intR_int, xo_some, xi_val, xi_rng, walkR_tup, walkR_str, x_lc, ts_nil, tsR_bl, ts_cons, pick_bl, s_nil, s_cons, rest_eq, s_expr, s_ret, s_retN, s_pass, s_brk, s_cnt, s_set, s_par, s_par3, s_sub, s_cond, s_whil, s_for, s_raise, s_try, cat_next, cat_ret, cat_brk, cat_cnt, s_aug, augR_some, aug_add, aug_sub, set_nm, ofO_some, set_tp, t_nil, t_nm, sT_nm, sT_tp, b_add, b_sub, n_int, c_lt, c_le, c_gt, c_ge, c_eq, c_ne, c_eqs, c_nes, c_eqb, i_tup, l_tup, f_abs, f_max, f_min, at0, at1, at2, settle_self, List.map_cons, List.map_nil, List.length_cons, List.length_nil, List.cons_append, List.nil_append, List.append_nil, List.getElem?_cons_zero, List.getElem?_cons_succ, List.set_cons_zero, List.set_cons_succ, List.replicate, Nat.sub_self, Nat.zero_add, Nat.reduceAdd, Nat.reduceSub, isiI, isInt]
/-- the script's cell -/
def cellAt (ns : List Int) (i : Nat) : Int := ns.getD i 0
theorem l_cell_run (h : Has pr f d_l_cell) {ns : List Int} (hS : S[0]? = some (.frz (ns.map .int))) (i : Nat) : run pr (k + 1) f [.ref 0, .int i] S = .ok (.int (cellAt ns i)) S := by
  rw [run_eq h rfl]
  by_cases hi : i < ns.length
  · have e : atI (ns.map IV.int) (i : Int) = some (.int (cellAt ns i)) := atI_nat (by simp [cellAt, hi])
    have q : (i : Int) < (ns.length : Int) := by omega
    simp only [d_l_cell, bind_ok, bind_exc, thn_ok, thn_exc, seq_next, seq_ret, seq_brk, seq_cnt, seq_exc, done_ret, done_next, done_exc, tr_ok, tr_exc, getI_some, getO_some, x_k, x_loc, x_glb, x_bin, x_neg, x_cmp, x_chain, x_and, x_or, x_not, x_ite, mkTu_0, mkTu_1, mkTu_2, mkTu_3, mkTu_4, mkLi_0, mkLi_1, mkLi_2, mkLi_3, mkLi_4, x_tup, x_lst, x_dct0, x_dct1, x_ix, x_sl, x_rev, r_tup, x_rgs, x_call, x_blt, st_self, st_exc, st_excA, x_gc, st_new, st_int, st_bl, st_str, x_att, x_met, metR_some, x_new, x_iso, x_calls, starR_tup, ok_only, s_fld, xi_enum, enumR_tup, xi_zip, zipR_tup, q_ret, q_next, q_brk, q_cnt, List.isEmpty_cons, List.isEmpty_nil, x_isi, x_mth, xs_nil, xs_cons, xo_none, intR_int, xo_some, xi_val, xi_rng, walkR_tup, walkR_str, x_lc, ts_nil, tsR_bl, ts_cons, pick_bl, s_nil, s_cons, rest_eq, s_expr, s_ret, s_retN, s_pass, s_brk, s_cnt, s_set, s_par, s_par3, s_sub, s_cond, s_whil, s_for, s_raise, s_try, cat_next, cat_ret, cat_brk, cat_cnt, s_aug, augR_some, aug_add, aug_sub, set_nm, ofO_some, set_tp, t_nil, t_nm, sT_nm, sT_tp, b_add, b_sub, n_int, c_lt, c_le, c_gt, c_ge, c_eq, c_ne, c_eqs, c_nes, c_eqb, i_tup, l_tup, f_abs, f_max, f_min, at0, at1, at2, settle_self, List.map_cons, List.map_nil, List.length_cons, List.length_nil, List.cons_append, List.nil_append, List.append_nil, List.getElem?_cons_zero, List.getElem?_cons_succ, List.set_cons_zero, List.set_cons_succ, List.replicate, Nat.sub_self, Nat.zero_add, Nat.reduceAdd, Nat.reduceSub, l_frz hS, List.length_map, q, decide_true, if_true, i_frz hS, e]
  · have q : ¬ (i : Int) < (ns.length : Int) := by omega
    have e : cellAt ns i = 0 := by simp [cellAt]; rw [List.getElem?_eq_none (by omega)]; rfl
    simp only [d_l_cell, bind_ok, bind_exc, thn_ok, thn_exc, seq_next, seq_ret, seq_brk, seq_cnt, seq_exc, done_ret, done_next, done_exc, tr_ok, tr_exc, getI_some, getO_some, x_k, x_loc, x_glb, x_bin, x_neg, x_cmp, x_chain, x_and, x_or, x_not, x_ite, mkTu_0, mkTu_1, mkTu_2, mkTu_3, mkTu_4, mkLi_0, mkLi_1, mkLi_2, mkLi_3, mkLi_4, x_tup, x_lst, x_dct0, x_dct1, x_ix, x_sl, x_rev, r_tup, x_rgs, x_call, x_blt, st_self, st_exc, st_excA, x_gc, st_new, st_int, st_bl, st_str, x_att, x_met, metR_some, x_new, x_iso, x_calls, starR_tup, ok_only, s_fld, xi_enum, enumR_tup, xi_zip, zipR_tup, q_ret, q_next, q_brk, q_cnt, List.isEmpty_cons, List.isEmpty_nil, x_isi, x_mth, xs_nil, xs_cons, xo_none, intR_int, xo_some, xi_val, xi_rng, walkR_tup, walkR_str, x_lc, ts_nil, tsR_bl, ts_cons, pick_bl, s_nil, s_cons, rest_eq, s_expr, s_ret, s_retN, s_pass, s_brk, s_cnt, s_set, s_par, s_par3, s_sub, s_cond, s_whil, s_for, s_raise, s_try, cat_next, cat_ret, cat_brk, cat_cnt, s_aug, augR_some, aug_add, aug_sub, set_nm, ofO_some, set_tp, t_nil, t_nm, sT_nm, sT_tp, b_add, b_sub, n_int, c_lt, c_le, c_gt, c_ge, c_eq, c_ne, c_eqs, c_nes, c_eqb, i_tup, l_tup, f_abs, f_max, f_min, at0, at1, at2, settle_self, List.map_cons, List.map_nil, List.length_cons, List.length_nil, List.cons_append, List.nil_append, List.append_nil, List.getElem?_cons_zero, List.getElem?_cons_succ, List.set_cons_zero, List.set_cons_succ, List.replicate, Nat.sub_self, Nat.zero_add, Nat.reduceAdd, Nat.reduceSub, l_frz hS, List.length_map, q, decide_false, Bool.false_eq_true, if_false, e]
/-- the supply of draws at n, of at most t draws made -/
def Sup (n t : Nat) (S : Sto) : Prop := ∃ a b c : Int, S[n]? = some (.lst [.int a, .int b, .int c]) ∧ 0 ≤ b ∧ b < 2147483648 ∧ 0 ≤ c ∧ c ≤ t
/-- all but the supply is kept, new cells may come -/
structure Ext (n : Nat) (S S' : Sto) : Prop where
  len : S.length ≤ S'.length
  old : ∀ i, i < S.length → i ≠ n → S'[i]? = S[i]?
theorem Ext.rfl' {n : Nat} {S : Sto} : Ext n S S := ⟨Nat.le_refl _, fun _ _ _ => rfl⟩
theorem Ext.trans {n : Nat} {S S' S'' : Sto} (h : Ext n S S') (h' : Ext n S' S'') : Ext n S S'' := ⟨Nat.le_trans h.len h'.len, fun i hi hn => (h'.old i (Nat.lt_of_lt_of_le hi h.len) hn).trans (h.old i hi hn)⟩
theorem Ext.app {n : Nat} {S G : Sto} : Ext n S (S ++ G) := ⟨by simp, fun i hi _ => List.getElem?_append_left hi⟩
theorem Ext.set {n : Nat} {S : Sto} {c : Cell} : Ext n S (S.set n c) := ⟨by simp, fun i hi hn => by rw [List.getElem?_set_ne (fun e => hn e.symm)]⟩
theorem get_lt {S : Sto} {n : Nat} {c : Cell} (h : S[n]? = some c) : n < S.length := by
  rcases Nat.lt_or_ge n S.length with q | q
  · exact q
  · rw [List.getElem?_eq_none q] at h; cases h
theorem Ext.get {n m : Nat} {S S' : Sto} {c : Cell} (h : Ext n S S') (e : S[m]? = some c) (hn : m ≠ n) : S'[m]? = some c := (h.old m (get_lt e) hn).trans e
theorem Sup.app {n t : Nat} {S G : Sto} (h : Sup n t S) : Sup n t (S ++ G) := by
  obtain ⟨a, b, c, h1, h2⟩ := h
  exact ⟨a, b, c, by rw [List.getElem?_append_left (get_lt h1)]; exact h1, h2⟩
theorem Sup.mono {n t u : Nat} {S : Sto} (h : Sup n t S) (hu : t ≤ u) : Sup n u S := by
  obtain ⟨a, b, c, h1, h2, h3, h4, h5⟩ := h
  exact ⟨a, b, c, h1, h2, h3, h4, by omega⟩
theorem l_source_run (h : Has pr f d_l_source) (z : Int) : ∃ c, run pr (k + 1) f [.int z] S = .ok (.ref S.length) (S ++ [c]) ∧ Sup S.length 0 (S ++ [c]) ∧ plainC c = true := by
  rw [run_eq h rfl]
  have h1 : powOk 10 18 = true := by decide
  have h2 : (2147483629 : Int) ≠ 0 := by decide
  have h3 := Int.fmod_nonneg_of_pos z (show (0:Int) < 2147483629 by decide)
  have h4 := Int.fmod_lt_of_pos z (show (0:Int) < 2147483629 by decide)
  refine ⟨.lst [.int (max 0 (z - 10 ^ (18 : Int).toNat)), .int (z.fmod 2147483629 + 1), .int 0], ?_, ⟨_, _, _, List.getElem?_concat_length, by omega, by omega, by omega, by omega⟩, rfl⟩
  simp only [d_l_source, bind_ok, bind_exc, thn_ok, thn_exc, seq_next, seq_ret, seq_brk, seq_cnt, seq_exc, done_ret, done_next, done_exc, tr_ok, tr_exc, getI_some, getO_some, x_k, x_loc, x_glb, x_bin, x_neg, x_cmp, x_chain, x_and, x_or, x_not, x_ite, mkTu_0, mkTu_1, mkTu_2, mkTu_3, mkTu_4, mkLi_0, mkLi_1, mkLi_2, mkLi_3, mkLi_4, x_tup, x_lst, x_dct0, x_dct1, x_ix, x_sl, x_rev, r_tup, x_rgs, x_call, x_blt, st_self, st_exc, st_excA, x_gc, st_new, st_int, st_bl, st_str, x_att, x_met, metR_some, x_new, x_iso, x_calls, starR_tup, ok_only, s_fld, xi_enum, enumR_tup, xi_zip, zipR_tup, q_ret, q_next, q_brk, q_cnt, List.isEmpty_cons, List.isEmpty_nil, x_isi, x_mth, xs_nil, xs_cons, xo_none, intR_int, xo_some, xi_val, xi_rng, walkR_tup, walkR_str, x_lc, ts_nil, tsR_bl, ts_cons, pick_bl, s_nil, s_cons, rest_eq, s_expr, s_ret, s_retN, s_pass, s_brk, s_cnt, s_set, s_par, s_par3, s_sub, s_cond, s_whil, s_for, s_raise, s_try, cat_next, cat_ret, cat_brk, cat_cnt, s_aug, augR_some, aug_add, aug_sub, set_nm, ofO_some, set_tp, t_nil, t_nm, sT_nm, sT_tp, b_add, b_sub, n_int, c_lt, c_le, c_gt, c_ge, c_eq, c_ne, c_eqs, c_nes, c_eqb, i_tup, l_tup, f_abs, f_max, f_min, at0, at1, at2, settle_self, List.map_cons, List.map_nil, List.length_cons, List.length_nil, List.cons_append, List.nil_append, List.append_nil, List.getElem?_cons_zero, List.getElem?_cons_succ, List.set_cons_zero, List.set_cons_succ, List.replicate, Nat.sub_self, Nat.zero_add, Nat.reduceAdd, Nat.reduceSub, b_pow h1, b_mod h2]
  have e : ∀ c, settle S (.ref S.length) (S ++ [c]) = S ++ [c] := fun c => by
    unfold settle
    simp [IV.lt]
  rw [e]
theorem draw_run (h : Has pr f d_l_draw) {n t : Nat} {m : Int} (hs : Sup n t S) (ht : t ≤ 1000000000) (hm : 0 < m) (hm2 : m.natAbs < 2 ^ 250) : ∃ r c, run pr (k + 1) f [.ref n, .int m] S = .ok (.int r) (S.set n c) ∧ 0 ≤ r ∧ r < m ∧ Sup n (t + 1) (S.set n c) ∧ plainC c = true := by
  obtain ⟨a, b, c, h1, h2, h3, h4, h5⟩ := hs
  have hn := get_lt h1
  have hm0 : m ≠ 0 := by omega
  have hd := divOk_of hm0 hm2
  rw [run_eq h rfl]
  by_cases ha : 0 < a
  · refine ⟨a.fmod m, .lst [.int (a.fdiv m), .int b, .int c], ?_, Int.fmod_nonneg_of_pos a hm, Int.fmod_lt_of_pos a hm, ⟨_, _, _, set_self hn, h2, h3, h4, by omega⟩, rfl⟩
    have u0 : ixN 3 0 = some 0 := by decide
    simp only [d_l_draw, bind_ok, bind_exc, thn_ok, thn_exc, seq_next, seq_ret, seq_brk, seq_cnt, seq_exc, done_ret, done_next, done_exc, tr_ok, tr_exc, getI_some, getO_some, x_k, x_loc, x_glb, x_bin, x_neg, x_cmp, x_chain, x_and, x_or, x_not, x_ite, mkTu_0, mkTu_1, mkTu_2, mkTu_3, mkTu_4, mkLi_0, mkLi_1, mkLi_2, mkLi_3, mkLi_4, x_tup, x_lst, x_dct0, x_dct1, x_ix, x_sl, x_rev, r_tup, x_rgs, x_call, x_blt, st_self, st_exc, st_excA, x_gc, st_new, st_int, st_bl, st_str, x_att, x_met, metR_some, x_new, x_iso, x_calls, starR_tup, ok_only, s_fld, xi_enum, enumR_tup, xi_zip, zipR_tup, q_ret, q_next, q_brk, q_cnt, List.isEmpty_cons, List.isEmpty_nil, x_isi, x_mth, xs_nil, xs_cons, xo_none, intR_int, xo_some, xi_val, xi_rng, walkR_tup, walkR_str, x_lc, ts_nil, tsR_bl, ts_cons, pick_bl, s_nil, s_cons, rest_eq, s_expr, s_ret, s_retN, s_pass, s_brk, s_cnt, s_set, s_par, s_par3, s_sub, s_cond, s_whil, s_for, s_raise, s_try, cat_next, cat_ret, cat_brk, cat_cnt, s_aug, augR_some, aug_add, aug_sub, set_nm, ofO_some, set_tp, t_nil, t_nm, sT_nm, sT_tp, b_add, b_sub, n_int, c_lt, c_le, c_gt, c_ge, c_eq, c_ne, c_eqs, c_nes, c_eqb, i_tup, l_tup, f_abs, f_max, f_min, at0, at1, at2, settle_self, List.map_cons, List.map_nil, List.length_cons, List.length_nil, List.cons_append, List.nil_append, List.append_nil, List.getElem?_cons_zero, List.getElem?_cons_succ, List.set_cons_zero, List.set_cons_succ, List.replicate, Nat.sub_self, Nat.zero_add, Nat.reduceAdd, Nat.reduceSub, i_lst h1, ha, decide_true, if_true, b_mod hm0, b_fdiv hd, u_lst h1 u0]
    rw [settle_len (by simp)]
  · have p1 : (2147483647 : Int) ≠ 0 := by decide
    have p2 : (2147483629 : Int) ≠ 0 := by decide
    have p3 : (2147483587 : Int) ≠ 0 := by decide
    have m1 : mulOk b 48271 = true := mulOk_of (by omega) (by decide)
    have m2 : mulOk 1009 (c + 1) = true := mulOk_of (by decide) (by omega)
    generalize hb' : (b * 48271 + 1009 * (c + 1) + 7).fmod 2147483647 = b'
    have g1 := Int.fmod_nonneg_of_pos (b * 48271 + 1009 * (c + 1) + 7) (show (0:Int) < 2147483647 by decide)
    have g2 := Int.fmod_lt_of_pos (b * 48271 + 1009 * (c + 1) + 7) (show (0:Int) < 2147483647 by decide)
    rw [hb'] at g1 g2
    have m3 : mulOk b' b' = true := mulOk_of (by omega) (by omega)
    have m4 : mulOk 69621 b' = true := mulOk_of (by decide) (by omega)
    generalize hx : (b' * b' + 69621 * b' + 11).fmod 2147483629 = x
    have g3 := Int.fmod_nonneg_of_pos (b' * b' + 69621 * b' + 11) (show (0:Int) < 2147483629 by decide)
    have g4 := Int.fmod_lt_of_pos (b' * b' + 69621 * b' + 11) (show (0:Int) < 2147483629 by decide)
    rw [hx] at g3 g4
    have m5 : mulOk x x = true := mulOk_of (by omega) (by omega)
    have m6 : mulOk 40014 x = true := mulOk_of (by decide) (by omega)
    have d16 : divOk 16 = true := by decide
    refine ⟨(((x * x + 40014 * x).fmod 2147483587).fdiv 16).fmod m, .lst [.int a, .int b', .int (c + 1)], ?_, Int.fmod_nonneg_of_pos _ hm, Int.fmod_lt_of_pos _ hm, ⟨_, _, _, set_self hn, by omega, by omega, by omega, by omega⟩, rfl⟩
    have u1 : ixN 3 1 = some 1 := by decide
    have u2 : ixN 3 2 = some 2 := by decide
    have s1 := set_self (S := S) (c := .lst [.int a, .int b, .int (c + 1)]) hn
    have s2 := set_self (S := S) (c := .lst [.int a, .int b', .int (c + 1)]) hn
    simp only [d_l_draw, bind_ok, bind_exc, thn_ok, thn_exc, seq_next, seq_ret, seq_brk, seq_cnt, seq_exc, done_ret, done_next, done_exc, tr_ok, tr_exc, getI_some, getO_some, x_k, x_loc, x_glb, x_bin, x_neg, x_cmp, x_chain, x_and, x_or, x_not, x_ite, mkTu_0, mkTu_1, mkTu_2, mkTu_3, mkTu_4, mkLi_0, mkLi_1, mkLi_2, mkLi_3, mkLi_4, x_tup, x_lst, x_dct0, x_dct1, x_ix, x_sl, x_rev, r_tup, x_rgs, x_call, x_blt, st_self, st_exc, st_excA, x_gc, st_new, st_int, st_bl, st_str, x_att, x_met, metR_some, x_new, x_iso, x_calls, starR_tup, ok_only, s_fld, xi_enum, enumR_tup, xi_zip, zipR_tup, q_ret, q_next, q_brk, q_cnt, List.isEmpty_cons, List.isEmpty_nil, x_isi, x_mth, xs_nil, xs_cons, xo_none, intR_int, xo_some, xi_val, xi_rng, walkR_tup, walkR_str, x_lc, ts_nil, tsR_bl, ts_cons, pick_bl, s_nil, s_cons, rest_eq, s_expr, s_ret, s_retN, s_pass, s_brk, s_cnt, s_set, s_par, s_par3, s_sub, s_cond, s_whil, s_for, s_raise, s_try, cat_next, cat_ret, cat_brk, cat_cnt, s_aug, augR_some, aug_add, aug_sub, set_nm, ofO_some, set_tp, t_nil, t_nm, sT_nm, sT_tp, b_add, b_sub, n_int, c_lt, c_le, c_gt, c_ge, c_eq, c_ne, c_eqs, c_nes, c_eqb, i_tup, l_tup, f_abs, f_max, f_min, at0, at1, at2, settle_self, List.map_cons, List.map_nil, List.length_cons, List.length_nil, List.cons_append, List.nil_append, List.append_nil, List.getElem?_cons_zero, List.getElem?_cons_succ, List.set_cons_zero, List.set_cons_succ, List.replicate, Nat.sub_self, Nat.zero_add, Nat.reduceAdd, Nat.reduceSub, i_lst h1, ha, decide_false, Bool.false_eq_true, if_false, u_lst h1 u2, i_lst s1, b_mul m1, b_mul m2, b_mod p1, hb', u_lst s1 u1, List.set_set, i_lst s2, b_mul m3, b_mul m4, b_mod p2, hx, b_mul m5, b_mul m6, b_mod p3, b_fdiv d16, b_mod hm0]
    rw [settle_len (by simp)]
theorem choose_run (h : Has pr f d_l_choose) (hd : Has pr "_law_draw" d_l_draw) {n m t : Nat} {xs : List IV} (hs : Sup n t S) (ht : t ≤ 1000000000) (hx : S[m]? = some (.lst xs)) (hmn : m ≠ n) (h0 : 0 < xs.length) (h1 : xs.length < 1000000) :
    ∃ v c, run pr (k + 2) f [.ref n, .ref m] S = .ok v (S.set n c) ∧ v ∈ xs ∧ Sup n (t + 1) (S.set n c) ∧ plainC c = true := by
  obtain ⟨r, c, e, r0, r1, s, p⟩ := draw_run (k := k) hd hs ht (m := (xs.length : Int)) (by omega) (by omega)
  rw [run_eq h rfl]
  obtain ⟨j, rfl⟩ : ∃ j : Nat, r = (j : Int) := ⟨r.toNat, by omega⟩
  have hj : j < xs.length := by omega
  refine ⟨xs[j], c, ?_, List.getElem_mem hj, s, p⟩
  have hx' : (S.set n c)[m]? = some (.lst xs) := by rw [List.getElem?_set_ne (fun z => hmn z.symm)]; exact hx
  have ea : atI xs (j : Int) = some xs[j] := atI_nat (List.getElem?_eq_getElem hj)
  simp only [d_l_choose, bind_ok, bind_exc, thn_ok, thn_exc, seq_next, seq_ret, seq_brk, seq_cnt, seq_exc, done_ret, done_next, done_exc, tr_ok, tr_exc, getI_some, getO_some, x_k, x_loc, x_glb, x_bin, x_neg, x_cmp, x_chain, x_and, x_or, x_not, x_ite, mkTu_0, mkTu_1, mkTu_2, mkTu_3, mkTu_4, mkLi_0, mkLi_1, mkLi_2, mkLi_3, mkLi_4, x_tup, x_lst, x_dct0, x_dct1, x_ix, x_sl, x_rev, r_tup, x_rgs, x_call, x_blt, st_self, st_exc, st_excA, x_gc, st_new, st_int, st_bl, st_str, x_att, x_met, metR_some, x_new, x_iso, x_calls, starR_tup, ok_only, s_fld, xi_enum, enumR_tup, xi_zip, zipR_tup, q_ret, q_next, q_brk, q_cnt, List.isEmpty_cons, List.isEmpty_nil, x_isi, x_mth, xs_nil, xs_cons, xo_none, intR_int, xo_some, xi_val, xi_rng, walkR_tup, walkR_str, x_lc, ts_nil, tsR_bl, ts_cons, pick_bl, s_nil, s_cons, rest_eq, s_expr, s_ret, s_retN, s_pass, s_brk, s_cnt, s_set, s_par, s_par3, s_sub, s_cond, s_whil, s_for, s_raise, s_try, cat_next, cat_ret, cat_brk, cat_cnt, s_aug, augR_some, aug_add, aug_sub, set_nm, ofO_some, set_tp, t_nil, t_nm, sT_nm, sT_tp, b_add, b_sub, n_int, c_lt, c_le, c_gt, c_ge, c_eq, c_ne, c_eqs, c_nes, c_eqb, i_tup, l_tup, f_abs, f_max, f_min, at0, at1, at2, settle_self, List.map_cons, List.map_nil, List.length_cons, List.length_nil, List.cons_append, List.nil_append, List.append_nil, List.getElem?_cons_zero, List.getElem?_cons_succ, List.set_cons_zero, List.set_cons_succ, List.replicate, Nat.sub_self, Nat.zero_add, Nat.reduceAdd, Nat.reduceSub, l_lst hx, e, i_lst hx', ea]
  rw [settle_len (by simp)]
/-- both are the same data, whose text is not too long -/
theorem equal_run (h : Has pr f d_l_is_equal) {a b : IV} {d : PyData} (ha : toD S a = some d) (hb : toD S b = some d) (hd : shownOk d = true) : run pr (k + 1) f [a, b] S = .ok (.bl true) S := by
  rw [run_eq h rfl]
  have e1 : bltI .repr [a] S = .ok (.str d.shown) S := by simp only [bltI, ha, hd, if_true]
  have e2 : bltI .repr [b] S = .ok (.str d.shown) S := by simp only [bltI, hb, hd, if_true]
  simp only [d_l_is_equal, bind_ok, bind_exc, thn_ok, thn_exc, seq_next, seq_ret, seq_brk, seq_cnt, seq_exc, done_ret, done_next, done_exc, tr_ok, tr_exc, getI_some, getO_some, x_k, x_loc, x_glb, x_bin, x_neg, x_cmp, x_chain, x_and, x_or, x_not, x_ite, mkTu_0, mkTu_1, mkTu_2, mkTu_3, mkTu_4, mkLi_0, mkLi_1, mkLi_2, mkLi_3, mkLi_4, x_tup, x_lst, x_dct0, x_dct1, x_ix, x_sl, x_rev, r_tup, x_rgs, x_call, x_blt, st_self, st_exc, st_excA, x_gc, st_new, st_int, st_bl, st_str, x_att, x_met, metR_some, x_new, x_iso, x_calls, starR_tup, ok_only, s_fld, xi_enum, enumR_tup, xi_zip, zipR_tup, q_ret, q_next, q_brk, q_cnt, List.isEmpty_cons, List.isEmpty_nil, x_isi, x_mth, xs_nil, xs_cons, xo_none, intR_int, xo_some, xi_val, xi_rng, walkR_tup, walkR_str, x_lc, ts_nil, tsR_bl, ts_cons, pick_bl, s_nil, s_cons, rest_eq, s_expr, s_ret, s_retN, s_pass, s_brk, s_cnt, s_set, s_par, s_par3, s_sub, s_cond, s_whil, s_for, s_raise, s_try, cat_next, cat_ret, cat_brk, cat_cnt, s_aug, augR_some, aug_add, aug_sub, set_nm, ofO_some, set_tp, t_nil, t_nm, sT_nm, sT_tp, b_add, b_sub, n_int, c_lt, c_le, c_gt, c_ge, c_eq, c_ne, c_eqs, c_nes, c_eqb, i_tup, l_tup, f_abs, f_max, f_min, at0, at1, at2, settle_self, List.map_cons, List.map_nil, List.length_cons, List.length_nil, List.cons_append, List.nil_append, List.append_nil, List.getElem?_cons_zero, List.getElem?_cons_succ, List.set_cons_zero, List.set_cons_succ, List.replicate, Nat.sub_self, Nat.zero_add, Nat.reduceAdd, Nat.reduceSub, e1, e2, decide_true]
end
end Wg
/-! WgY: the odd values that many laws draw. -/
namespace Wg
open PySem L2
def d_l_odd : PD := ⟨1, 2, [
    .set (.nm 1) (.lst [(.k .non), (.k (.bl true)), (.k (.bl false)), (.neg (.k (.int 1))), (.k (.int 0)), (.k (.int 1)), (.k (.int 2)), (.k (.int 7)), (.bin .pow (.k (.int 10)) (.k (.int 12))), (.k (.str "")), (.k (.str "0")), (.k (.str "1/2")), (.tup []), (.lst []), (.dct []), (.tup [(.k (.int 0))]), (.lst [(.k (.int 0))]), (.tup [(.k (.int 0)), (.k (.int 1))]), (.lst [(.k (.int 0)), (.k (.int 1))])]),
    .set (.nm 1) (.bin .add (.loc 1) (.lst [(.tup [(.k (.int 1)), (.k (.int 2))]), (.lst [(.k (.int 1)), (.k (.int 2))]), (.tup [(.k (.int 2)), (.k (.int 4))]), (.tup [(.k (.int 1)), (.k (.int 0))]), (.tup [(.k (.int 0)), (.k (.int 2))]), (.tup [(.neg (.k (.int 1))), (.k (.int 2))]), (.tup [(.k (.int 1)), (.neg (.k (.int 2)))]), (.tup [(.k (.bl true)), (.k (.int 2))]), (.tup [(.k (.int 1)), (.k (.bl true))]), (.tup [(.k (.int 0)), (.k .non)])])),
    .set (.nm 1) (.bin .add (.loc 1) (.lst [(.tup [(.tup [(.k (.int 1)), (.k (.int 2))]), (.tup [(.k (.int 1)), (.k (.int 2))])]), (.lst [(.tup [(.k (.int 1)), (.k (.int 2))]), (.tup [(.k (.int 1)), (.k (.int 2))])]), (.tup [(.k (.int 0)), (.k (.int 0))]), (.tup [(.k (.int 0)), (.k (.int 1)), (.k (.int 1))]), (.tup [(.k (.bl false)), (.k (.int 1))]), (.tup [(.k (.int 0)), (.k (.bl true))]), (.dct [((.k (.int 0)), (.k (.int 1)))]), (.tup [(.k (.int 1)), (.k (.int 1))])])),
    .ret (.call "_law_choose" [(.loc 0), (.bin .add (.loc 1) (.lst [(.tup [(.tup [(.k (.int 0)), (.k (.int 0)), (.k (.int 1))])]), (.tup [(.k (.str "walk")), (.tup [])]), (.tup [(.k (.str "source")), (.tup [])]), (.tup [(.k (.int 0)), (.k (.int 1)), (.k (.int 0))]), (.tup [(.k (.int 1))]), (.tup [(.k (.int 13)), (.k (.int 1))]), (.k (.str "walk"))]))])]⟩
theorem get_app {S G : Sto} {j : Nat} : (S ++ G)[S.length + j]? = G[j]? := by
  rw [List.getElem?_append_right (by omega), Nat.add_sub_cancel_left]
theorem get_app0 {S G : Sto} : (S ++ G)[S.length]? = G[0]? := get_app (j := 0)
def addR (a b : Option Cell) (S : Sto) : Rs IV := match a, b with
  | some (.lst x), some (.lst y) => if szOk (x.length + y.length) then alloc (.lst (x ++ y)) S else .bad
  | _, _ => .bad
theorem b_ref {m n : Nat} {S : Sto} : binI .add (.ref m) (.ref n) S = addR S[m]? S[n]? S := rfl
theorem addR_ok {x y : List IV} {S : Sto} : addR (some (.lst x)) (some (.lst y)) S = if szOk (x.length + y.length) then .ok (.ref S.length) (S ++ [.lst (x ++ y)]) else .bad := rfl
/-- the odd values that are no list or dict -/
def oddFlat : List IV := [.non, .bl true, .bl false, .int (-1), .int 0, .int 1, .int 2, .int 7, .int (10 ^ (12 : Int).toNat), .str "", .str "0", .str "1/2", .tup [], .tup [.int 0], .tup [.int 0, .int 1],
  .tup [.int 1, .int 2], .tup [.int 2, .int 4], .tup [.int 1, .int 0], .tup [.int 0, .int 2], .tup [.int (-1), .int 2], .tup [.int 1, .int (-2)], .tup [.bl true, .int 2], .tup [.int 1, .bl true], .tup [.int 0, .non],
  .tup [.tup [.int 1, .int 2], .tup [.int 1, .int 2]], .tup [.int 0, .int 0], .tup [.int 0, .int 1, .int 1], .tup [.bl false, .int 1], .tup [.int 0, .bl true], .tup [.int 1, .int 1],
  .tup [.tup [.int 0, .int 0, .int 1]], .tup [.str "walk", .tup []], .tup [.str "source", .tup []], .tup [.int 0, .int 1, .int 0], .tup [.int 1], .tup [.int 13, .int 1], .str "walk"]
/-- the odd lists and dicts -/
def oddCell : List Cell := [.lst [], .dct [], .lst [.int 0], .lst [.int 0, .int 1], .lst [.int 1, .int 2], .lst [.tup [.int 1, .int 2], .tup [.int 1, .int 2]], .dct [(.inl 0, .int 1)]]
def OddV (S : Sto) (v : IV) : Prop := v ∈ oddFlat ∨ ∃ m c, v = .ref m ∧ S[m]? = some c ∧ c ∈ oddCell
section
variable {pr : Prg} {k : Nat} {S : Sto} {f : Str}
theorem odd_fin (hc : Has pr "_law_choose" d_l_choose) (hd : Has pr "_law_draw" d_l_draw) {n t : Nat} (hs : Sup n t S) (ht : t ≤ 1000000000) {m : Nat} {G : Sto} {xs : List IV} {τ : Sl} {Γ : Gam} {sub : Str → Str → Bool} {ss : List Sm} (hx : G[m]? = some (.lst xs)) (h0 : 0 < xs.length) (h1 : xs.length < 1000000)
    (hv : ∀ v ∈ xs, v ∈ oddFlat ∨ ∃ j c, v = .ref (S.length + j) ∧ G[j]? = some c ∧ c ∈ oddCell) :
    ∃ v S', (((run pr (k + 2) "_law_choose" [.ref n, .ref (S.length + m)] (S ++ G)).thn τ fun v S1 => Rz.ret v S1).seq (rest Γ sub ss)).done S = .ok v S' ∧ Ext n S S' ∧ Sup n (t + 1) S' ∧ OddV S' v ∧ ∀ m, v = .ref m → S.length ≤ m := by
  have hn : n < S.length := by obtain ⟨_, _, _, e, _⟩ := hs; exact get_lt e
  obtain ⟨v, c, e, hm, s, p⟩ := choose_run (k := k) hc hd (hs.app (G := G)) ht (m := S.length + m) (by rw [get_app]; exact hx) (by omega) h0 h1
  have es : (S ++ G).set n c = S.set n c ++ G := by rw [List.set_append_left _ _ hn]
  rw [es] at e s
  refine ⟨v, settle S v (S.set n c ++ G), by rw [e]; rfl, ?_⟩
  have s' : Sup n (t + 1) (S.set n c) := by
    obtain ⟨a, b, d, q, r⟩ := s
    rw [List.getElem?_append_left (by simpa using hn)] at q
    exact ⟨a, b, d, q, r⟩
  unfold settle
  split
  · rename_i hlt
    have et : (S.set n c ++ G).take S.length = S.set n c := by
      have : S.length = (S.set n c).length := by simp
      rw [this, List.take_left]
    rw [et]
    refine ⟨.set, s', ?_⟩
    rcases hv v hm with q | ⟨j, c, q, _⟩
    · exact ⟨.inl q, fun m z => by subst z; simp [oddFlat] at q⟩
    · subst q; simp [IV.lt] at hlt; omega
  · refine ⟨Ext.trans .set .app, s, ?_⟩
    rcases hv v hm with q | ⟨j, d, q, g, o⟩
    · exact ⟨.inl q, fun m z => by subst z; simp [oddFlat] at q⟩
    · refine ⟨.inr ⟨_, d, q, ?_, o⟩, fun m z => by rw [q] at z; cases z; omega⟩
      have := get_app (S := S.set n c) (G := G) (j := j)
      rw [List.length_set] at this
      rw [this, g]
theorem odd_run2 (h : Has pr f d_l_odd) (hc : Has pr "_law_choose" d_l_choose) (hd : Has pr "_law_draw" d_l_draw) {n t : Nat} (hs : Sup n t S) (ht : t ≤ 1000000000) :
    ∃ v S', run pr (k + 3) f [.ref n] S = .ok v S' ∧ Ext n S S' ∧ Sup n (t + 1) S' ∧ OddV S' v ∧ ∀ m, v = .ref m → S.length ≤ m := by
  have hn : n < S.length := by obtain ⟨_, _, _, e, _⟩ := hs; exact get_lt e
  rw [run_eq h rfl]
  have p12 : powOk 10 12 = true := by decide
  simp (config := {decide := false}) only [d_l_odd, bind_ok, bind_exc, thn_ok, thn_exc, seq_next, seq_ret, seq_brk, seq_cnt, seq_exc, done_ret, done_next, done_exc, tr_ok, tr_exc, getI_some, getO_some, x_k, x_loc, x_glb, x_bin, x_neg, x_cmp, x_chain, x_and, x_or, x_not, x_ite, mkTu_0, mkTu_1, mkTu_2, mkTu_3, mkTu_4, mkLi_0, mkLi_1, mkLi_2, mkLi_3, mkLi_4, x_tup, x_lst, x_dct0, x_dct1, x_ix, x_sl, x_rev, r_tup, x_rgs, x_call, x_blt, st_self, st_exc, st_excA, x_gc, st_new, st_int, st_bl, st_str, x_att, x_met, metR_some, x_new, x_iso, x_calls, starR_tup, ok_only, s_fld, xi_enum, enumR_tup, xi_zip, zipR_tup, q_ret, q_next, q_brk, q_cnt, List.isEmpty_cons, List.isEmpty_nil, x_isi, x_mth, xs_nil, xs_cons, xo_none, intR_int, xo_some, xi_val, xi_rng, walkR_tup, walkR_str, x_lc, ts_nil, tsR_bl, ts_cons, pick_bl, s_nil, s_cons, rest_eq, s_expr, s_ret, s_retN, s_pass, s_brk, s_cnt, s_set, s_par, s_par3, s_sub, s_cond, s_whil, s_for, s_raise, s_try, cat_next, cat_ret, cat_brk, cat_cnt, s_aug, augR_some, aug_add, aug_sub, set_nm, ofO_some, set_tp, t_nil, t_nm, sT_nm, sT_tp, b_add, b_sub, n_int, c_lt, c_le, c_gt, c_ge, c_eq, c_ne, c_eqs, c_nes, c_eqb, i_tup, l_tup, f_abs, f_max, f_min, at0, at1, at2, settle_self, List.map_cons, List.map_nil, List.length_cons, List.length_nil, List.cons_append, List.nil_append, List.append_nil, List.getElem?_cons_zero, List.getElem?_cons_succ, List.set_cons_zero, List.set_cons_succ, List.replicate, Nat.sub_self, Nat.zero_add, Nat.reduceAdd, Nat.reduceSub, mkLi, szOk, b_pow p12, List.append_assoc, List.length_append, get_app, get_app0, b_ref, addR_ok, Nat.add_assoc, Nat.reduceLeDiff, decide_true, if_true, Nat.add_zero]
  refine odd_fin hc hd hs ht rfl (by simp only [List.length_cons, List.length_nil]; omega) (by simp only [List.length_cons, List.length_nil]; omega) ?_
  simp only [List.forall_mem_cons, List.not_mem_nil, false_implies, implies_true, and_true]
  and_intros
  all_goals first
    | (left; simp only [oddFlat, List.mem_cons, true_or, or_true]; done)
    | (refine .inr ⟨0, _, rfl, rfl, ?_⟩; simp only [oddCell, List.mem_cons, true_or, or_true]; done)
    | (refine .inr ⟨1, _, rfl, rfl, ?_⟩; simp only [oddCell, List.mem_cons, true_or, or_true]; done)
    | (refine .inr ⟨2, _, rfl, rfl, ?_⟩; simp only [oddCell, List.mem_cons, true_or, or_true]; done)
    | (refine .inr ⟨3, _, rfl, rfl, ?_⟩; simp only [oddCell, List.mem_cons, true_or, or_true]; done)
    | (refine .inr ⟨5, _, rfl, rfl, ?_⟩; simp only [oddCell, List.mem_cons, true_or, or_true]; done)
    | (refine .inr ⟨8, _, rfl, rfl, ?_⟩; simp only [oddCell, List.mem_cons, true_or, or_true]; done)
    | (refine .inr ⟨9, _, rfl, rfl, ?_⟩; simp only [oddCell, List.mem_cons, true_or, or_true]; done)
/-! the frame of many laws: three supplies, and each is walked -/
theorem forGo_items {body : Sl → Sto → Rz} (tgi : Nat) (I : Nat → Sl → Sto → Prop) : ∀ (xs : List IV) (i : Nat) (τ : Sl) (S : Sto), I i τ S → (∀ j x τ S, xs[j]? = some x → I (i + j) τ S → ∃ τ2 S2, body (τ.set tgi (some x)) S = .next τ2 S2 ∧ I (i + j + 1) τ2 S2) → ∃ τ' S', forGo body (.nm tgi) none xs τ S = .next τ' S' ∧ I (i + xs.length) τ' S'
  | [], i, τ, S, h, _ => ⟨τ, S, by simp [forGo, holds], by simpa using h⟩
  | x :: xs, i, τ, S, h, hs => by
    obtain ⟨τ2, S2, h3, h4⟩ := hs 0 x τ S rfl h
    obtain ⟨τ', S', e, q⟩ := forGo_items tgi I xs (i + 1) τ2 S2 h4 (fun j y τ S hj hI => by
      have := hs (j + 1) y τ S (by simpa using hj) ((show i + (j + 1) = i + 1 + j by omega) ▸ hI)
      have e : i + (j + 1) + 1 = i + 1 + j + 1 := by omega
      rw [e] at this
      exact this)
    refine ⟨τ', S', ?_, by have : i + (x :: xs).length = i + 1 + xs.length := by simp; omega
                           rw [this]; exact q⟩
    simp only [forGo, holds, if_true, sT_nm, h3, e]
theorem get_set_ne {τ : Sl} {i j : Nat} {o : Option IV} (h : i ≠ j) : (τ.set i o)[j]? = τ[j]? := List.getElem?_set_ne h
theorem get_set_eq {τ : Sl} {i : Nat} {o : Option IV} (h : i < τ.length) : (τ.set i o)[i]? = some o := List.getElem?_set_self h
def lawHead (N : Nat) (it : PIt) (inner : List Sm) : PD := ⟨1, N, [.for (.nm 1) (.rng [.blt .max [.k (.int 1), .blt .min [.blt .len [.loc 0], .k (.int 3)]]]) [.set (.nm 2) (.call "_law_source" [.call "_law_cell" [.loc 0, .loc 1]]), .for (.nm 3) it inner], .ret (.k (.bl true))]⟩
theorem frame (hc : Has pr "_law_cell" d_l_cell) (hs : Has pr "_law_source" d_l_source) {N : Nat} {it : PIt} {inner : List Sm} {xs : List IV} (K : Nat) (hl : Has pr f (lawHead N it inner)) (hN : 4 ≤ N)
    (hit : ∀ (τ : Sl) (S : Sto), evI (gam pr (k + 1)) it τ S = .ok ⟨xs, none⟩ S) {ns : List Int}
    (step : ∀ (n t j : Nat) (x : IV) (τ : Sl) (S : Sto), xs[j]? = some x → τ.length = N → τ[0]? = some (some (.ref 0)) → τ[2]? = some (some (.ref n)) → n ≠ 0 → Sup n t S → t ≤ j * K → S[0]? = some (.frz (ns.map .int)) →
      ∃ τ' S', evSs (gam pr (k + 1)) pr.sub inner (τ.set 3 (some x)) S = .next τ' S' ∧ τ'.length = N ∧ τ'[0]? = some (some (.ref 0)) ∧ τ'[2]? = some (some (.ref n)) ∧ Sup n (t + K) S' ∧ Ext n S S') :
    ∃ S', run pr (k + 2) f [.ref 0] [.frz (ns.map .int)] = .ok (.bl true) S' := by
  rw [run_eq hl rfl (show 1 < 1000 by decide)]
  have hS : ([Cell.frz (ns.map .int)] : Sto)[0]? = some (.frz (ns.map .int)) := rfl
  obtain ⟨M, hM, hM2⟩ : ∃ M : Nat, max (1 : Int) (min (ns.length : Int) 3) = (M : Int) ∧ M ≤ 3 := ⟨(max (1 : Int) (min (ns.length : Int) 3)).toNat, by omega, by omega⟩
  have hM3 : M < 4000000000000000000 := Nat.lt_of_le_of_lt hM2 (by decide)
  simp only [lawHead, bind_ok, bind_exc, thn_ok, thn_exc, seq_next, seq_ret, seq_brk, seq_cnt, seq_exc, done_ret, done_next, done_exc, tr_ok, tr_exc, getI_some, getO_some, x_k, x_loc, x_glb, x_bin, x_neg, x_cmp, x_chain, x_and, x_or, x_not, x_ite, mkTu_0, mkTu_1, mkTu_2, mkTu_3, mkTu_4, mkLi_0, mkLi_1, mkLi_2, mkLi_3, mkLi_4, x_tup, x_lst, x_dct0, x_dct1, x_ix, x_sl, x_rev, r_tup, x_rgs, x_call, x_blt, st_self, st_exc, st_excA, x_gc, st_new, st_int, st_bl, st_str, x_att, x_met, metR_some, x_new, x_iso, x_calls, starR_tup, ok_only, s_fld, xi_enum, enumR_tup, xi_zip, zipR_tup, q_ret, q_next, q_brk, q_cnt, List.isEmpty_cons, List.isEmpty_nil, x_isi, x_mth, xs_nil, xs_cons, xo_none, intR_int, xo_some, xi_val, xi_rng, walkR_tup, walkR_str, x_lc, ts_nil, tsR_bl, ts_cons, pick_bl, s_nil, s_cons, rest_eq, s_expr, s_ret, s_retN, s_pass, s_brk, s_cnt, s_set, s_par, s_par3, s_sub, s_cond, s_whil, s_for, s_raise, s_try, cat_next, cat_ret, cat_brk, cat_cnt, s_aug, augR_some, aug_add, aug_sub, set_nm, ofO_some, set_tp, t_nil, t_nm, sT_nm, sT_tp, b_add, b_sub, n_int, c_lt, c_le, c_gt, c_ge, c_eq, c_ne, c_eqs, c_nes, c_eqb, i_tup, l_tup, f_abs, f_max, f_min, at0, at1, at2, settle_self, List.map_cons, List.map_nil, List.length_cons, List.length_nil, List.cons_append, List.nil_append, List.append_nil, List.getElem?_cons_zero, List.getElem?_cons_succ, List.set_cons_zero, List.set_cons_succ, List.replicate, Nat.sub_self, Nat.zero_add, Nat.reduceAdd, Nat.reduceSub, l_frz hS, List.length_map]
  have hR : ∀ S : Sto, rngR [.int (max (1 : Int) (min (ns.length : Int) 3))] S = .ok ⟨rngI M, none⟩ S := fun S => by rw [hM]; exact rngR_nat hM3
  rw [hR]
  simp only [thn_ok]
  have outer := forGo_items (body := evSs (gam pr (k + 1)) pr.sub [.set (.nm 2) (.call "_law_source" [.call "_law_cell" [.loc 0, .loc 1]]), .for (.nm 3) it inner]) 1
    (fun _ τ S => τ.length = N ∧ τ[0]? = some (some (.ref 0)) ∧ S[0]? = some (.frz (ns.map .int))) (rngI M) 0 (some (.ref 0) :: List.replicate (N - 1) none) [.frz (ns.map .int)]
    ⟨by simp; omega, rfl, hS⟩ ?_
  · obtain ⟨τ', S', e, _⟩ := outer
    rw [e]
    simp only [bind_ok, bind_exc, thn_ok, thn_exc, seq_next, seq_ret, seq_brk, seq_cnt, seq_exc, done_ret, done_next, done_exc, tr_ok, tr_exc, getI_some, getO_some, x_k, x_loc, x_glb, x_bin, x_neg, x_cmp, x_chain, x_and, x_or, x_not, x_ite, mkTu_0, mkTu_1, mkTu_2, mkTu_3, mkTu_4, mkLi_0, mkLi_1, mkLi_2, mkLi_3, mkLi_4, x_tup, x_lst, x_dct0, x_dct1, x_ix, x_sl, x_rev, r_tup, x_rgs, x_call, x_blt, st_self, st_exc, st_excA, x_gc, st_new, st_int, st_bl, st_str, x_att, x_met, metR_some, x_new, x_iso, x_calls, starR_tup, ok_only, s_fld, xi_enum, enumR_tup, xi_zip, zipR_tup, q_ret, q_next, q_brk, q_cnt, List.isEmpty_cons, List.isEmpty_nil, x_isi, x_mth, xs_nil, xs_cons, xo_none, intR_int, xo_some, xi_val, xi_rng, walkR_tup, walkR_str, x_lc, ts_nil, tsR_bl, ts_cons, pick_bl, s_nil, s_cons, rest_eq, s_expr, s_ret, s_retN, s_pass, s_brk, s_cnt, s_set, s_par, s_par3, s_sub, s_cond, s_whil, s_for, s_raise, s_try, cat_next, cat_ret, cat_brk, cat_cnt, s_aug, augR_some, aug_add, aug_sub, set_nm, ofO_some, set_tp, t_nil, t_nm, sT_nm, sT_tp, b_add, b_sub, n_int, c_lt, c_le, c_gt, c_ge, c_eq, c_ne, c_eqs, c_nes, c_eqb, i_tup, l_tup, f_abs, f_max, f_min, at0, at1, at2, settle_self, List.map_cons, List.map_nil, List.length_cons, List.length_nil, List.cons_append, List.nil_append, List.append_nil, List.getElem?_cons_zero, List.getElem?_cons_succ, List.set_cons_zero, List.set_cons_succ, List.replicate, Nat.sub_self, Nat.zero_add, Nat.reduceAdd, Nat.reduceSub]
    exact ⟨_, rfl⟩
  · rintro j x τ S hj ⟨h1, h2, h3⟩
    obtain ⟨i, rfl⟩ : ∃ i : Nat, x = .int (i : Nat) := by
      simp only [rngI, List.getElem?_map, Option.map_eq_some_iff] at hj
      obtain ⟨a, _, e⟩ := hj
      exact ⟨a, e.symm⟩
    obtain ⟨c, e1, su, _⟩ := l_source_run (k := k) (S := S) hs (cellAt ns i)
    have g0 : (τ.set 1 (some (.int (i : Nat))))[0]? = some (some (.ref 0)) := by rw [get_set_ne (by decide)]; exact h2
    have g1 : (τ.set 1 (some (.int (i : Nat))))[1]? = some (some (.int (i : Nat))) := get_set_eq (by omega)
    simp only [bind_ok, bind_exc, thn_ok, thn_exc, seq_next, seq_ret, seq_brk, seq_cnt, seq_exc, done_ret, done_next, done_exc, tr_ok, tr_exc, getI_some, getO_some, x_k, x_loc, x_glb, x_bin, x_neg, x_cmp, x_chain, x_and, x_or, x_not, x_ite, mkTu_0, mkTu_1, mkTu_2, mkTu_3, mkTu_4, mkLi_0, mkLi_1, mkLi_2, mkLi_3, mkLi_4, x_tup, x_lst, x_dct0, x_dct1, x_ix, x_sl, x_rev, r_tup, x_rgs, x_call, x_blt, st_self, st_exc, st_excA, x_gc, st_new, st_int, st_bl, st_str, x_att, x_met, metR_some, x_new, x_iso, x_calls, starR_tup, ok_only, s_fld, xi_enum, enumR_tup, xi_zip, zipR_tup, q_ret, q_next, q_brk, q_cnt, List.isEmpty_cons, List.isEmpty_nil, x_isi, x_mth, xs_nil, xs_cons, xo_none, intR_int, xo_some, xi_val, xi_rng, walkR_tup, walkR_str, x_lc, ts_nil, tsR_bl, ts_cons, pick_bl, s_nil, s_cons, rest_eq, s_expr, s_ret, s_retN, s_pass, s_brk, s_cnt, s_set, s_par, s_par3, s_sub, s_cond, s_whil, s_for, s_raise, s_try, cat_next, cat_ret, cat_brk, cat_cnt, s_aug, augR_some, aug_add, aug_sub, set_nm, ofO_some, set_tp, t_nil, t_nm, sT_nm, sT_tp, b_add, b_sub, n_int, c_lt, c_le, c_gt, c_ge, c_eq, c_ne, c_eqs, c_nes, c_eqb, i_tup, l_tup, f_abs, f_max, f_min, at0, at1, at2, settle_self, List.map_cons, List.map_nil, List.length_cons, List.length_nil, List.cons_append, List.nil_append, List.append_nil, List.getElem?_cons_zero, List.getElem?_cons_succ, List.set_cons_zero, List.set_cons_succ, List.replicate, Nat.sub_self, Nat.zero_add, Nat.reduceAdd, Nat.reduceSub, g0, g1, l_cell_run hc h3, e1, hit]
    have h0 : 0 < S.length := get_lt h3
    obtain ⟨τ', S', e, q1, q2, q3, q4⟩ := forGo_items (body := evSs (gam pr (k + 1)) pr.sub inner) 3
      (fun j τ S' => τ.length = N ∧ τ[0]? = some (some (.ref 0)) ∧ τ[2]? = some (some (.ref S.length)) ∧ Sup S.length (j * K) S' ∧ S'[0]? = some (.frz (ns.map .int))) xs 0 ((τ.set 1 (some (.int (i : Nat)))).set 2 (some (.ref S.length))) (S ++ [c])
      ⟨by simpa using h1, by rw [get_set_ne (by decide)]; exact g0, get_set_eq (by simp; omega), by simpa using su, by rw [List.getElem?_append_left h0]; exact h3⟩ (by
        rintro j x τ S' hj ⟨p1, p2, p3, p4, p5⟩
        rw [Nat.zero_add] at p4 ⊢
        obtain ⟨τ', S'', e, r1, r2, r3, r4, r5⟩ := step S.length (j * K) j x τ S' hj p1 p2 p3 (by omega) p4 (Nat.le_refl _) p5
        exact ⟨τ', S'', e, r1, r2, r3, by rw [Nat.add_mul, Nat.one_mul]; exact r4, r5.get p5 (by omega)⟩)
    exact ⟨τ', S', by rw [e]; rfl, q1, q2, q4.2⟩
theorem OddV.plain {v : IV} (h : OddV S v) : plainV S v := by
  rcases h with h | ⟨m, c, rfl, e, o⟩
  · cases v <;> first | trivial | (simp [oddFlat] at h)
  · refine ⟨c, e, ?_⟩
    simp only [oddCell, List.mem_cons, List.not_mem_nil, or_false] at o
    rcases o with rfl | rfl | rfl | rfl | rfl | rfl | rfl <;> rfl
theorem OddV.int {i : Int} (h : OddV S (.int i)) : i.natAbs ≤ 1000000000000 := by
  rcases h with h | ⟨m, c, q, _⟩
  · simp [oddFlat] at h
    omega
  · cases q
end
end Wg
/-! WgZ: more plain tools. -/
namespace Wg
open PySem L2
/-! comprehensions that change nothing -/
theorem lcGo_map {one : IV → Sto → Rs (Option IV)} {S : Sto} (g : IV → IV) : ∀ (xs acc : List IV), (∀ x ∈ xs, one x S = .ok (some (g x)) S) → acc.length + xs.length ≤ 1000000 → lcGo one none xs acc S = .ok (acc ++ xs.map g) S
  | [], acc, _, _ => by simp [lcGo, holds]
  | x :: xs, acc, h, hl => by
    have hz : szOk (acc.length + 1) = true := by simp at hl; simp [szOk]; omega
    simp only [lcGo, holds, if_true, h x (by simp), hz]
    rw [lcGo_map g xs (acc ++ [g x]) (fun y hy => h y (by simp [hy])) (by simp at hl ⊢; omega)]
    simp
/-! data -/
theorem toD_lst {S : Sto} {n : Nat} {xs : List IV} {ds : List PyData} (h : S[n]? = some (.lst xs)) (hd : goDs (refs 5 S) xs = some ds) : toD S (.ref n) = some (.list ds) := by
  have e : toD S (.ref n) = refD (goD (refs 5 S)) (goDs (refs 5 S)) S n := rfl
  rw [e]
  generalize goD (refs 5 S) = g at *
  generalize goDs (refs 5 S) = gs at *
  simp only [refD, h, hd]
theorem goDs_cons {r : Nat → Option PyData} {x : IV} {xs : List IV} {d : PyData} {ds : List PyData} (h1 : goD r x = some d) (h2 : goDs r xs = some ds) : goDs r (x :: xs) = some (d :: ds) := by simp only [goDs, h1, h2]
theorem goDs_nil {r : Nat → Option PyData} : goDs r [] = some [] := by simp only [goDs]
theorem goD_tup {r : Nat → Option PyData} {xs : List IV} {ds : List PyData} (h : goDs r xs = some ds) : goD r (.tup xs) = some (.tuple ds) := by simp only [goD, h]
theorem goD_int {r : Nat → Option PyData} {i : Int} : goD r (.int i) = some (.int i) := by simp only [goD]
/-! values without references: their data -/
mutual
def flatD : IV → Option PyData
  | .non => some .none
  | .bl b => some (.bool b)
  | .int i => some (.int i)
  | .str x => some (.str x)
  | .tup xs => match flatDs xs with | some ds => some (.tuple ds) | none => none
  | .ref _ => none
  | .cls _ => none
def flatDs : List IV → Option (List PyData)
  | [] => some []
  | x :: xs => match flatD x with
    | some d => match flatDs xs with | some ds => some (d :: ds) | none => none
    | none => none
end
mutual
theorem goD_flat (r : Nat → Option PyData) : ∀ (v : IV) {d : PyData}, flatD v = some d → goD r v = some d
  | .non, d, h => by simpa [flatD, goD] using h
  | .bl _, d, h => by simpa [flatD, goD] using h
  | .int _, d, h => by simpa [flatD, goD] using h
  | .str _, d, h => by simpa [flatD, goD] using h
  | .ref _, d, h => by simp [flatD] at h
  | .cls _, d, h => by simp [flatD] at h
  | .tup xs, d, h => by
    simp only [flatD] at h
    cases e : flatDs xs with
    | none => rw [e] at h; simp at h
    | some ds => rw [e] at h; simp only [goD, goDs_flat r xs e]; exact h
theorem goDs_flat (r : Nat → Option PyData) : ∀ (xs : List IV) {ds : List PyData}, flatDs xs = some ds → goDs r xs = some ds
  | [], ds, h => by simpa [flatDs, goDs] using h
  | x :: xs, ds, h => by
    simp only [flatDs] at h
    cases e : flatD x with
    | none => rw [e] at h; simp at h
    | some d =>
      rw [e] at h
      cases e2 : flatDs xs with
      | none => rw [e2] at h; simp at h
      | some ds2 => rw [e2] at h; simp only [goDs, goD_flat r x e, goDs_flat r xs e2]; exact h
end
theorem rng_item {N j : Nat} {x : IV} (h : (rngI N)[j]? = some x) : j < N ∧ x = .int (j : Nat) := by
  simp only [rngI, List.getElem?_map, Option.map_eq_some_iff] at h
  obtain ⟨a, h, e⟩ := h
  rcases Nat.lt_or_ge j N with q | q
  · rw [List.getElem?_range q] at h
    cases h
    exact ⟨q, e.symm⟩
  · rw [List.getElem?_eq_none (by simpa using q)] at h
    cases h
theorem OddV.ne {S : Sto} {v : IV} {n t : Nat} (h : OddV S v) (hs : Sup n t S) : v ≠ .ref n := by
  rintro rfl
  obtain ⟨a, b, d, e, _⟩ := hs
  rcases h with h | ⟨m, c, q, e', o⟩
  · simp [oddFlat] at h
  · cases q
    rw [e] at e'
    cases e'
    simp [oddCell] at o
section
variable {pr : Prg} {k : Nat} {S : Sto} {f : Str}
theorem choose_new (h : Has pr f d_l_choose) (hd : Has pr "_law_draw" d_l_draw) {n t : Nat} (xs : List IV) (hs : Sup n t S) (ht : t ≤ 1000000000) (h0 : 0 < xs.length) (h1 : xs.length < 1000000) :
    ∃ v S', run pr (k + 2) f [.ref n, .ref S.length] (S ++ [Cell.lst xs]) = .ok v S' ∧ v ∈ xs ∧ Sup n (t + 1) S' ∧ Ext n S S' := by
  have nl : n < S.length := by obtain ⟨_, _, _, e, _⟩ := hs; exact get_lt e
  obtain ⟨v, c, e, hv, s, _⟩ := choose_run (k := k) h hd (hs.app (G := [Cell.lst xs])) ht get_app0 (by omega) h0 h1
  exact ⟨v, _, e, hv, s, Ext.trans .app .set⟩
theorem draw_new (h : Has pr f d_l_draw) {n t : Nat} {m : Int} (hs : Sup n t S) (ht : t ≤ 1000000000) (hm : 0 < m) (hm2 : m.natAbs < 2 ^ 250) : ∃ r S', run pr (k + 1) f [.ref n, .int m] S = .ok (.int r) S' ∧ 0 ≤ r ∧ r < m ∧ Sup n (t + 1) S' ∧ Ext n S S' ∧ S'.length = S.length := by
  obtain ⟨r, c, e, a, b, s, _⟩ := draw_run (k := k) h hs ht hm hm2
  exact ⟨r, _, e, a, b, s, .set, by simp⟩
end
end Wg
/-! WhA: values without references; a value that is bent. -/
namespace Wg
open PySem L2
def d_l_bent : PD := ⟨3, 5, [
    .cond (.and (.call "_law_is_integer" [(.loc 1)]) (.cmp .gt (.call "_law_draw" [(.loc 0), (.k (.int 4))]) (.k (.int 0)))) [
      .ret (.ix (.lst [(.bin .add (.loc 1) (.k (.int 1))), (.bin .sub (.loc 1) (.k (.int 1))), (.cmp .eq (.loc 1) (.k (.int 1))), (.bin .sub (.k (.int 0)) (.loc 1)), (.bin .mul (.loc 1) (.k (.int 2))), (.blt .str [(.loc 1)])]) (.call "_law_draw" [(.loc 0), (.k (.int 6))]))] [],
    .cond (.or (.not (.isi (.loc 1) .tuple)) (.or (.cmp .eq (.loc 1) (.tup [])) (.cmp .eq (.loc 2) (.k (.int 0))))) [
      .ret (.call "_law_odd" [(.loc 0)])] [],
    .par 3 4 (.call "_law_draw" [(.loc 0), (.blt .len [(.loc 1)])]) (.call "_law_draw" [(.loc 0), (.k (.int 9))]),
    .cond (.cmp .lt (.loc 4) (.k (.int 4))) [
      .ret (.ix (.lst [(.bin .add (.sl (.loc 1) none (some (.loc 3))) (.sl (.loc 1) (some (.bin .add (.loc 3) (.k (.int 1)))) none)), (.bin .add (.sl (.loc 1) none (some (.bin .add (.loc 3) (.k (.int 1))))) (.sl (.loc 1) (some (.loc 3)) none)), (.blt .list [(.loc 1)]), (.rev (.loc 1))]) (.loc 4))] [],
    .ret (.bin .add (.bin .add (.sl (.loc 1) none (some (.loc 3))) (.tup [(.call "_law_bent" [(.loc 0), (.ix (.loc 1) (.loc 3)), (.bin .sub (.loc 2) (.k (.int 1)))])])) (.sl (.loc 1) (some (.bin .add (.loc 3) (.k (.int 1)))) none))]⟩
/-! ### values without references -/
mutual
/-- no reference, no long number -/
def okV : IV → Bool
  | .non => true
  | .bl _ => true
  | .int i => decide (i.natAbs.log2 < 1000)
  | .str x => PyData.strOk x
  | .tup xs => okVs xs
  | .ref _ => false
  | .cls _ => false
def okVs : List IV → Bool
  | [] => true
  | x :: xs => okV x && okVs xs
end
mutual
def dV : IV → PyData
  | .non => .none
  | .bl b => .bool b
  | .int i => .int i
  | .str x => .str x
  | .tup xs => .tuple (dVs xs)
  | .ref _ => .none
  | .cls _ => .none
def dVs : List IV → List PyData
  | [] => []
  | x :: xs => dV x :: dVs xs
end
mutual
theorem flatV_ok : ∀ v : IV, okV v = true → flatD v = some (dV v)
  | .non, _ => by simp only [flatD, dV]
  | .bl _, _ => by simp only [flatD, dV]
  | .int _, _ => by simp only [flatD, dV]
  | .str _, _ => by simp only [flatD, dV]
  | .ref _, h => by simp [okV] at h
  | .cls _, h => by simp [okV] at h
  | .tup xs, h => by simp only [okV] at h; simp only [flatD, dV, flatVs_ok xs h]
theorem flatVs_ok : ∀ xs : List IV, okVs xs = true → flatDs xs = some (dVs xs)
  | [], _ => by simp only [flatDs, dVs]
  | x :: xs, h => by simp only [okVs, Bool.and_eq_true] at h; simp only [flatDs, dVs, flatV_ok x h.1, flatVs_ok xs h.2]
end
mutual
theorem show_ok : ∀ v : IV, okV v = true → (dV v).showable = true
  | .non, _ => by simp [dV, PyData.showable]
  | .bl _, _ => by simp [dV, PyData.showable]
  | .int _, h => by simp [dV, PyData.showable, okV] at h ⊢; omega
  | .str _, _ => by simp [dV, PyData.showable]
  | .ref _, h => by simp [okV] at h
  | .cls _, h => by simp [okV] at h
  | .tup xs, h => by simp only [okV] at h; simp only [dV, PyData.showable, shows_ok xs h]
theorem shows_ok : ∀ xs : List IV, okVs xs = true → PyData.showableAll (dVs xs) = true
  | [], _ => by simp only [dVs, PyData.showableAll]
  | x :: xs, h => by simp only [okVs, Bool.and_eq_true] at h; simp only [dVs, PyData.showableAll, show_ok x h.1, shows_ok xs h.2, Bool.and_self]
end
mutual
theorem lay_ok : ∀ v : IV, okV v = true → (dV v).canLay0 = true
  | .non, _ => by simp [dV, PyData.canLay0]
  | .bl _, _ => by simp [dV, PyData.canLay0]
  | .int _, h => by simp [dV, PyData.canLay0]
  | .str _, h => by simpa [dV, PyData.canLay0, okV] using h
  | .ref _, h => by simp [okV] at h
  | .cls _, h => by simp [okV] at h
  | .tup xs, h => by simp only [okV] at h; simp only [dV, PyData.canLay0, lays_ok xs h]
theorem lays_ok : ∀ xs : List IV, okVs xs = true → PyData.canLayAll0 (dVs xs) = true
  | [], _ => by simp only [dVs, PyData.canLayAll0]
  | x :: xs, h => by simp only [okVs, Bool.and_eq_true] at h; simp only [dVs, PyData.canLayAll0, lay_ok x h.1, lays_ok xs h.2, Bool.and_self]
end
mutual
theorem noL_ok : ∀ v : IV, okV v = true → hasL (dV v) = false
  | .non, _ => by simp [dV, hasL]
  | .bl _, _ => by simp [dV, hasL]
  | .int _, h => by simp [dV, hasL]
  | .str _, h => by simp [dV, hasL]
  | .ref _, h => by simp [okV] at h
  | .cls _, h => by simp [okV] at h
  | .tup xs, h => by simp only [okV] at h; simp only [dV, hasL, noLs_ok xs h]
theorem noLs_ok : ∀ xs : List IV, okVs xs = true → hasLs (dVs xs) = false
  | [], _ => by simp only [dVs, hasLs]
  | x :: xs, h => by simp only [okVs, Bool.and_eq_true] at h; simp only [dVs, hasLs, noL_ok x h.1, noLs_ok xs h.2, Bool.or_self]
end
mutual
theorem noD_ok : ∀ v : IV, okV v = true → (dV v).hasDict = false
  | .non, _ => by simp [dV, PyData.hasDict]
  | .bl _, _ => by simp [dV, PyData.hasDict]
  | .int _, h => by simp [dV, PyData.hasDict]
  | .str _, h => by simp [dV, PyData.hasDict]
  | .ref _, h => by simp [okV] at h
  | .cls _, h => by simp [okV] at h
  | .tup xs, h => by simp only [okV] at h; simp only [dV, PyData.hasDict, noDs_ok xs h]
theorem noDs_ok : ∀ xs : List IV, okVs xs = true → PyData.hasDictAll (dVs xs) = false
  | [], _ => by simp only [dVs, PyData.hasDictAll]
  | x :: xs, h => by simp only [okVs, Bool.and_eq_true] at h; simp only [dVs, PyData.hasDictAll, noD_ok x h.1, noDs_ok xs h.2, Bool.or_self]
end
theorem okVs_iff : ∀ {xs : List IV}, okVs xs = true ↔ ∀ x ∈ xs, okV x = true
  | [] => by simp [okVs]
  | x :: xs => by simp [okVs, okVs_iff (xs := xs)]
theorem dVs_map : ∀ xs : List IV, dVs xs = xs.map dV
  | [] => by simp [dVs]
  | x :: xs => by simp [dVs, dVs_map xs]
theorem wtDs_map : ∀ ds : List PyData, wtDs ds = (ds.map fun d => wtD d + 2).sum
  | [] => by simp [wtDs]
  | d :: ds => by simp [wtDs, wtDs_map ds]
theorem wtDs_append (a b : List PyData) : wtDs (a ++ b) = wtDs a + wtDs b := by simp [wtDs_map]
theorem depthAll_append : ∀ (a b : List PyData), PyData.depthAll (a ++ b) = max (PyData.depthAll a) (PyData.depthAll b)
  | [], b => by simp [PyData.depthAll]
  | x :: a, b => by simp only [List.cons_append, PyData.depthAll, depthAll_append a b]; omega
/-- the store with its first cells hidden -/
def msk : Nat → Sto → Sto
  | 0, S => S
  | _ + 1, [] => []
  | N + 1, _ :: S => .ins "" [] :: msk N S
theorem msk_get : ∀ {N : Nat} {S : Sto} {i : Nat}, N ≤ i → (msk N S)[i]? = S[i]?
  | 0, S, i, _ => by simp only [msk]
  | N + 1, [], i, _ => by simp only [msk]
  | N + 1, c :: S, 0, h => by omega
  | N + 1, c :: S, i + 1, h => by simp only [msk, List.getElem?_cons_succ]; exact msk_get (by omega)
theorem msk_low : ∀ {N : Nat} {S : Sto} {i : Nat} {c : Cell}, i < N → (∀ n fs, c ≠ .ins n fs) → (msk N S)[i]? ≠ some c
  | 0, S, i, c, h, _ => by omega
  | N + 1, [], i, c, h, _ => by simp [msk]
  | N + 1, c' :: S, 0, c, h, hi => by simp only [msk, List.getElem?_cons_zero]; intro z; cases z; exact hi _ _ rfl
  | N + 1, c' :: S, i + 1, c, h, hi => by simp only [msk, List.getElem?_cons_succ]; exact msk_low (by omega) hi
mutual
theorem goD_mono {r r' : Nat → Option PyData} (h : ∀ n d, r n = some d → r' n = some d) : ∀ (v : IV) (d : PyData), goD r v = some d → goD r' v = some d
  | .non, d, e | .bl _, d, e | .int _, d, e | .str _, d, e => by simpa only [goD] using e
  | .cls _, d, e => by simp [goD] at e
  | .ref n, d, e => by simp only [goD] at e ⊢; exact h n d e
  | .tup xs, d, e => by
    simp only [goD] at e ⊢
    cases q : goDs r xs with
    | none => rw [q] at e; simp at e
    | some ds => rw [q] at e; rw [goDs_mono h xs ds q]; exact e
theorem goDs_mono {r r' : Nat → Option PyData} (h : ∀ n d, r n = some d → r' n = some d) : ∀ (xs : List IV) (ds : List PyData), goDs r xs = some ds → goDs r' xs = some ds
  | [], ds, e => by simpa only [goDs] using e
  | x :: xs, ds, e => by
    simp only [goDs] at e ⊢
    cases q : goD r x with
    | none => rw [q] at e; simp at e
    | some d =>
      rw [q] at e
      rw [goD_mono h x d q]
      cases q2 : goDs r xs with
      | none => rw [q2] at e; simp at e
      | some ds' => rw [q2] at e; rw [goDs_mono h xs ds' q2]; exact e
end
theorem refs_mono {A B : Sto} (h : ∀ (i : Nat) (c : Cell), A[i]? = some c → (∀ n fs, c ≠ .ins n fs) → B[i]? = some c) : ∀ (k n : Nat) (d : PyData), refs k A n = some d → refs k B n = some d
  | 0, n, d, e => by simp [refs] at e
  | k + 1, n, d, e => by
    have ih := refs_mono h k
    have g := goDs_mono ih
    simp only [refs] at e ⊢
    generalize goD (refs k A) = ga at *
    generalize goD (refs k B) = gb at *
    generalize goDs (refs k A) = gA at *
    generalize goDs (refs k B) = gB at *
    unfold refD at e ⊢
    cases q : A[n]? with
    | none => rw [q] at e; simp at e
    | some c =>
      cases c with
      | ins _ _ => rw [q] at e; simp at e
      | lst xs =>
        rw [h n _ q (fun _ _ z => by cases z)]
        rw [q] at e
        cases q2 : gA xs with
        | none => simp only [q2] at e; cases e
        | some ds => simp only [q2] at e; simp only [g xs ds q2]; exact e
      | frz xs =>
        rw [h n _ q (fun _ _ z => by cases z)]
        rw [q] at e
        cases q2 : gA xs with
        | none => simp only [q2] at e; cases e
        | some ds => simp only [q2] at e; simp only [g xs ds q2]; exact e
      | dct kvs =>
        rw [h n _ q (fun _ _ z => by cases z)]
        rw [q] at e
        cases q2 : gA (kvs.map (·.2)) with
        | none => simp only [q2] at e; cases e
        | some ds => simp only [q2] at e; simp only [g _ ds q2]; exact e
theorem toD_mono {A B : Sto} (h : ∀ (i : Nat) (c : Cell), A[i]? = some c → (∀ n fs, c ≠ .ins n fs) → B[i]? = some c) {v : IV} {d : PyData} (e : toD A v = some d) : toD B v = some d := goD_mono (refs_mono h 6) v d e
theorem msk_sees {N : Nat} {S : Sto} : ∀ (i : Nat) (c : Cell), (msk N S)[i]? = some c → (∀ n fs, c ≠ .ins n fs) → S[i]? = some c := fun i c hc hi => by
  by_cases hl : N ≤ i
  · rw [msk_get hl] at hc; exact hc
  · exact absurd hc (msk_low (by omega) hi)
/-- the data of v stands in S'; what it refers to is new since S -/
structure Gv (S S' : Sto) (v : IV) (d : PyData) : Prop where
  hid : toD (msk S.length S') v = some d
  new : flatD v = some d ∨ v.lt S.length = false
theorem Gv.data {S S' : Sto} {v : IV} {d : PyData} (h : Gv S S' v d) : toD S' v = some d := toD_mono msk_sees h.hid
/-- what comes later leaves it -/
theorem Gv.later {n : Nat} {S S' S'' : Sto} {v : IV} {d : PyData} (h : Gv S S' v d) (x : Ext n S' S'') (hn : n < S.length) : toD S'' v = some d := by
  refine toD_mono (fun i c hc hi => ?_) h.hid
  by_cases hl : S.length ≤ i
  · rw [msk_get hl] at hc
    rw [x.old i (get_lt hc) (by omega)]
    exact hc
  · exact absurd hc (msk_low (by omega) hi)
theorem Gv.less {S S1 S' : Sto} {v : IV} {d : PyData} (h : Gv S1 S' v d) (hl : S.length ≤ S1.length) : toD (msk S.length S') v = some d := by
  refine toD_mono (fun i c hc hi => ?_) h.hid
  by_cases hl' : S1.length ≤ i
  · rw [msk_get hl'] at hc
    rw [msk_get (Nat.le_trans hl hl')]
    exact hc
  · exact absurd hc (msk_low (by omega) hi)
/-- a data that can be shown -/
structure Gd (W D : Nat) (d : PyData) : Prop where
  show_ : d.showable = true
  kind : (!d.hasDict || !hasL d) = true
  wt : wtD d ≤ W
  deep : d.depth ≤ D
theorem Gd.ok {W D : Nat} {d : PyData} (h : Gd W D d) (hW : W ≤ 16777216) (hD : D ≤ 60) : shownOk d = true := shownOk_of h.show_ h.kind (Nat.le_trans h.wt hW) (Nat.le_trans h.deep hD)
theorem Gd.mono {W D W' D' : Nat} {d : PyData} (h : Gd W D d) (hW : W ≤ W') (hD : D ≤ D') : Gd W' D' d := ⟨h.show_, h.kind, Nat.le_trans h.wt hW, Nat.le_trans h.deep hD⟩
theorem toD_ok {S : Sto} {v : IV} (h : okV v = true) : toD S v = some (dV v) := goD_flat _ _ (flatV_ok v h)
theorem Gv.of_ok {S S' : Sto} {v : IV} (h : okV v = true) : Gv S S' v (dV v) := ⟨toD_ok h, .inl (flatV_ok v h)⟩
theorem Gd.of_ok {W D : Nat} {v : IV} (h : okV v = true) (hW : wtD (dV v) ≤ W) (hD : (dV v).depth ≤ D) : Gd W D (dV v) := ⟨show_ok v h, by rw [noD_ok v h]; rfl, hW, hD⟩
/-- a call's end keeps the data -/
theorem Gv.settle {S S1 : Sto} {v : IV} {d : PyData} (h : Gv S S1 v d) : Gv S (settle S v S1) v d := by
  rcases h.new with o | o
  · exact ⟨goD_flat _ _ o, .inl o⟩
  · have e : Wg.settle S v S1 = S1 := by unfold Wg.settle; rw [o]; rfl
    rw [e]; exact h
theorem settle_cases {S S1 : Sto} (v : IV) (hl : S.length ≤ S1.length) : Wg.settle S v S1 = S1 ∨ Wg.settle S v S1 = S1.take S.length := by
  unfold Wg.settle
  split
  · exact .inr rfl
  · exact .inl rfl
theorem Ext.settle {n : Nat} {S S1 : Sto} (v : IV) (h : Ext n S S1) : Ext n S (Wg.settle S v S1) := by
  rcases settle_cases v h.len with e | e <;> rw [e]
  · exact h
  · exact ⟨by rw [List.length_take]; have := h.len; omega, fun i hi hn => by rw [List.getElem?_take, if_pos hi]; exact h.old i hi hn⟩
theorem Sup.settle {n t : Nat} {S S1 : Sto} (v : IV) (h : Sup n t S1) (hl : S.length ≤ S1.length) (hn : n < S.length) : Sup n t (Wg.settle S v S1) := by
  rcases settle_cases v hl with e | e <;> rw [e]
  · exact h
  · obtain ⟨a, b, c, q, r⟩ := h
    exact ⟨a, b, c, by rw [List.getElem?_take, if_pos hn]; exact q, r⟩
theorem Sup.lt {n t : Nat} {S : Sto} (h : Sup n t S) : n < S.length := by obtain ⟨_, _, _, e, _⟩ := h; exact get_lt e
theorem toD_dct {S : Sto} {n : Nat} {kvs : List (Key × IV)} {ds : List PyData} (h : S[n]? = some (.dct kvs)) (hd : goDs (refs 5 S) (kvs.map (·.2)) = some ds) : toD S (.ref n) = some (.dict ((kvs.map fun p => kD p.1).zip ds)) := by
  have e : toD S (.ref n) = refD (goD (refs 5 S)) (goDs (refs 5 S)) S n := rfl
  rw [e]
  generalize goD (refs 5 S) = g at *
  generalize goDs (refs 5 S) = gs at *
  simp only [refD, h, hd]
theorem oddFlat_ok : oddFlat.all (fun v => okV v && decide (wtD (dV v) ≤ 10000) && decide ((dV v).depth ≤ 4)) = true := by kernel_rfl
/-- an odd value as data -/
theorem OddV.gv {S S' : Sto} {v : IV} (h : OddV S' v) (hn : ∀ m, v = .ref m → S.length ≤ m) : ∃ d, Gv S S' v d ∧ Gd 10000 4 d := by
  rcases h with h | ⟨m, c, rfl, e, o⟩
  · have q := List.all_eq_true.mp oddFlat_ok v h
    simp only [Bool.and_eq_true, decide_eq_true_eq] at q
    exact ⟨_, .of_ok q.1.1, .of_ok q.1.1 q.1.2 q.2⟩
  · have hl : (IV.ref m).lt S.length = false := by
      have := hn m rfl
      simp [IV.lt]; omega
    have e : (msk S.length S')[m]? = some c := by rw [msk_get (hn m rfl)]; exact e
    have fl : ∀ {xs : List IV}, c = .lst xs → okVs xs = true → wtDs (dVs xs) + 3 ≤ 10000 → PyData.depthAll (dVs xs) ≤ 3 → ∃ d, Gv S S' (.ref m) d ∧ Gd 10000 4 d := fun {xs} hc hx hw hd => by
      subst hc
      refine ⟨.list (dVs xs), ⟨toD_lst e (goDs_flat _ _ (flatVs_ok xs hx)), .inr hl⟩, ?_, ?_, ?_, ?_⟩
      · simp only [PyData.showable, shows_ok xs hx]
      · simp only [PyData.hasDict, noDs_ok xs hx]; rfl
      · simp only [wtD]; exact hw
      · simp only [PyData.depth]; omega
    simp only [oddCell, List.mem_cons, List.not_mem_nil, or_false] at o
    rcases o with rfl | rfl | rfl | rfl | rfl | rfl | rfl
    · exact fl rfl rfl (by decide) (by decide)
    · exact ⟨_, ⟨toD_dct (ds := []) e (by simp only [List.map_nil, goDs]), .inr hl⟩, rfl, rfl, by decide, by decide⟩
    · exact fl rfl (by decide) (by decide) (by decide)
    · exact fl rfl (by decide) (by decide) (by decide)
    · exact fl rfl (by decide) (by decide) (by decide)
    · exact fl rfl (by decide) (by decide) (by decide)
    · exact ⟨_, ⟨toD_dct (ds := [.int 1]) e (by simp only [List.map_cons, List.map_nil, goDs, goD]), .inr hl⟩, by decide, rfl, by decide, by decide⟩
end Wg
/-! WhB: a value that is bent. -/
namespace Wg
open PySem L2
section
variable {S : Sto}
theorem eq_nil {xs : List IV} (h : okVs xs = true) (hd : PyData.depthAll (dVs xs) ≤ 60) : cmpI .eq (.tup xs) (.tup []) S = .ok (.bl xs.isEmpty) S := by
  have h1 : toD S (.tup xs) = some (.tuple (dVs xs)) := toD_ok (v := .tup xs) (by simpa [okV] using h)
  have h2 : toD S (.tup []) = some (.tuple []) := toD_ok (v := .tup []) (by simp [okV, okVs])
  have s1 : SeqAt.shaped (.tuple (dVs xs)) = true := by
    have q : (PyData.tuple (dVs xs)).depth ≤ 64 := by simp only [PyData.depth]; omega
    simp only [SeqAt.shaped, PyData.canLay0, lays_ok xs h, Bool.true_and, decide_eq_true_eq]
    exact q
  have s2 : SeqAt.shaped (.tuple []) = true := by decide
  have e : PyData.eqv (.tuple (dVs xs)) (.tuple []) = xs.isEmpty := by cases xs <;> simp [dVs, PyData.eqv, PyData.eqvAll]
  rw [c_eq0]
  simp only [eqI, eqS, h1, h2, s1, s2, Bool.and_self, if_true, e, eqT_some, boolR]
def isTupI : IV → Bool
  | .tup _ => true
  | _ => false
theorem isi_tup {v : IV} (h : plainV S v) : isiI v .tuple S = .ok (.bl (isTupI v)) S := by
  cases v with
  | ref n =>
    obtain ⟨c, h1, h2⟩ := h
    cases c <;> simp [isiI, h1, isTupI, plainC] at h2 ⊢
  | cls n => exact h.elim
  | _ => simp [isiI, isTupI]
theorem plain_ok {v : IV} (h : okV v = true) : plainV S v := by
  cases v <;> first | trivial | (simp [okV] at h)
theorem sl_to {xs : List IV} {j : Nat} (h : j ≤ xs.length) : slI (.tup xs) none (some (j : Int)) S = .ok (.tup (xs.take j)) S := by
  have : cutI xs none (some (j : Int)) = xs.take j := by
    unfold cutI
    have e1 : HT.sIx xs.length 0 none = 0 := rfl
    have e2 : HT.sIx xs.length xs.length (some (j : Int)) = j := by
      show (if (j : Int) < 0 then ((j : Int) + (xs.length : Int)).toNat else min (j : Int).toNat xs.length) = j
      rw [if_neg (by omega)]; omega
    rw [e1, e2, List.drop_zero, Nat.sub_zero]
  simp only [slI, this]
theorem sl_from {xs : List IV} {j : Nat} (h : j ≤ xs.length) : slI (.tup xs) (some (j : Int)) none S = .ok (.tup (xs.drop j)) S := by
  have : cutI xs (some (j : Int)) none = xs.drop j := by
    unfold cutI
    have e1 : HT.sIx xs.length xs.length none = xs.length := rfl
    have e2 : HT.sIx xs.length 0 (some (j : Int)) = j := by
      show (if (j : Int) < 0 then ((j : Int) + (xs.length : Int)).toNat else min (j : Int).toNat xs.length) = j
      rw [if_neg (by omega)]; omega
    rw [e1, e2]
    exact List.take_of_length_le (by simp)
  simp only [slI, this]
theorem f_str {i : Int} (h : i.natAbs.log2 < 1920) : bltI .str [.int i] S = .ok (.str (toString i)) S := by simp only [bltI, h, if_true]
theorem f_list {xs : List IV} : bltI .list [.tup xs] S = .ok (.ref S.length) (S ++ [.lst xs]) := rfl
theorem int_txt (i : Int) (h : i.natAbs.log2 < 1000) : okV (.str (toString i)) = true ∧ (reprText (toString i : String)).length ≤ 20000 := by
  have hc : ∀ c ∈ ((toString i : String) : Str).cps.toList, c < 60 := fun c hc => by
    rcases Nat.lt_or_ge c 60 with q | q
    · exact q
    · exact absurd hc (PyProof.Rows.int_text_free' c ⟨by omega, by omega⟩ i)
  refine ⟨?_, ?_⟩
  · simp only [okV, PyData.strOk, Array.all_eq_true']
    intro c q
    have := hc c (by simpa using q)
    simp only [decide_eq_true_eq]
    omega
  · have h1 := StrLaws.reprText_len ((toString i : String) : Str) fun c q => Nat.lt_trans (hc c q) (by decide)
    have h2 := PyProof.Rows.int_text_len_1921 (i := i) (by omega)
    omega
mutual
theorem nolt_ok : ∀ v : IV, okV v = true → ∀ m, v.lt m = true
  | .non, _, _ => by simp [IV.lt]
  | .bl _, _, _ => by simp [IV.lt]
  | .int _, _, _ => by simp [IV.lt]
  | .str _, _, _ => by simp [IV.lt]
  | .ref _, h, _ => by simp [okV] at h
  | .cls _, h, _ => by simp [okV] at h
  | .tup xs, h, m => by simp only [okV] at h; simp only [IV.lt, nolts_ok xs h m]
theorem nolts_ok : ∀ xs : List IV, okVs xs = true → ∀ m, ltAll m xs = true
  | [], _, _ => by simp only [ltAll]
  | x :: xs, h, m => by simp only [okVs, Bool.and_eq_true] at h; simp only [ltAll, nolt_ok x h.1 m, nolts_ok xs h.2 m, Bool.and_self]
end
/-! ### bent -/
variable {pr : Prg} {n : Nat}
structure BentLib (pr : Prg) : Prop where
  int : Has pr "_law_is_integer" d_is_integer
  draw : Has pr "_law_draw" d_l_draw
  choose : Has pr "_law_choose" d_l_choose
  odd : Has pr "_law_odd" d_l_odd
  bent : Has pr "_law_bent" d_l_bent
/-- what a bent value is -/
def BentTo (n : Nat) (S : Sto) (T W D : Nat) (r : Rs IV) : Prop := ∃ u S', r = .ok u S' ∧ Ext n S S' ∧ Sup n T S' ∧ ∃ d, Gv S S' u d ∧ Gd W D d
theorem bent_odd {S S1 : Sto} {t k : Nat} (B : BentLib pr) (x : Ext n S S1) (hn : n < S.length) (s : Sup n t S1) (ht : t ≤ 1000000000) :
    ∃ v S2, run pr (k + 3) "_law_odd" [.ref n] S1 = .ok v S2 ∧ Ext n S (settle S v S2) ∧ Sup n (t + 1) (settle S v S2) ∧ ∃ d, Gv S (settle S v S2) v d ∧ Gd 10000 4 d := by
  obtain ⟨v, S2, e, x2, s2, o, nw⟩ := odd_run2 (k := k) B.odd B.choose B.draw s ht
  obtain ⟨d, g, gd⟩ := o.gv nw
  have g' : Gv S S2 v d := ⟨g.less x.len, g.new.imp id fun q => by
    have hl := x.len
    cases v with
    | ref m => simp [IV.lt] at q ⊢; omega
    | non => simp [IV.lt] at q
    | bl => simp [IV.lt] at q
    | int => simp [IV.lt] at q
    | str => simp [IV.lt] at q
    | cls => simp [IV.lt] at q
    | tup xs =>
      exfalso
      rcases o with o | ⟨m, c, z, _⟩
      · have q2 := List.all_eq_true.mp oddFlat_ok _ o
        simp only [Bool.and_eq_true] at q2
        have q3 := nolt_ok _ q2.1.1 S1.length
        rw [q] at q3; cases q3
      · cases z⟩
  have x12 := x.trans x2
  exact ⟨v, S2, e, x12.settle v, s2.settle v x12.len hn, d, g'.settle, gd⟩
theorem log_two {a b k : Nat} (h : b.log2 < k) (ha : a ≤ 2 * b + 1) : a.log2 < k + 2 := by
  by_cases h0 : a = 0
  · subst h0; simp
  · refine (Nat.log2_lt h0).mpr ?_
    have hb : b < 2 ^ k := by
      by_cases b0 : b = 0
      · subst b0; exact Nat.two_pow_pos k
      · exact (Nat.log2_lt b0).mp h
    rw [Nat.pow_add]
    omega
theorem gd_int {S S' : Sto} {i : Int} (h : i.natAbs.log2 < 1920) : Gv S S' (.int i) (.int i) ∧ Gd 40000 0 (.int i) :=
  ⟨⟨by simp only [toD, goD], .inl (by simp only [flatD])⟩, by simp [PyData.showable, h], rfl, by simp [wtD], by simp [PyData.depth]⟩
def six (i : Int) : List IV := [.int (i + 1), .int (i - 1), .bl (decide (i = 1)), .int (0 - i), .int (i * 2), .str (toString i)]
theorem six_ok {S S' : Sto} {i : Int} (h : i.natAbs.log2 < 1000) : ∀ u ∈ six i, ∃ d, Gv S S' u d ∧ Gd 40000 0 d := by
  have hk : ∀ j : Int, j.natAbs ≤ 2 * i.natAbs + 1 → ∃ d, Gv S S' (.int j) d ∧ Gd 40000 0 d := fun j hj => ⟨_, gd_int (by have := log_two h hj; omega)⟩
  intro u hu
  simp only [six, List.mem_cons, List.not_mem_nil, or_false] at hu
  rcases hu with rfl | rfl | rfl | rfl | rfl | rfl
  · exact hk _ (by omega)
  · exact hk _ (by omega)
  · exact ⟨_, .of_ok (by simp [okV]), .of_ok (by simp [okV]) (by simp [dV, wtD]) (by simp [dV, PyData.depth])⟩
  · exact hk _ (by omega)
  · exact hk _ (by omega)
  · obtain ⟨o, w⟩ := int_txt i h
    exact ⟨_, .of_ok o, .of_ok o (by simp only [dV, wtD]; omega) (by simp [dV, PyData.depth])⟩
theorem bent_int (B : BentLib pr) {e k : Nat} {i : Int} {t : Nat} (hi : i.natAbs.log2 < 1000) (hs : Sup n t S) (ht : t + 100 ≤ 1000000000) :
    BentTo n S (t + 4) 40000 4 (run pr (k + 4) "_law_bent" [.ref n, .int i, .int (e : Nat)] S) := by
  have hn := hs.lt
  rw [run_eq B.bent rfl]
  have pv : plainV S (.int i) := trivial
  have iv := is_integer_run (k := k + 2) (S := S) B.int (.int i) pv
  obtain ⟨r, S1, e1, r0, r1, s1, x1, l1⟩ := draw_new (pr := pr) (k := k + 2) B.draw hs (by omega) (m := 4) (by decide) (by decide)
  by_cases hr : 0 < r
  · obtain ⟨r2, S2, e2, q0, q1, s2, x2, l2⟩ := draw_new (pr := pr) (k := k + 2) (S := S1 ++ [.lst (six i)]) B.draw s1.app (by omega) (m := 6) (by decide) (by decide)
    have hg : S2[S1.length]? = some (.lst (six i)) := x2.get get_app0 (by omega)
    obtain ⟨j, rfl⟩ : ∃ j : Nat, r2 = (j : Int) := ⟨r2.toNat, by omega⟩
    have hj : j < (six i).length := by simp [six]; omega
    have ea : atI (six i) (j : Int) = some (six i)[j] := atI_nat (List.getElem?_eq_getElem hj)
    have m2 : mulOk i 2 = true := mulOk_r (by decide)
    have es : ∀ S : Sto, mkLi [.int (i + 1), .int (i - 1), .bl (decide (i = 1)), .int (0 - i), .int (i * 2), .str (toString i)] S = .ok (.ref S.length) (S ++ [.lst (six i)]) := fun _ => rfl
    simp only [d_l_bent, bind_ok, bind_exc, thn_ok, thn_exc, seq_next, seq_ret, seq_brk, seq_cnt, seq_exc, done_ret, done_next, done_exc, tr_ok, tr_exc, getI_some, getO_some, x_k, x_loc, x_glb, x_bin, x_neg, x_cmp, x_chain, x_and, x_or, x_not, x_ite, mkTu_0, mkTu_1, mkTu_2, mkTu_3, mkTu_4, mkLi_0, mkLi_1, mkLi_2, mkLi_3, mkLi_4, x_tup, x_lst, x_dct0, x_dct1, x_ix, x_sl, x_rev, r_tup, x_rgs, x_call, x_blt, st_self, st_exc, st_excA, x_gc, st_new, st_int, st_bl, st_str, x_att, x_met, metR_some, x_new, x_iso, x_calls, starR_tup, ok_only, s_fld, xi_enum, enumR_tup, xi_zip, zipR_tup, q_ret, q_next, q_brk, q_cnt, List.isEmpty_cons, List.isEmpty_nil, x_isi, x_mth, xs_nil, xs_cons, xo_none, intR_int, xo_some, xi_val, xi_rng, walkR_tup, walkR_str, x_lc, ts_nil, tsR_bl, ts_cons, pick_bl, s_nil, s_cons, rest_eq, s_expr, s_ret, s_retN, s_pass, s_brk, s_cnt, s_set, s_par, s_par3, s_sub, s_cond, s_whil, s_for, s_raise, s_try, cat_next, cat_ret, cat_brk, cat_cnt, s_aug, augR_some, aug_add, aug_sub, set_nm, ofO_some, set_tp, t_nil, t_nm, sT_nm, sT_tp, b_add, b_sub, n_int, c_lt, c_le, c_gt, c_ge, c_eq, c_ne, c_eqs, c_nes, c_eqb, i_tup, l_tup, f_abs, f_max, f_min, at0, at1, at2, settle_self, List.map_cons, List.map_nil, List.length_cons, List.length_nil, List.cons_append, List.nil_append, List.append_nil, List.getElem?_cons_zero, List.getElem?_cons_succ, List.set_cons_zero, List.set_cons_succ, List.replicate, Nat.sub_self, Nat.zero_add, Nat.reduceAdd, Nat.reduceSub, iv, isInt, if_true, e1, hr, decide_true, b_mul m2, f_str (show i.natAbs.log2 < 1920 by omega), es, e2, i_lst hg, ea]
    obtain ⟨d, g, gd⟩ := six_ok (S := S) (S' := S2) hi _ (List.getElem_mem hj)
    have x12 := (x1.trans .app).trans x2
    exact ⟨_, _, rfl, x12.settle _, (s2.mono (by omega)).settle _ x12.len hn, d, g.settle, gd.mono (by omega) (by omega)⟩
  · obtain ⟨v, S2, e2, x2, s2, d, g, gd⟩ := bent_odd (k := k) B x1 hn s1 (by omega)
    have it := isi_tup (S := S1) (v := .int i) trivial
    simp only [d_l_bent, bind_ok, bind_exc, thn_ok, thn_exc, seq_next, seq_ret, seq_brk, seq_cnt, seq_exc, done_ret, done_next, done_exc, tr_ok, tr_exc, getI_some, getO_some, x_k, x_loc, x_glb, x_bin, x_neg, x_cmp, x_chain, x_and, x_or, x_not, x_ite, mkTu_0, mkTu_1, mkTu_2, mkTu_3, mkTu_4, mkLi_0, mkLi_1, mkLi_2, mkLi_3, mkLi_4, x_tup, x_lst, x_dct0, x_dct1, x_ix, x_sl, x_rev, r_tup, x_rgs, x_call, x_blt, st_self, st_exc, st_excA, x_gc, st_new, st_int, st_bl, st_str, x_att, x_met, metR_some, x_new, x_iso, x_calls, starR_tup, ok_only, s_fld, xi_enum, enumR_tup, xi_zip, zipR_tup, q_ret, q_next, q_brk, q_cnt, List.isEmpty_cons, List.isEmpty_nil, x_isi, x_mth, xs_nil, xs_cons, xo_none, intR_int, xo_some, xi_val, xi_rng, walkR_tup, walkR_str, x_lc, ts_nil, tsR_bl, ts_cons, pick_bl, s_nil, s_cons, rest_eq, s_expr, s_ret, s_retN, s_pass, s_brk, s_cnt, s_set, s_par, s_par3, s_sub, s_cond, s_whil, s_for, s_raise, s_try, cat_next, cat_ret, cat_brk, cat_cnt, s_aug, augR_some, aug_add, aug_sub, set_nm, ofO_some, set_tp, t_nil, t_nm, sT_nm, sT_tp, b_add, b_sub, n_int, c_lt, c_le, c_gt, c_ge, c_eq, c_ne, c_eqs, c_nes, c_eqb, i_tup, l_tup, f_abs, f_max, f_min, at0, at1, at2, settle_self, List.map_cons, List.map_nil, List.length_cons, List.length_nil, List.cons_append, List.nil_append, List.append_nil, List.getElem?_cons_zero, List.getElem?_cons_succ, List.set_cons_zero, List.set_cons_succ, List.replicate, Nat.sub_self, Nat.zero_add, Nat.reduceAdd, Nat.reduceSub, iv, isInt, if_true, e1, hr, decide_false, Bool.false_eq_true, if_false, it, isTupI, Bool.not_false, e2]
    exact ⟨_, _, rfl, x2, s2.mono (by omega), d, g, gd.mono (by omega) (by omega)⟩
/-- a tuple's data with one item changed -/
theorem gd_tup {S S' : Sto} {pre post : List IV} {u : IV} {d : PyData} {W W' D : Nat} (h1 : okVs pre = true) (h2 : okVs post = true) (hw : wtDs (dVs pre) + wtDs (dVs post) ≤ W) (hd1 : PyData.depthAll (dVs pre) ≤ D) (hd2 : PyData.depthAll (dVs post) ≤ D)
    (g : Gv S S' u d) (gd : Gd W' D d) : ∃ d', Gv S S' (.tup (pre ++ [u] ++ post)) d' ∧ Gd (W + W' + 5) (D + 1) d' := by
  refine ⟨.tuple (dVs pre ++ [d] ++ dVs post), ⟨?_, ?_⟩, ?_, ?_, ?_, ?_⟩
  · have q : ∀ (a b : List IV) (x y : List PyData), goDs (refs 6 (msk S.length S')) a = some x → goDs (refs 6 (msk S.length S')) b = some y → goDs (refs 6 (msk S.length S')) (a ++ b) = some (x ++ y) := by
      intro a
      induction a with
      | nil => intro b x y hx hy; simp only [goDs] at hx; cases hx; simpa using hy
      | cons c a ih =>
        intro b x y hx hy
        simp only [goDs] at hx
        cases e1 : goD (refs 6 (msk S.length S')) c with
        | none => rw [e1] at hx; simp at hx
        | some dc =>
          rw [e1] at hx
          cases e2 : goDs (refs 6 (msk S.length S')) a with
          | none => rw [e2] at hx; simp at hx
          | some da =>
            rw [e2] at hx
            cases hx
            simp only [List.cons_append, goDs, e1, ih b da y e2 hy]
    have a1 := q pre [u] _ [d] (goDs_flat _ _ (flatVs_ok pre h1)) (goDs_cons g.hid goDs_nil)
    have a2 := q _ post _ _ a1 (goDs_flat _ _ (flatVs_ok post h2))
    simp only [toD]
    exact goD_tup a2
  · rcases g.new with o | o
    · left
      have q : ∀ (a b : List IV) (x y : List PyData), flatDs a = some x → flatDs b = some y → flatDs (a ++ b) = some (x ++ y) := by
        intro a
        induction a with
        | nil => intro b x y hx hy; simp only [flatDs] at hx; cases hx; simpa using hy
        | cons c a ih =>
          intro b x y hx hy
          simp only [flatDs] at hx
          cases e1 : flatD c with
          | none => rw [e1] at hx; simp at hx
          | some dc =>
            rw [e1] at hx
            cases e2 : flatDs a with
            | none => rw [e2] at hx; simp at hx
            | some da =>
              rw [e2] at hx
              cases hx
              simp only [List.cons_append, flatDs, e1, ih b da y e2 hy]
      have a1 := q pre [u] _ [d] (flatVs_ok pre h1) (by simp only [flatDs, o])
      have a2 := q _ post _ _ a1 (flatVs_ok post h2)
      simp only [flatD, a2]
    · right
      have q : ∀ a b : List IV, ltAll S.length (a ++ b) = (ltAll S.length a && ltAll S.length b) := by
        intro a b
        induction a with
        | nil => simp [ltAll]
        | cons c a ih => simp [ltAll, ih, Bool.and_assoc]
      simp only [IV.lt, q, ltAll, o, Bool.false_and, Bool.and_false]
  · have q : ∀ a b : List PyData, PyData.showableAll (a ++ b) = (PyData.showableAll a && PyData.showableAll b) := by
      intro a b
      induction a with
      | nil => simp [PyData.showableAll]
      | cons c a ih => simp [PyData.showableAll, ih, Bool.and_assoc]
    simp only [PyData.showable, q, shows_ok pre h1, shows_ok post h2, PyData.showableAll, gd.show_, Bool.and_self]
  · have q1 : ∀ a b : List PyData, PyData.hasDictAll (a ++ b) = (PyData.hasDictAll a || PyData.hasDictAll b) := by
      intro a b
      induction a with
      | nil => simp [PyData.hasDictAll]
      | cons c a ih => simp [PyData.hasDictAll, ih, Bool.or_assoc]
    have q2 : ∀ a b : List PyData, hasLs (a ++ b) = (hasLs a || hasLs b) := by
      intro a b
      induction a with
      | nil => simp [hasLs]
      | cons c a ih => simp [hasLs, ih, Bool.or_assoc]
    simp only [PyData.hasDict, hasL, q1, q2, noDs_ok pre h1, noDs_ok post h2, noLs_ok pre h1, noLs_ok post h2, PyData.hasDictAll, hasLs, Bool.false_or, Bool.or_false, gd.kind]
  · simp only [wtD, wtDs_append, wtDs]
    have := gd.wt
    omega
  · simp only [PyData.depth, depthAll_append, PyData.depthAll]
    have := gd.deep
    omega
theorem okVs_append {a b : List IV} (h1 : okVs a = true) (h2 : okVs b = true) : okVs (a ++ b) = true := okVs_iff.mpr fun x hx => by
  rcases List.mem_append.mp hx with q | q
  · exact okVs_iff.mp h1 x q
  · exact okVs_iff.mp h2 x q
theorem okVs_take {a : List IV} (h : okVs a = true) (j : Nat) : okVs (a.take j) = true := okVs_iff.mpr fun x hx => okVs_iff.mp h x (List.mem_of_mem_take hx)
theorem okVs_drop {a : List IV} (h : okVs a = true) (j : Nat) : okVs (a.drop j) = true := okVs_iff.mpr fun x hx => okVs_iff.mp h x (List.mem_of_mem_drop hx)
theorem wt_cut (xs : List IV) (j : Nat) : wtDs (dVs xs) = wtDs (dVs (xs.take j)) + wtDs (dVs (xs.drop j)) := by
  have := wtDs_append (dVs (xs.take j)) (dVs (xs.drop j))
  rw [← this, dVs_map, dVs_map, dVs_map, ← List.map_append, List.take_append_drop]
theorem dp_cut (xs : List IV) (j : Nat) : PyData.depthAll (dVs xs) = max (PyData.depthAll (dVs (xs.take j))) (PyData.depthAll (dVs (xs.drop j))) := by
  rw [← depthAll_append, dVs_map, dVs_map, dVs_map, ← List.map_append, List.take_append_drop]
theorem len_wt (xs : List IV) : 2 * xs.length ≤ wtDs (dVs xs) := by
  induction xs with
  | nil => simp
  | cons x xs ih => simp only [dVs, wtDs, List.length_cons]; omega
theorem wt_rev (xs : List IV) : wtDs (dVs xs.reverse) = wtDs (dVs xs) := by
  induction xs with
  | nil => rfl
  | cons x xs ih => rw [List.reverse_cons, dVs_map, List.map_append, wtDs_append, ← dVs_map, ih]; simp [dVs, wtDs]; omega
theorem dp_rev (xs : List IV) : PyData.depthAll (dVs xs.reverse) = PyData.depthAll (dVs xs) := by
  induction xs with
  | nil => rfl
  | cons x xs ih => rw [List.reverse_cons, dVs_map, List.map_append, depthAll_append, ← dVs_map, ih]; simp [dVs, PyData.depthAll]; omega
theorem gd_flat {S S' : Sto} {xs : List IV} {W D : Nat} (h : okVs xs = true) (hw : wtDs (dVs xs) + 3 ≤ W) (hd : PyData.depthAll (dVs xs) + 1 ≤ D) : ∃ d, Gv S S' (.tup xs) d ∧ Gd W D d :=
  ⟨_, .of_ok (by simpa [okV] using h), .of_ok (by simpa [okV] using h) (by simp only [dV, wtD]; exact hw) (by simp only [dV, PyData.depth]; exact hd)⟩
theorem bent_sum {W Z : Nat} (h : 3 ≤ W) : W + (Z + 40000) + 5 ≤ Z + 3 * W + 40000 := by omega
def four (xs : List IV) (a m : Nat) : List IV := [.tup (xs.take a ++ xs.drop (a + 1)), .tup (xs.take (a + 1) ++ xs.drop a), .ref m, .tup xs.reverse]
mutual
theorem lt_mono : ∀ (v : IV) {m m' : Nat}, v.lt m = true → m ≤ m' → v.lt m' = true
  | .non, _, _, _, _ => by simp [IV.lt]
  | .bl _, _, _, _, _ => by simp [IV.lt]
  | .int _, _, _, _, _ => by simp [IV.lt]
  | .str _, _, _, _, _ => by simp [IV.lt]
  | .ref _, _, _, h, hm => by simp [IV.lt] at h ⊢; omega
  | .cls _, _, _, _, _ => rfl
  | .tup xs, _, _, h, hm => by simp only [IV.lt] at h ⊢; exact lts_mono xs h hm
theorem lts_mono : ∀ (xs : List IV) {m m' : Nat}, ltAll m xs = true → m ≤ m' → ltAll m' xs = true
  | [], _, _, _, _ => by simp only [ltAll]
  | x :: xs, _, _, h, hm => by
    simp only [ltAll, Bool.and_eq_true] at h ⊢
    exact ⟨lt_mono x h.1 hm, lts_mono xs h.2 hm⟩
end
theorem bent_run (B : BentLib pr) : ∀ (e k : Nat) (v : IV) (W D : Nat) (S : Sto) (t : Nat), okV v = true → wtD (dV v) ≤ W → (dV v).depth ≤ D → W ≤ 100000 → D ≤ 50 → Sup n t S → t + 100 * (e + 1) ≤ 1000000000 →
    BentTo n S (t + 4 * (e + 1)) (3 * W * (e + 1) + 40000) (D + 4 + e) (run pr (k + e + 4) "_law_bent" [.ref n, v, .int (e : Nat)] S) := by
  intro e
  induction e with
  | zero =>
    intro k v W D S t hv hw hd hW hD hs ht
    cases hI : isInt v with
    | true =>
      obtain ⟨i, rfl⟩ : ∃ i, v = .int i := by cases v <;> simp [isInt] at hI; exact ⟨_, rfl⟩
      obtain ⟨u, S', a, b, c, d, g, gd⟩ := bent_int (k := k) (e := 0) B (by simpa [okV] using hv) hs (by omega)
      exact ⟨u, S', a, b, c.mono (by omega), d, g, gd.mono (by omega) (by omega)⟩
    | false =>
      rw [run_eq B.bent rfl]
      have iv := is_integer_run (k := k + 2) (S := S) B.int v (plain_ok hv)
      have it := isi_tup (S := S) (plain_ok hv)
      obtain ⟨u, S2, e2, x2, s2, d, g, gd⟩ := bent_odd (k := k) B (Ext.rfl' (n := n) (S := S)) hs.lt hs (by omega)
      cases hT : isTupI v with
      | false =>
        simp only [d_l_bent, bind_ok, bind_exc, thn_ok, thn_exc, seq_next, seq_ret, seq_brk, seq_cnt, seq_exc, done_ret, done_next, done_exc, tr_ok, tr_exc, getI_some, getO_some, x_k, x_loc, x_glb, x_bin, x_neg, x_cmp, x_chain, x_and, x_or, x_not, x_ite, mkTu_0, mkTu_1, mkTu_2, mkTu_3, mkTu_4, mkLi_0, mkLi_1, mkLi_2, mkLi_3, mkLi_4, x_tup, x_lst, x_dct0, x_dct1, x_ix, x_sl, x_rev, r_tup, x_rgs, x_call, x_blt, st_self, st_exc, st_excA, x_gc, st_new, st_int, st_bl, st_str, x_att, x_met, metR_some, x_new, x_iso, x_calls, starR_tup, ok_only, s_fld, xi_enum, enumR_tup, xi_zip, zipR_tup, q_ret, q_next, q_brk, q_cnt, List.isEmpty_cons, List.isEmpty_nil, x_isi, x_mth, xs_nil, xs_cons, xo_none, intR_int, xo_some, xi_val, xi_rng, walkR_tup, walkR_str, x_lc, ts_nil, tsR_bl, ts_cons, pick_bl, s_nil, s_cons, rest_eq, s_expr, s_ret, s_retN, s_pass, s_brk, s_cnt, s_set, s_par, s_par3, s_sub, s_cond, s_whil, s_for, s_raise, s_try, cat_next, cat_ret, cat_brk, cat_cnt, s_aug, augR_some, aug_add, aug_sub, set_nm, ofO_some, set_tp, t_nil, t_nm, sT_nm, sT_tp, b_add, b_sub, n_int, c_lt, c_le, c_gt, c_ge, c_eq, c_ne, c_eqs, c_nes, c_eqb, i_tup, l_tup, f_abs, f_max, f_min, at0, at1, at2, settle_self, List.map_cons, List.map_nil, List.length_cons, List.length_nil, List.cons_append, List.nil_append, List.append_nil, List.getElem?_cons_zero, List.getElem?_cons_succ, List.set_cons_zero, List.set_cons_succ, List.replicate, Nat.sub_self, Nat.zero_add, Nat.reduceAdd, Nat.reduceSub, Nat.add_zero, iv, hI, Bool.false_eq_true, if_false, it, hT, Bool.not_false, if_true, e2]
        exact ⟨_, _, rfl, x2, s2.mono (by omega), d, g, gd.mono (by omega) (by omega)⟩
      | true =>
        obtain ⟨xs, rfl⟩ : ∃ xs, v = .tup xs := by cases v <;> simp [isTupI] at hT; exact ⟨_, rfl⟩
        have hx : okVs xs = true := by simpa [okV] using hv
        have en := eq_nil (S := S) hx (by simp only [dV, PyData.depth] at hd; omega)
        cases hE : xs.isEmpty with
        | true =>
          simp only [d_l_bent, bind_ok, bind_exc, thn_ok, thn_exc, seq_next, seq_ret, seq_brk, seq_cnt, seq_exc, done_ret, done_next, done_exc, tr_ok, tr_exc, getI_some, getO_some, x_k, x_loc, x_glb, x_bin, x_neg, x_cmp, x_chain, x_and, x_or, x_not, x_ite, mkTu_0, mkTu_1, mkTu_2, mkTu_3, mkTu_4, mkLi_0, mkLi_1, mkLi_2, mkLi_3, mkLi_4, x_tup, x_lst, x_dct0, x_dct1, x_ix, x_sl, x_rev, r_tup, x_rgs, x_call, x_blt, st_self, st_exc, st_excA, x_gc, st_new, st_int, st_bl, st_str, x_att, x_met, metR_some, x_new, x_iso, x_calls, starR_tup, ok_only, s_fld, xi_enum, enumR_tup, xi_zip, zipR_tup, q_ret, q_next, q_brk, q_cnt, List.isEmpty_cons, List.isEmpty_nil, x_isi, x_mth, xs_nil, xs_cons, xo_none, intR_int, xo_some, xi_val, xi_rng, walkR_tup, walkR_str, x_lc, ts_nil, tsR_bl, ts_cons, pick_bl, s_nil, s_cons, rest_eq, s_expr, s_ret, s_retN, s_pass, s_brk, s_cnt, s_set, s_par, s_par3, s_sub, s_cond, s_whil, s_for, s_raise, s_try, cat_next, cat_ret, cat_brk, cat_cnt, s_aug, augR_some, aug_add, aug_sub, set_nm, ofO_some, set_tp, t_nil, t_nm, sT_nm, sT_tp, b_add, b_sub, n_int, c_lt, c_le, c_gt, c_ge, c_eq, c_ne, c_eqs, c_nes, c_eqb, i_tup, l_tup, f_abs, f_max, f_min, at0, at1, at2, settle_self, List.map_cons, List.map_nil, List.length_cons, List.length_nil, List.cons_append, List.nil_append, List.append_nil, List.getElem?_cons_zero, List.getElem?_cons_succ, List.set_cons_zero, List.set_cons_succ, List.replicate, Nat.sub_self, Nat.zero_add, Nat.reduceAdd, Nat.reduceSub, Nat.add_zero, iv, hI, Bool.false_eq_true, if_false, it, hT, Bool.not_true, en, hE, if_true, e2]
          exact ⟨_, _, rfl, x2, s2.mono (by omega), d, g, gd.mono (by omega) (by omega)⟩
        | false =>
          have z : ((0 : Nat) : Int) = 0 := rfl
          simp only [d_l_bent, bind_ok, bind_exc, thn_ok, thn_exc, seq_next, seq_ret, seq_brk, seq_cnt, seq_exc, done_ret, done_next, done_exc, tr_ok, tr_exc, getI_some, getO_some, x_k, x_loc, x_glb, x_bin, x_neg, x_cmp, x_chain, x_and, x_or, x_not, x_ite, mkTu_0, mkTu_1, mkTu_2, mkTu_3, mkTu_4, mkLi_0, mkLi_1, mkLi_2, mkLi_3, mkLi_4, x_tup, x_lst, x_dct0, x_dct1, x_ix, x_sl, x_rev, r_tup, x_rgs, x_call, x_blt, st_self, st_exc, st_excA, x_gc, st_new, st_int, st_bl, st_str, x_att, x_met, metR_some, x_new, x_iso, x_calls, starR_tup, ok_only, s_fld, xi_enum, enumR_tup, xi_zip, zipR_tup, q_ret, q_next, q_brk, q_cnt, List.isEmpty_cons, List.isEmpty_nil, x_isi, x_mth, xs_nil, xs_cons, xo_none, intR_int, xo_some, xi_val, xi_rng, walkR_tup, walkR_str, x_lc, ts_nil, tsR_bl, ts_cons, pick_bl, s_nil, s_cons, rest_eq, s_expr, s_ret, s_retN, s_pass, s_brk, s_cnt, s_set, s_par, s_par3, s_sub, s_cond, s_whil, s_for, s_raise, s_try, cat_next, cat_ret, cat_brk, cat_cnt, s_aug, augR_some, aug_add, aug_sub, set_nm, ofO_some, set_tp, t_nil, t_nm, sT_nm, sT_tp, b_add, b_sub, n_int, c_lt, c_le, c_gt, c_ge, c_eq, c_ne, c_eqs, c_nes, c_eqb, i_tup, l_tup, f_abs, f_max, f_min, at0, at1, at2, settle_self, List.map_cons, List.map_nil, List.length_cons, List.length_nil, List.cons_append, List.nil_append, List.append_nil, List.getElem?_cons_zero, List.getElem?_cons_succ, List.set_cons_zero, List.set_cons_succ, List.replicate, Nat.sub_self, Nat.zero_add, Nat.reduceAdd, Nat.reduceSub, Nat.add_zero, iv, hI, Bool.false_eq_true, if_false, it, hT, Bool.not_true, en, hE, z, decide_true, if_true, e2]
          exact ⟨_, _, rfl, x2, s2.mono (by omega), d, g, gd.mono (by omega) (by omega)⟩
  | succ e IH =>
    intro k v W D S t hv hw hd hW hD hs ht
    have ka : k + (e + 1) + 4 = (k + e + 1) + 4 := by omega
    rw [ka]
    cases hI : isInt v with
    | true =>
      obtain ⟨i, rfl⟩ : ∃ i, v = .int i := by cases v <;> simp [isInt] at hI; exact ⟨_, rfl⟩
      obtain ⟨u, S', a, b, c, d, g, gd⟩ := bent_int (k := k + e + 1) (e := e + 1) B (by simpa [okV] using hv) hs (by omega)
      refine ⟨u, S', a, b, c.mono (by omega), d, g, gd.mono ?_ (by omega)⟩
      exact Nat.le_add_left _ _
    | false =>
      rw [run_eq B.bent rfl]
      have iv := is_integer_run (k := k + e + 3) (S := S) B.int v (plain_ok hv)
      have it := isi_tup (S := S) (plain_ok hv)
      obtain ⟨u, S2, e2, x2, s2, d, g, gd⟩ := bent_odd (k := k + e + 1) B (Ext.rfl' (n := n) (S := S)) hs.lt hs (by omega)
      have w1 : 10000 ≤ 3 * W * (e + 1 + 1) + 40000 := Nat.le_trans (by decide) (Nat.le_add_left _ _)
      cases hT : isTupI v with
      | false =>
        simp only [d_l_bent, bind_ok, bind_exc, thn_ok, thn_exc, seq_next, seq_ret, seq_brk, seq_cnt, seq_exc, done_ret, done_next, done_exc, tr_ok, tr_exc, getI_some, getO_some, x_k, x_loc, x_glb, x_bin, x_neg, x_cmp, x_chain, x_and, x_or, x_not, x_ite, mkTu_0, mkTu_1, mkTu_2, mkTu_3, mkTu_4, mkLi_0, mkLi_1, mkLi_2, mkLi_3, mkLi_4, x_tup, x_lst, x_dct0, x_dct1, x_ix, x_sl, x_rev, r_tup, x_rgs, x_call, x_blt, st_self, st_exc, st_excA, x_gc, st_new, st_int, st_bl, st_str, x_att, x_met, metR_some, x_new, x_iso, x_calls, starR_tup, ok_only, s_fld, xi_enum, enumR_tup, xi_zip, zipR_tup, q_ret, q_next, q_brk, q_cnt, List.isEmpty_cons, List.isEmpty_nil, x_isi, x_mth, xs_nil, xs_cons, xo_none, intR_int, xo_some, xi_val, xi_rng, walkR_tup, walkR_str, x_lc, ts_nil, tsR_bl, ts_cons, pick_bl, s_nil, s_cons, rest_eq, s_expr, s_ret, s_retN, s_pass, s_brk, s_cnt, s_set, s_par, s_par3, s_sub, s_cond, s_whil, s_for, s_raise, s_try, cat_next, cat_ret, cat_brk, cat_cnt, s_aug, augR_some, aug_add, aug_sub, set_nm, ofO_some, set_tp, t_nil, t_nm, sT_nm, sT_tp, b_add, b_sub, n_int, c_lt, c_le, c_gt, c_ge, c_eq, c_ne, c_eqs, c_nes, c_eqb, i_tup, l_tup, f_abs, f_max, f_min, at0, at1, at2, settle_self, List.map_cons, List.map_nil, List.length_cons, List.length_nil, List.cons_append, List.nil_append, List.append_nil, List.getElem?_cons_zero, List.getElem?_cons_succ, List.set_cons_zero, List.set_cons_succ, List.replicate, Nat.sub_self, Nat.zero_add, Nat.reduceAdd, Nat.reduceSub, iv, hI, Bool.false_eq_true, if_false, it, hT, Bool.not_false, if_true, e2]
        exact ⟨_, _, rfl, x2, s2.mono (by omega), d, g, gd.mono w1 (by omega)⟩
      | true =>
        obtain ⟨xs, rfl⟩ : ∃ xs, v = .tup xs := by cases v <;> simp [isTupI] at hT; exact ⟨_, rfl⟩
        have hx : okVs xs = true := by simpa [okV] using hv
        simp only [dV, PyData.depth] at hd
        simp only [dV, wtD] at hw
        have en := eq_nil (S := S) hx (by omega)
        cases hE : xs.isEmpty with
        | true =>
          simp only [d_l_bent, bind_ok, bind_exc, thn_ok, thn_exc, seq_next, seq_ret, seq_brk, seq_cnt, seq_exc, done_ret, done_next, done_exc, tr_ok, tr_exc, getI_some, getO_some, x_k, x_loc, x_glb, x_bin, x_neg, x_cmp, x_chain, x_and, x_or, x_not, x_ite, mkTu_0, mkTu_1, mkTu_2, mkTu_3, mkTu_4, mkLi_0, mkLi_1, mkLi_2, mkLi_3, mkLi_4, x_tup, x_lst, x_dct0, x_dct1, x_ix, x_sl, x_rev, r_tup, x_rgs, x_call, x_blt, st_self, st_exc, st_excA, x_gc, st_new, st_int, st_bl, st_str, x_att, x_met, metR_some, x_new, x_iso, x_calls, starR_tup, ok_only, s_fld, xi_enum, enumR_tup, xi_zip, zipR_tup, q_ret, q_next, q_brk, q_cnt, List.isEmpty_cons, List.isEmpty_nil, x_isi, x_mth, xs_nil, xs_cons, xo_none, intR_int, xo_some, xi_val, xi_rng, walkR_tup, walkR_str, x_lc, ts_nil, tsR_bl, ts_cons, pick_bl, s_nil, s_cons, rest_eq, s_expr, s_ret, s_retN, s_pass, s_brk, s_cnt, s_set, s_par, s_par3, s_sub, s_cond, s_whil, s_for, s_raise, s_try, cat_next, cat_ret, cat_brk, cat_cnt, s_aug, augR_some, aug_add, aug_sub, set_nm, ofO_some, set_tp, t_nil, t_nm, sT_nm, sT_tp, b_add, b_sub, n_int, c_lt, c_le, c_gt, c_ge, c_eq, c_ne, c_eqs, c_nes, c_eqb, i_tup, l_tup, f_abs, f_max, f_min, at0, at1, at2, settle_self, List.map_cons, List.map_nil, List.length_cons, List.length_nil, List.cons_append, List.nil_append, List.append_nil, List.getElem?_cons_zero, List.getElem?_cons_succ, List.set_cons_zero, List.set_cons_succ, List.replicate, Nat.sub_self, Nat.zero_add, Nat.reduceAdd, Nat.reduceSub, iv, hI, Bool.false_eq_true, if_false, it, hT, Bool.not_true, en, hE, if_true, e2]
          exact ⟨_, _, rfl, x2, s2.mono (by omega), d, g, gd.mono w1 (by omega)⟩
        | false =>
          have hpos : 0 < xs.length := by cases xs <;> simp at hE ⊢
          have hlw := len_wt xs
          have z : ¬ ((e + 1 : Nat) : Int) = 0 := by omega
          obtain ⟨r1, S3, e3, p0, p1, s3, x3, l3⟩ := draw_new (pr := pr) (k := k + e + 3) B.draw hs (by omega) (m := (xs.length : Int)) (by omega) (by omega)
          obtain ⟨r2, S4, e4, q0, q1, s4, x4, l4⟩ := draw_new (pr := pr) (k := k + e + 3) B.draw s3 (by omega) (m := 9) (by decide) (by decide)
          have x34 := x3.trans x4
          obtain ⟨a, rfl⟩ : ∃ a : Nat, r1 = (a : Int) := ⟨r1.toNat, by omega⟩
          obtain ⟨w, rfl⟩ : ∃ a : Nat, r2 = (a : Int) := ⟨r2.toNat, by omega⟩
          have ha : a < xs.length := by omega
          have a1 : ((a : Int) + 1) = ((a + 1 : Nat) : Int) := by omega
          have c0 := wt_cut xs a
          have c1 := wt_cut xs (a + 1)
          have d0 := dp_cut xs a
          have d1 := dp_cut xs (a + 1)
          have sz : ∀ p q : List IV, p.length ≤ xs.length → q.length ≤ xs.length → szOk (p.length + q.length) = true := fun p q h1 h2 => by simp only [szOk, decide_eq_true_eq]; omega
          by_cases hw4 : (w : Int) < 4
          · -- the four ways
            obtain ⟨y, hy, ew⟩ : ∃ y, y ∈ four xs a S4.length ∧ atI (four xs a S4.length) (w : Int) = some y := by
              have hl : w < (four xs a S4.length).length := by show w < 4; omega
              exact ⟨_, List.getElem_mem hl, atI_nat (List.getElem?_eq_getElem hl)⟩
            have sz1 := sz (xs.take a) (xs.drop (a + 1)) (by simp; omega) (by simp)
            have sz2 := sz (xs.take (a + 1)) (xs.drop a) (by simp; omega) (by simp)
            have m4 : ∀ S : Sto, mkLi [.tup (xs.take a ++ xs.drop (a + 1)), .tup (xs.take (a + 1) ++ xs.drop a), .ref S4.length, .tup xs.reverse] S = .ok (.ref S.length) (S ++ [.lst (four xs a S4.length)]) := fun _ => rfl
            have hg : (S4 ++ [Cell.lst xs] ++ [Cell.lst (four xs a S4.length)])[(S4 ++ [Cell.lst xs]).length]? = some (.lst (four xs a S4.length)) := get_app0
            simp only [d_l_bent, bind_ok, bind_exc, thn_ok, thn_exc, seq_next, seq_ret, seq_brk, seq_cnt, seq_exc, done_ret, done_next, done_exc, tr_ok, tr_exc, getI_some, getO_some, x_k, x_loc, x_glb, x_bin, x_neg, x_cmp, x_chain, x_and, x_or, x_not, x_ite, mkTu_0, mkTu_1, mkTu_2, mkTu_3, mkTu_4, mkLi_0, mkLi_1, mkLi_2, mkLi_3, x_tup, x_lst, x_dct0, x_dct1, x_ix, x_sl, x_rev, r_tup, x_rgs, x_call, x_blt, st_self, st_exc, st_excA, x_gc, st_new, st_int, st_bl, st_str, x_att, x_met, metR_some, x_new, x_iso, x_calls, starR_tup, ok_only, s_fld, xi_enum, enumR_tup, xi_zip, zipR_tup, q_ret, q_next, q_brk, q_cnt, List.isEmpty_cons, List.isEmpty_nil, x_isi, x_mth, xs_nil, xs_cons, xo_none, intR_int, xo_some, xi_val, xi_rng, walkR_tup, walkR_str, x_lc, ts_nil, tsR_bl, ts_cons, pick_bl, s_nil, s_cons, rest_eq, s_expr, s_ret, s_retN, s_pass, s_brk, s_cnt, s_set, s_par, s_par3, s_sub, s_cond, s_whil, s_for, s_raise, s_try, cat_next, cat_ret, cat_brk, cat_cnt, s_aug, augR_some, aug_add, aug_sub, set_nm, ofO_some, set_tp, t_nil, t_nm, sT_nm, sT_tp, b_add, b_sub, n_int, c_lt, c_le, c_gt, c_ge, c_eq, c_ne, c_eqs, c_nes, c_eqb, i_tup, l_tup, f_abs, f_max, f_min, at0, at1, at2, settle_self, List.map_cons, List.map_nil, List.length_cons, List.length_nil, List.cons_append, List.nil_append, List.append_nil, List.getElem?_cons_zero, List.getElem?_cons_succ, List.set_cons_zero, List.set_cons_succ, List.replicate, Nat.sub_self, Nat.zero_add, Nat.reduceAdd, Nat.reduceSub, m4, i_lst hg, ew, iv, hI, Bool.false_eq_true, if_false, it, hT, Bool.not_true, en, hE, z, decide_false, e3, e4, hw4, decide_true, if_true, a1, sl_to (Nat.le_of_lt ha), sl_to (show a + 1 ≤ xs.length by omega), sl_from (Nat.le_of_lt ha), sl_from (show a + 1 ≤ xs.length by omega), b_tup sz1, b_tup sz2, f_list]
            have x5 : Ext n S (S4 ++ [Cell.lst xs] ++ [Cell.lst (four xs a S4.length)]) := (x34.trans .app).trans .app
            have s5 : Sup n (t + 2) (S4 ++ [Cell.lst xs] ++ [Cell.lst (four xs a S4.length)]) := s4.app.app
            have w2 : 2 * W + 3 ≤ 3 * W * (e + 1 + 1) + 40000 := by
              have : 3 * W * 1 ≤ 3 * W * (e + 1 + 1) := Nat.mul_le_mul_left _ (by omega)
              omega
            obtain ⟨d, g, gd⟩ : ∃ d, Gv S (S4 ++ [Cell.lst xs] ++ [Cell.lst (four xs a S4.length)]) y d ∧ Gd (2 * W + 3) (D + 4) d := by
              simp only [four, List.mem_cons, List.not_mem_nil, or_false] at hy
              rcases hy with rfl | rfl | rfl | rfl
              · refine gd_flat (okVs_append (okVs_take hx _) (okVs_drop hx _)) ?_ ?_
                · rw [dVs_map, List.map_append, wtDs_append, ← dVs_map, ← dVs_map]; omega
                · rw [dVs_map, List.map_append, depthAll_append, ← dVs_map, ← dVs_map]; omega
              · refine gd_flat (okVs_append (okVs_take hx _) (okVs_drop hx _)) ?_ ?_
                · rw [dVs_map, List.map_append, wtDs_append, ← dVs_map, ← dVs_map]; omega
                · rw [dVs_map, List.map_append, depthAll_append, ← dVs_map, ← dVs_map]; omega
              · have hl : S.length ≤ S4.length := x34.len
                have hg4 : (S4 ++ [Cell.lst xs] ++ [Cell.lst (four xs a S4.length)])[S4.length]? = some (.lst xs) := by rw [List.append_assoc]; exact get_app0
                refine ⟨.list (dVs xs), ⟨toD_lst (by rw [msk_get x34.len]; exact hg4) (goDs_flat _ _ (flatVs_ok xs hx)), .inr (by simp [IV.lt]; omega)⟩, ?_, ?_, ?_, ?_⟩
                · simp only [PyData.showable, shows_ok xs hx]
                · simp only [PyData.hasDict, noDs_ok xs hx]; rfl
                · simp only [wtD]; omega
                · simp only [PyData.depth]; omega
              · refine gd_flat (okVs_iff.mpr fun x q => okVs_iff.mp hx x (by simpa using q)) ?_ ?_
                · rw [wt_rev]; omega
                · rw [dp_rev]; omega
            exact ⟨_, _, rfl, x5.settle y, (s5.mono (by omega)).settle y x5.len hs.lt, d, g.settle, gd.mono w2 (by omega)⟩
          · -- deeper
            have hz : ((e + 1 : Nat) : Int) - 1 = (e : Int) := by omega
            have ex : atI xs (a : Int) = some xs[a] := atI_nat (List.getElem?_eq_getElem ha)
            have hxa : okV xs[a] = true := okVs_iff.mp hx _ (List.getElem_mem ha)
            have dc : xs.drop a = xs[a] :: xs.drop (a + 1) := List.drop_eq_getElem_cons ha
            rw [dc] at c0 d0
            simp only [dVs, wtDs, PyData.depthAll] at c0 d0
            obtain ⟨y, S5, e5, x5, s5, d, g, gd⟩ := IH k xs[a] W (D - 1) S4 (t + 2) hxa (by omega) (by omega) hW (by omega) s4 (by omega)
            have kb : k + e + 4 = k + e + 1 + 3 := by omega
            rw [kb] at e5
            have x6 := x34.trans x5
            have g' : Gv S S5 y d := ⟨g.less x34.len, g.new.imp id fun q => by
              cases hq : y.lt S.length with
              | false => rfl
              | true => rw [lt_mono y hq x34.len] at q; cases q⟩
            obtain ⟨d', g2, gd2⟩ := gd_tup (S := S) (S' := S5) (W := W) (D := D - 1 + 4 + e) (okVs_take hx a) (okVs_drop hx (a + 1)) (by omega) (by omega) (by omega) g' gd
            have sz1 := sz (xs.take a) [y] (by simp; omega) (by simp; omega)
            have sz2 : szOk ((xs.take a ++ [y]).length + (xs.drop (a + 1)).length) = true := by simp only [szOk, decide_eq_true_eq, List.length_append, List.length_take, List.length_drop, List.length_cons, List.length_nil]; omega
            simp only [d_l_bent, bind_ok, bind_exc, thn_ok, thn_exc, seq_next, seq_ret, seq_brk, seq_cnt, seq_exc, done_ret, done_next, done_exc, tr_ok, tr_exc, getI_some, getO_some, x_k, x_loc, x_glb, x_bin, x_neg, x_cmp, x_chain, x_and, x_or, x_not, x_ite, mkTu_0, mkTu_1, mkTu_2, mkTu_3, mkTu_4, mkLi_0, mkLi_1, mkLi_2, mkLi_3, mkLi_4, x_tup, x_lst, x_dct0, x_dct1, x_ix, x_sl, x_rev, r_tup, x_rgs, x_call, x_blt, st_self, st_exc, st_excA, x_gc, st_new, st_int, st_bl, st_str, x_att, x_met, metR_some, x_new, x_iso, x_calls, starR_tup, ok_only, s_fld, xi_enum, enumR_tup, xi_zip, zipR_tup, q_ret, q_next, q_brk, q_cnt, List.isEmpty_cons, List.isEmpty_nil, x_isi, x_mth, xs_nil, xs_cons, xo_none, intR_int, xo_some, xi_val, xi_rng, walkR_tup, walkR_str, x_lc, ts_nil, tsR_bl, ts_cons, pick_bl, s_nil, s_cons, rest_eq, s_expr, s_ret, s_retN, s_pass, s_brk, s_cnt, s_set, s_par, s_par3, s_sub, s_cond, s_whil, s_for, s_raise, s_try, cat_next, cat_ret, cat_brk, cat_cnt, s_aug, augR_some, aug_add, aug_sub, set_nm, ofO_some, set_tp, t_nil, t_nm, sT_nm, sT_tp, b_add, b_sub, n_int, c_lt, c_le, c_gt, c_ge, c_eq, c_ne, c_eqs, c_nes, c_eqb, i_tup, l_tup, f_abs, f_max, f_min, at0, at1, at2, settle_self, List.map_cons, List.map_nil, List.length_cons, List.length_nil, List.cons_append, List.nil_append, List.append_nil, List.getElem?_cons_zero, List.getElem?_cons_succ, List.set_cons_zero, List.set_cons_succ, List.replicate, Nat.sub_self, Nat.zero_add, Nat.reduceAdd, Nat.reduceSub, iv, hI, Bool.false_eq_true, if_false, it, hT, Bool.not_true, en, hE, z, decide_false, e3, e4, hw4, a1, sl_to (Nat.le_of_lt ha), sl_from (show a + 1 ≤ xs.length by omega), ex, hz, e5, b_tup sz1, b_tup sz2]
            refine ⟨_, _, rfl, x6.settle _, (s5.mono (by omega)).settle _ x6.len hs.lt, d', g2.settle, gd2.mono ?_ (by omega)⟩
            have h3 : 3 ≤ W := Nat.le_trans (Nat.le_add_left 3 _) hw
            rw [show 3 * W * (e + 1 + 1) = 3 * W * (e + 1) + 3 * W from by rw [Nat.mul_add (3 * W) (e + 1) 1, Nat.mul_one]]
            exact bent_sum h3
end
end Wg
/-! WhC: fractions. -/
namespace Wg
open PySem L2
def d_is_valid_fraction : PD := ⟨1, 1, [
    .cond (.or (.not (.isi (.loc 0) .tuple)) (.cmp .ne (.blt .len [(.loc 0)]) (.k (.int 2)))) [
      .ret (.k (.bl false))] [],
    .cond (.or (.not (.call "is_integer" [(.ix (.loc 0) (.k (.int 0)))])) (.or (.not (.call "is_integer" [(.ix (.loc 0) (.k (.int 1)))])) (.cmp .lt (.ix (.loc 0) (.k (.int 1))) (.k (.int 1))))) [
      .ret (.k (.bl false))] [],
    .ret (.cmp .eq (.call "greatest_divisor" [(.ix (.loc 0) (.k (.int 0))), (.ix (.loc 0) (.k (.int 1)))]) (.k (.int 1)))]⟩
def validF : IV → Bool
  | .tup [.int a, .int b] => decide (1 ≤ b) && decide (Int.gcd a b = 1)
  | _ => false
section
variable {pr : Prg} {k : Nat} {S : Sto} {f : Str}
theorem plain_ref {n : Nat} {d : PyData} (h : goD (refs 6 S) (.ref n) = some d) : plainV S (.ref n) := by
  have e : goD (refs 6 S) (.ref n) = refD (goD (refs 5 S)) (goDs (refs 5 S)) S n := rfl
  rw [e] at h
  generalize goD (refs 5 S) = g at *
  generalize goDs (refs 5 S) = gs at *
  unfold refD at h
  cases q : S[n]? with
  | none => rw [q] at h; simp at h
  | some c =>
    cases c with
    | ins _ _ => rw [q] at h; simp at h
    | lst _ => exact ⟨_, q, rfl⟩
    | frz _ => exact ⟨_, q, rfl⟩
    | dct _ => exact ⟨_, q, rfl⟩
theorem plain_goD {x : IV} {d : PyData} (h : goD (refs 6 S) x = some d) : plainV S x := by
  cases x with
  | ref n => exact plain_ref h
  | cls c => simp [goD] at h
  | _ => trivial
theorem plain_tup {xs : List IV} {d : PyData} (h : toD S (.tup xs) = some d) : ∀ x ∈ xs, plainV S x := by
  have key : ∀ (xs : List IV) (ds : List PyData), goDs (refs 6 S) xs = some ds → ∀ x ∈ xs, plainV S x := by
    intro xs
    induction xs with
    | nil => intro ds _ x hx; cases hx
    | cons y ys ih =>
      intro ds h x hx
      simp only [goDs] at h
      cases e1 : goD (refs 6 S) y with
      | none => rw [e1] at h; simp at h
      | some dy =>
        rw [e1] at h
        cases e2 : goDs (refs 6 S) ys with
        | none => rw [e2] at h; simp at h
        | some dys =>
          rcases List.mem_cons.mp hx with rfl | hx
          · exact plain_goD e1
          · exact ih dys e2 x hx
  simp only [toD, goD] at h
  cases e : goDs (refs 6 S) xs with
  | none => rw [e] at h; simp at h
  | some ds => exact key xs ds e
end
end Wg
/-! WhD: labels. -/
namespace Wg
open PySem L2
def lb_is_valid_labels_1 : List Sm := [
      .cond (.or (.not (.call "is_integer" [(.loc 2)])) (.not (.chain .le .le (.k (.int 0)) (.loc 2) (.loc 1)))) [
        .ret (.k (.bl false))] [],
      .cond (.cmp .eq (.loc 2) (.loc 1)) [
        .aug 1 .add (.k (.int 1))] []]
def d_is_valid_labels : PD := ⟨1, 3, [
    .cond (.or (.not (.isi (.loc 0) .tuple)) (.not (.chain .le .le (.k (.int 1)) (.blt .len [(.loc 0)]) (.glb "MOST_CASES")))) [
      .ret (.k (.bl false))] [],
    .set (.nm 1) (.k (.int 0)),
    .for (.nm 2) (.val (.loc 0)) lb_is_valid_labels_1,
    .ret (.k (.bl true))]⟩
def lb_l_labels_1 : List Sm := [
      .expr (.mth "append" (.loc 3) [(.call "_law_draw" [(.loc 0), (.blt .min [(.bin .add (.blt .max [(.loc 3)]) (.k (.int 2))), (.loc 2)])])])]
def d_l_labels : PD := ⟨3, 4, [
    .set (.nm 3) (.lst [(.k (.int 0))]),
    .whil (.cmp .lt (.blt .len [(.loc 3)]) (.loc 1)) lb_l_labels_1,
    .ret (.blt .tuple [(.loc 3)])]⟩
def lb_l_canonical_1 : List Sm := [
      .cond (.cmp .notin (.loc 3) (.loc 1)) [
        .expr (.mth "append" (.loc 1) [(.loc 3)])] [],
      .expr (.mth "append" (.loc 2) [(.mth "index" (.loc 1) [(.loc 3)])])]
def d_l_canonical : PD := ⟨1, 4, [
    .par 1 2 (.lst []) (.lst []),
    .for (.nm 3) (.val (.loc 0)) lb_l_canonical_1,
    .ret (.blt .tuple [(.loc 2)])]⟩
def d_l_is_labels : PD := ⟨1, 2, [
    .cond (.or (.not (.isi (.loc 0) .tuple)) (.or (.not (.chain .le .le (.k (.int 1)) (.blt .len [(.loc 0)]) (.k (.int 12)))) (.not (.blt .all [(.lc [1] (.nm 1) (.val (.loc 0)) [] (.call "_law_is_integer" [(.loc 1)]))])))) [
      .ret (.k (.bl false))] [],
    .ret (.cmp .eq (.call "_law_canonical" [(.loc 0)]) (.loc 0))]⟩
/-- each label is at most the least that is unused -/
def goodL : List Int → Int → Bool
  | [], _ => true
  | x :: xs, u => decide (0 ≤ x) && decide (x ≤ u) && goodL xs (if x = u then u + 1 else u)
/-! ### canonical -/
def idxI (x : Int) (l : List Int) : Nat := l.findIdx (fun z => decide (z = x))
def seenF (seen : List Int) (x : Int) : List Int := if x ∈ seen then seen else seen ++ [x]
def canF : List Int → List Int → List Int → List Int × List Int
  | [], seen, found => (seen, found)
  | x :: xs, seen, found => canF xs (seenF seen x) (found ++ [((idxI x (seenF seen x) : Nat) : Int)])
def upto (u : Nat) : List Int := (List.range u).map fun i : Nat => ((i : Nat) : Int)
theorem mem_upto {u : Nat} {x : Int} : x ∈ upto u ↔ 0 ≤ x ∧ x < u := by
  simp only [upto, List.mem_map, List.mem_range]
  exact ⟨fun ⟨a, h, e⟩ => by omega, fun h => ⟨x.toNat, by omega, by omega⟩⟩
theorem upto_succ (u : Nat) : upto (u + 1) = upto u ++ [(u : Int)] := by simp [upto, List.range_succ]
theorem idx_upto : ∀ {u i : Nat}, i < u → idxI (i : Int) (upto u) = i := by
  intro u i h
  unfold idxI
  refine (List.findIdx_eq (by simpa [upto] using h)).mpr ⟨by simp [upto], fun j hj => ?_⟩
  simp [upto]; omega
theorem canF_pre : ∀ (xs seen found : List Int), ∃ r, (canF xs seen found).2 = found ++ r ∧ r.length = xs.length
  | [], seen, found => ⟨[], by simp [canF]⟩
  | x :: xs, seen, found => by
    obtain ⟨r, e, l⟩ := canF_pre xs (seenF seen x) (found ++ [((idxI x (seenF seen x) : Nat) : Int)])
    exact ⟨((idxI x (seenF seen x) : Nat) : Int) :: r, by simp only [canF]; rw [e]; simp, by simp [l]⟩
theorem canF_good : ∀ (xs : List Int) (u : Nat) (p : List Int), ((canF xs (upto u) p).2 = p ++ xs) ↔ goodL xs u = true
  | [], u, p => by simp [canF, goodL]
  | x :: xs, u, p => by
    by_cases h0 : 0 ≤ x ∧ x < u
    · obtain ⟨i, rfl⟩ : ∃ i : Nat, x = (i : Int) := ⟨x.toNat, by omega⟩
      have hm : ((i : Int)) ∈ upto u := mem_upto.mpr h0
      have hs : seenF (upto u) (i : Int) = upto u := by simp [seenF, hm]
      have hi : i < u := by omega
      have ih := canF_good xs u (p ++ [(i : Int)])
      simp only [canF, hs, idx_upto hi, goodL]
      rw [show p ++ (i : Int) :: xs = p ++ [(i : Int)] ++ xs by simp, ih]
      have : ¬ (i : Int) = (u : Int) := by omega
      simp [this]; omega
    · have hm : x ∉ upto u := fun h => h0 (mem_upto.mp h)
      have hs : seenF (upto u) x = upto u ++ [x] := by simp [seenF, hm]
      have hidx : idxI x (upto u ++ [x]) = u := by
        unfold idxI
        refine (List.findIdx_eq (by simp [upto])).mpr ⟨by simp [upto], fun j hj => ?_⟩
        have hj' : j < (upto u).length := by simpa [upto] using hj
        rw [List.getElem_append_left hj']
        have : (upto u)[j] ∈ upto u := List.getElem_mem hj'
        simp only [decide_eq_false_iff_not]
        intro z; rw [z] at this; exact hm this
      simp only [canF, hs, hidx, goodL]
      by_cases hu : x = (u : Int)
      · subst hu
        have ih := canF_good xs (u + 1) (p ++ [(u : Int)])
        rw [← upto_succ, show p ++ (u : Int) :: xs = p ++ [(u : Int)] ++ xs by simp, ih]
        simp
      · have hbad : ¬ (0 ≤ x ∧ x ≤ u) := by omega
        obtain ⟨r, e, l⟩ := canF_pre xs (upto u ++ [x]) (p ++ [(u : Int)])
        rw [e]
        constructor
        · intro z
          have z2 : (u : Int) :: r = x :: xs := by
            have : p ++ ((u : Int) :: r) = p ++ (x :: xs) := by simpa using z
            exact List.append_cancel_left this
          cases z2; exact absurd rfl hu
        · intro z
          simp only [Bool.and_eq_true, decide_eq_true_eq] at z
          exact absurd z.1 hbad
section
variable {pr : Prg} {k : Nat} {S : Sto} {f : Str}
theorem set_app0 {c0 c1 c : Cell} : (S ++ [c0, c1]).set S.length c = S ++ [c, c1] := by
  rw [List.set_append_right _ _ (Nat.le_refl _), Nat.sub_self]; rfl
theorem set_app1 {c0 c1 c : Cell} : (S ++ [c0, c1]).set (S.length + 1) c = S ++ [c0, c] := by
  rw [List.set_append_right _ _ (by omega), Nat.add_sub_cancel_left]; rfl
theorem set_app {c0 c : Cell} : (S ++ [c0]).set S.length c = S ++ [c] := by
  rw [List.set_append_right _ _ (Nat.le_refl _), Nat.sub_self]; rfl
theorem rcv_lst {n : Nat} {xs : List IV} (h : S[n]? = some (.lst xs)) : rcvI (.ref n) S = true := by simp only [rcvI, h]
theorem app_lst {n : Nat} {xs : List IV} {y : IV} (h : S[n]? = some (.lst xs)) (hl : xs.length < 1000000) : mthI "append" (.ref n) [y] S = .ok .non (S.set n (.lst (xs ++ [y]))) := by
  have hz : szOk (xs.length + 1) = true := by simp only [szOk, decide_eq_true_eq]; omega
  simp only [mthI, h, hz, if_true]
theorem eqF_int {y x : Int} : eqF (.int y) (.int x) = decide (y = x) := by
  by_cases e : y = x <;> simp [eqF, e]
theorem flat_ints (l : List Int) : (l.map IV.int).all flatI = true := by simp [flatI]
theorem idx_lst {n : Nat} {l : List Int} {x : Int} (h : S[n]? = some (.lst (l.map .int))) (hx : x ∈ l) : mthI "index" (.ref n) [.int x] S = .ok (.int ((idxI x l : Nat) : Int)) S := by
  have e : (l.map IV.int).findIdx? (fun z => eqF z (.int x)) = some (idxI x l) := by
    have q : ∀ l : List Int, (l.map IV.int).findIdx (fun z => eqF z (.int x)) = idxI x l := by
      intro l
      unfold idxI
      induction l with
      | nil => rfl
      | cons y l ih =>
        simp only [List.map_cons, List.findIdx_cons, eqF_int, ih]
    have hlt : idxI x l < l.length := by
      unfold idxI
      exact List.findIdx_lt_length_of_exists ⟨x, hx, by simp⟩
    rw [← q l] at hlt ⊢
    have := List.findIdx?_eq_some_of_exists (xs := l.map IV.int) (p := fun z => eqF z (.int x)) ⟨.int x, by simpa using hx, by simp [eqF_int]⟩
    exact this
  have n1 : ¬ (Str.ofString "index" = Str.ofString "append") := by decide
  simp only [mthI, h, n1, if_false, if_true, flat_ints, flatI, Bool.and_self, e]
theorem notin_ints {n : Nat} {l : List Int} {x : Int} (h : S[n]? = some (.lst (l.map .int))) : cmpI .notin (.int x) (.ref n) S = .ok (.bl (!decide (x ∈ l))) S := by
  have e : ∀ l : List Int, ((l.map IV.int).any fun z => eqF z (.int x)) = decide (x ∈ l) := by
    intro l
    induction l with
    | nil => rfl
    | cons y l ih =>
      rw [List.map_cons, List.any_cons, ih, eqF_int]
      by_cases e : y = x
      · subst e; simp
      · have e2 : ¬ x = y := fun z => e z.symm
        simp [e, e2]
  simp only [cmpI, inI, itemsI, h, flatI, flat_ints, Bool.and_self, if_true, e, boolN]
theorem seen_len (seen : List Int) (x : Int) : (seenF seen x).length ≤ seen.length + 1 := by unfold seenF; split <;> simp
theorem seen_mem (seen : List Int) (x : Int) : x ∈ seenF seen x := by
  unfold seenF
  split
  · assumption
  · simp
theorem canon_loop {held : Option (Nat × Cell)} (hh : ∀ a b : Cell, holds held (S ++ [a, b]) = true) : ∀ (xs seen found : List Int) (v0 : Option IV) (o3 : Option IV), seen.length + xs.length ≤ 1000 → found.length + xs.length ≤ 1000 → ∃ o3', forGo (evSs (gam pr k) pr.sub lb_l_canonical_1) (.nm 3) held (xs.map .int) [v0, some (.ref S.length), some (.ref (S.length + 1)), o3] (S ++ [.lst (seen.map .int), .lst (found.map .int)]) =
    .next [v0, some (.ref S.length), some (.ref (S.length + 1)), o3'] (S ++ [.lst ((canF xs seen found).1.map .int), .lst ((canF xs seen found).2.map .int)])
  | [], seen, found, v0, o3, _, _ => ⟨o3, by simp [forGo, hh, canF]⟩
  | x :: xs, seen, found, v0, o3, h1, h2 => by
    simp only [List.length_cons] at h1 h2
    have hl := seen_len seen x
    obtain ⟨o3', e⟩ := canon_loop hh xs (seenF seen x) (found ++ [((idxI x (seenF seen x) : Nat) : Int)]) v0 (some (.int x)) (by omega) (by simp; omega)
    refine ⟨o3', ?_⟩
    have g0 : (S ++ [Cell.lst (seen.map .int), Cell.lst (found.map .int)])[S.length]? = some (.lst (seen.map .int)) := get_app0
    have g1 : (S ++ [Cell.lst ((seenF seen x).map .int), Cell.lst (found.map .int)])[S.length]? = some (.lst ((seenF seen x).map .int)) := get_app0
    have g2 : (S ++ [Cell.lst ((seenF seen x).map .int), Cell.lst (found.map .int)])[S.length + 1]? = some (.lst (found.map .int)) := get_app
    have body : evSs (gam pr k) pr.sub lb_l_canonical_1 [v0, some (.ref S.length), some (.ref (S.length + 1)), some (.int x)] (S ++ [.lst (seen.map .int), .lst (found.map .int)]) =
        .next [v0, some (.ref S.length), some (.ref (S.length + 1)), some (.int x)] (S ++ [.lst ((seenF seen x).map .int), .lst ((found ++ [((idxI x (seenF seen x) : Nat) : Int)]).map .int)]) := by
      have tail : evS (gam pr k) pr.sub (.expr (.mth "append" (.loc 2) [(.mth "index" (.loc 1) [(.loc 3)])])) [v0, some (.ref S.length), some (.ref (S.length + 1)), some (.int x)] (S ++ [.lst ((seenF seen x).map .int), .lst (found.map .int)]) =
          .next [v0, some (.ref S.length), some (.ref (S.length + 1)), some (.int x)] (S ++ [.lst ((seenF seen x).map .int), .lst ((found ++ [((idxI x (seenF seen x) : Nat) : Int)]).map .int)]) := by
        simp only [bind_ok, bind_exc, thn_ok, thn_exc, seq_next, seq_ret, seq_brk, seq_cnt, seq_exc, done_ret, done_next, done_exc, tr_ok, tr_exc, getI_some, getO_some, x_k, x_loc, x_glb, x_bin, x_neg, x_cmp, x_chain, x_and, x_or, x_not, x_ite, mkTu_0, mkTu_1, mkTu_2, mkTu_3, mkTu_4, mkLi_0, mkLi_1, mkLi_2, mkLi_3, mkLi_4, x_tup, x_lst, x_dct0, x_dct1, x_ix, x_sl, x_rev, r_tup, x_rgs, x_call, x_blt, st_self, st_exc, st_excA, x_gc, st_new, st_int, st_bl, st_str, x_att, x_met, metR_some, x_new, x_iso, x_calls, starR_tup, ok_only, s_fld, xi_enum, enumR_tup, xi_zip, zipR_tup, q_ret, q_next, q_brk, q_cnt, List.isEmpty_cons, List.isEmpty_nil, x_isi, x_mth, xs_nil, xs_cons, xo_none, intR_int, xo_some, xi_val, xi_rng, walkR_tup, walkR_str, x_lc, ts_nil, tsR_bl, ts_cons, pick_bl, s_nil, s_cons, rest_eq, s_expr, s_ret, s_retN, s_pass, s_brk, s_cnt, s_set, s_par, s_par3, s_sub, s_cond, s_whil, s_for, s_raise, s_try, cat_next, cat_ret, cat_brk, cat_cnt, s_aug, augR_some, aug_add, aug_sub, set_nm, ofO_some, set_tp, t_nil, t_nm, sT_nm, sT_tp, b_add, b_sub, n_int, c_lt, c_le, c_gt, c_ge, c_eq, c_ne, c_eqs, c_nes, c_eqb, i_tup, l_tup, f_abs, f_max, f_min, at0, at1, at2, settle_self, List.map_cons, List.map_nil, List.length_cons, List.length_nil, List.cons_append, List.nil_append, List.append_nil, List.getElem?_cons_zero, List.getElem?_cons_succ, List.set_cons_zero, List.set_cons_succ, List.replicate, Nat.sub_self, Nat.zero_add, Nat.reduceAdd, Nat.reduceSub, rcv_lst g2, rcv_lst g1, if_true, idx_lst g1 (seen_mem seen x), app_lst g2 (show (found.map IV.int).length < 1000000 by simp; omega), set_app1, List.map_append]
      have first : evS (gam pr k) pr.sub (.cond (.cmp .notin (.loc 3) (.loc 1)) [.expr (.mth "append" (.loc 1) [(.loc 3)])] []) [v0, some (.ref S.length), some (.ref (S.length + 1)), some (.int x)] (S ++ [.lst (seen.map .int), .lst (found.map .int)]) =
          .next [v0, some (.ref S.length), some (.ref (S.length + 1)), some (.int x)] (S ++ [.lst ((seenF seen x).map .int), .lst (found.map .int)]) := by
        by_cases hm : x ∈ seen
        · have hs : seenF seen x = seen := if_pos hm
          simp only [bind_ok, bind_exc, thn_ok, thn_exc, seq_next, seq_ret, seq_brk, seq_cnt, seq_exc, done_ret, done_next, done_exc, tr_ok, tr_exc, getI_some, getO_some, x_k, x_loc, x_glb, x_bin, x_neg, x_cmp, x_chain, x_and, x_or, x_not, x_ite, mkTu_0, mkTu_1, mkTu_2, mkTu_3, mkTu_4, mkLi_0, mkLi_1, mkLi_2, mkLi_3, mkLi_4, x_tup, x_lst, x_dct0, x_dct1, x_ix, x_sl, x_rev, r_tup, x_rgs, x_call, x_blt, st_self, st_exc, st_excA, x_gc, st_new, st_int, st_bl, st_str, x_att, x_met, metR_some, x_new, x_iso, x_calls, starR_tup, ok_only, s_fld, xi_enum, enumR_tup, xi_zip, zipR_tup, q_ret, q_next, q_brk, q_cnt, List.isEmpty_cons, List.isEmpty_nil, x_isi, x_mth, xs_nil, xs_cons, xo_none, intR_int, xo_some, xi_val, xi_rng, walkR_tup, walkR_str, x_lc, ts_nil, tsR_bl, ts_cons, pick_bl, s_nil, s_cons, rest_eq, s_expr, s_ret, s_retN, s_pass, s_brk, s_cnt, s_set, s_par, s_par3, s_sub, s_cond, s_whil, s_for, s_raise, s_try, cat_next, cat_ret, cat_brk, cat_cnt, s_aug, augR_some, aug_add, aug_sub, set_nm, ofO_some, set_tp, t_nil, t_nm, sT_nm, sT_tp, b_add, b_sub, n_int, c_lt, c_le, c_gt, c_ge, c_eq, c_ne, c_eqs, c_nes, c_eqb, i_tup, l_tup, f_abs, f_max, f_min, at0, at1, at2, settle_self, List.map_cons, List.map_nil, List.length_cons, List.length_nil, List.cons_append, List.nil_append, List.append_nil, List.getElem?_cons_zero, List.getElem?_cons_succ, List.set_cons_zero, List.set_cons_succ, List.replicate, Nat.sub_self, Nat.zero_add, Nat.reduceAdd, Nat.reduceSub, notin_ints g0, hm, decide_true, Bool.not_true, Bool.false_eq_true, if_false, hs]
        · have hs : seenF seen x = seen ++ [x] := if_neg hm
          simp only [bind_ok, bind_exc, thn_ok, thn_exc, seq_next, seq_ret, seq_brk, seq_cnt, seq_exc, done_ret, done_next, done_exc, tr_ok, tr_exc, getI_some, getO_some, x_k, x_loc, x_glb, x_bin, x_neg, x_cmp, x_chain, x_and, x_or, x_not, x_ite, mkTu_0, mkTu_1, mkTu_2, mkTu_3, mkTu_4, mkLi_0, mkLi_1, mkLi_2, mkLi_3, mkLi_4, x_tup, x_lst, x_dct0, x_dct1, x_ix, x_sl, x_rev, r_tup, x_rgs, x_call, x_blt, st_self, st_exc, st_excA, x_gc, st_new, st_int, st_bl, st_str, x_att, x_met, metR_some, x_new, x_iso, x_calls, starR_tup, ok_only, s_fld, xi_enum, enumR_tup, xi_zip, zipR_tup, q_ret, q_next, q_brk, q_cnt, List.isEmpty_cons, List.isEmpty_nil, x_isi, x_mth, xs_nil, xs_cons, xo_none, intR_int, xo_some, xi_val, xi_rng, walkR_tup, walkR_str, x_lc, ts_nil, tsR_bl, ts_cons, pick_bl, s_nil, s_cons, rest_eq, s_expr, s_ret, s_retN, s_pass, s_brk, s_cnt, s_set, s_par, s_par3, s_sub, s_cond, s_whil, s_for, s_raise, s_try, cat_next, cat_ret, cat_brk, cat_cnt, s_aug, augR_some, aug_add, aug_sub, set_nm, ofO_some, set_tp, t_nil, t_nm, sT_nm, sT_tp, b_add, b_sub, n_int, c_lt, c_le, c_gt, c_ge, c_eq, c_ne, c_eqs, c_nes, c_eqb, i_tup, l_tup, f_abs, f_max, f_min, at0, at1, at2, settle_self, List.map_cons, List.map_nil, List.length_cons, List.length_nil, List.cons_append, List.nil_append, List.append_nil, List.getElem?_cons_zero, List.getElem?_cons_succ, List.set_cons_zero, List.set_cons_succ, List.replicate, Nat.sub_self, Nat.zero_add, Nat.reduceAdd, Nat.reduceSub, notin_ints g0, hm, decide_false, Bool.not_false, if_true, rcv_lst g0, app_lst g0 (show (seen.map IV.int).length < 1000000 by simp; omega), set_app0, hs, List.map_append]
      unfold lb_l_canonical_1
      rw [s_cons, first, seq_next, rest_eq, s_cons, tail, seq_next, rest_eq, s_nil]
    simp only [List.map_cons, forGo, hh, if_true, sT_nm, List.set_cons_zero, List.set_cons_succ, body, canF]
    exact e
theorem lt_ints (l : List Int) (m : Nat) : (IV.tup (l.map .int)).lt m = true := by
  simp only [IV.lt]
  induction l with
  | nil => simp [ltAll]
  | cons y l ih => simp [ltAll, IV.lt, ih]
theorem t_lst {n : Nat} {xs : List IV} (h : S[n]? = some (.lst xs)) : bltI .tuple [.ref n] S = .ok (.tup xs) S := by simp only [bltI, itemsI, h]
theorem canon_run (h : Has pr f d_l_canonical) {xs : List Int} (hl : xs.length ≤ 1000) : run pr (k + 1) f [.tup (xs.map .int)] S = .ok (.tup ((canF xs [] []).2.map .int)) S := by
  rw [run_eq h rfl]
  obtain ⟨o3', e⟩ := canon_loop (pr := pr) (k := k) (S := S) (held := none) (fun _ _ => rfl) xs [] [] (some (.tup (xs.map .int))) none (by simpa using hl) (by simpa using hl)
  simp only [List.map_nil] at e
  have g1 : (S ++ [Cell.lst ((canF xs [] []).1.map .int), Cell.lst ((canF xs [] []).2.map .int)])[S.length + 1]? = some (.lst ((canF xs [] []).2.map .int)) := get_app
  simp only [d_l_canonical, bind_ok, bind_exc, thn_ok, thn_exc, seq_next, seq_ret, seq_brk, seq_cnt, seq_exc, done_ret, done_next, done_exc, tr_ok, tr_exc, getI_some, getO_some, x_k, x_loc, x_glb, x_bin, x_neg, x_cmp, x_chain, x_and, x_or, x_not, x_ite, mkTu_0, mkTu_1, mkTu_2, mkTu_3, mkTu_4, mkLi_0, mkLi_1, mkLi_2, mkLi_3, mkLi_4, x_tup, x_lst, x_dct0, x_dct1, x_ix, x_sl, x_rev, r_tup, x_rgs, x_call, x_blt, st_self, st_exc, st_excA, x_gc, st_new, st_int, st_bl, st_str, x_att, x_met, metR_some, x_new, x_iso, x_calls, starR_tup, ok_only, s_fld, xi_enum, enumR_tup, xi_zip, zipR_tup, q_ret, q_next, q_brk, q_cnt, List.isEmpty_cons, List.isEmpty_nil, x_isi, x_mth, xs_nil, xs_cons, xo_none, intR_int, xo_some, xi_val, xi_rng, walkR_tup, walkR_str, x_lc, ts_nil, tsR_bl, ts_cons, pick_bl, s_nil, s_cons, rest_eq, s_expr, s_ret, s_retN, s_pass, s_brk, s_cnt, s_set, s_par, s_par3, s_sub, s_cond, s_whil, s_for, s_raise, s_try, cat_next, cat_ret, cat_brk, cat_cnt, s_aug, augR_some, aug_add, aug_sub, set_nm, ofO_some, set_tp, t_nil, t_nm, sT_nm, sT_tp, b_add, b_sub, n_int, c_lt, c_le, c_gt, c_ge, c_eq, c_ne, c_eqs, c_nes, c_eqb, i_tup, l_tup, f_abs, f_max, f_min, at0, at1, at2, settle_self, List.map_cons, List.map_nil, List.length_cons, List.length_nil, List.cons_append, List.nil_append, List.append_nil, List.getElem?_cons_zero, List.getElem?_cons_succ, List.set_cons_zero, List.set_cons_succ, List.replicate, Nat.sub_self, Nat.zero_add, Nat.reduceAdd, Nat.reduceSub, List.length_append, List.append_assoc, e, t_lst g1]
  rw [settle_append (lt_ints _ _)]
/-! ### valid labels -/
def goodV : List IV → Int → Bool
  | [], _ => true
  | .int x :: xs, u => decide (0 ≤ x) && decide (x ≤ u) && goodV xs (if x = u then u + 1 else u)
  | _ :: _, _ => false
def validLab : IV → Bool
  | .tup xs => decide (1 ≤ xs.length) && decide (xs.length ≤ 12) && goodV xs 0
  | _ => false
theorem goodV_ints : ∀ (l : List Int) (u : Int), goodV (l.map .int) u = goodL l u
  | [], _ => rfl
  | x :: l, u => by simp only [List.map_cons, goodV, goodL, goodV_ints l]
theorem goodV_form : ∀ (xs : List IV) (u : Int), goodV xs u = true → ∃ l : List Int, xs = l.map .int
  | [], _, _ => ⟨[], rfl⟩
  | .int x :: xs, u, h => by
    simp only [goodV, Bool.and_eq_true] at h
    obtain ⟨l, rfl⟩ := goodV_form xs _ h.2
    exact ⟨x :: l, rfl⟩
  | .non :: _, _, h => by simp [goodV] at h
  | .bl _ :: _, _, h => by simp [goodV] at h
  | .str _ :: _, _, h => by simp [goodV] at h
  | .tup _ :: _, _, h => by simp [goodV] at h
  | .ref _ :: _, _, h => by simp [goodV] at h
  | .cls _ :: _, _, h => by simp [goodV] at h
theorem goodV_not {x : IV} {xs : List IV} {u : Int} (h : isInt x = false) : goodV (x :: xs) u = false := by cases x <;> simp [isInt] at h <;> rfl
theorem valid_loop (hi : Has pr "is_integer" d_is_integer) : ∀ (xs : List IV) (u : Int) (v0 o2 : Option IV), (∀ x ∈ xs, plainV S x) →
    (goodV xs u = true → ∃ τ', forGo (evSs (gam pr (k + 1)) pr.sub lb_is_valid_labels_1) (.nm 2) none xs [v0, some (.int u), o2] S = .next τ' S) ∧
    (goodV xs u = false → forGo (evSs (gam pr (k + 1)) pr.sub lb_is_valid_labels_1) (.nm 2) none xs [v0, some (.int u), o2] S = .ret (.bl false) S)
  | [], u, v0, o2, _ => ⟨fun _ => ⟨[v0, some (.int u), o2], by simp only [forGo, holds, if_true]⟩, fun h => by simp [goodV] at h⟩
  | x :: xs, u, v0, o2, hp => by
    have ix := is_integer_run (k := k) (S := S) hi x (hp x (by simp))
    cases hx : isInt x with
    | false =>
      rw [goodV_not hx]
      refine ⟨fun h => by (cases h), fun _ => ?_⟩
      simp only [forGo, holds, if_true, lb_is_valid_labels_1, bind_ok, bind_exc, thn_ok, thn_exc, seq_next, seq_ret, seq_brk, seq_cnt, seq_exc, done_ret, done_next, done_exc, tr_ok, tr_exc, getI_some, getO_some, x_k, x_loc, x_glb, x_bin, x_neg, x_cmp, x_chain, x_and, x_or, x_not, x_ite, mkTu_0, mkTu_1, mkTu_2, mkTu_3, mkTu_4, mkLi_0, mkLi_1, mkLi_2, mkLi_3, mkLi_4, x_tup, x_lst, x_dct0, x_dct1, x_ix, x_sl, x_rev, r_tup, x_rgs, x_call, x_blt, st_self, st_exc, st_excA, x_gc, st_new, st_int, st_bl, st_str, x_att, x_met, metR_some, x_new, x_iso, x_calls, starR_tup, ok_only, s_fld, xi_enum, enumR_tup, xi_zip, zipR_tup, q_ret, q_next, q_brk, q_cnt, List.isEmpty_cons, List.isEmpty_nil, x_isi, x_mth, xs_nil, xs_cons, xo_none, intR_int, xo_some, xi_val, xi_rng, walkR_tup, walkR_str, x_lc, ts_nil, tsR_bl, ts_cons, pick_bl, s_nil, s_cons, rest_eq, s_expr, s_ret, s_retN, s_pass, s_brk, s_cnt, s_set, s_par, s_par3, s_sub, s_cond, s_whil, s_for, s_raise, s_try, cat_next, cat_ret, cat_brk, cat_cnt, s_aug, augR_some, aug_add, aug_sub, set_nm, ofO_some, set_tp, t_nil, t_nm, sT_nm, sT_tp, b_add, b_sub, n_int, c_lt, c_le, c_gt, c_ge, c_eq, c_ne, c_eqs, c_nes, c_eqb, i_tup, l_tup, f_abs, f_max, f_min, at0, at1, at2, settle_self, List.map_cons, List.map_nil, List.length_cons, List.length_nil, List.cons_append, List.nil_append, List.append_nil, List.getElem?_cons_zero, List.getElem?_cons_succ, List.set_cons_zero, List.set_cons_succ, List.replicate, Nat.sub_self, Nat.zero_add, Nat.reduceAdd, Nat.reduceSub, ix, hx, Bool.not_false]
    | true =>
      obtain ⟨x, rfl⟩ : ∃ i, x = .int i := by cases x <;> simp [isInt] at hx; exact ⟨_, rfl⟩
      by_cases h0 : 0 ≤ x
      · by_cases h1 : x ≤ u
        · have ih := valid_loop hi xs (if x = u then u + 1 else u) v0 (some (.int x)) fun y hy => hp y (by simp [hy])
          have e : goodV (.int x :: xs) u = goodV xs (if x = u then u + 1 else u) := by simp only [goodV, h0, h1, decide_true, Bool.true_and]
          rw [e]
          have body : evSs (gam pr (k + 1)) pr.sub lb_is_valid_labels_1 [v0, some (.int u), some (.int x)] S = .next [v0, some (.int (if x = u then u + 1 else u)), some (.int x)] S := by
            by_cases hu : x = u
            · subst hu
              simp only [lb_is_valid_labels_1, bind_ok, bind_exc, thn_ok, thn_exc, seq_next, seq_ret, seq_brk, seq_cnt, seq_exc, done_ret, done_next, done_exc, tr_ok, tr_exc, getI_some, getO_some, x_k, x_loc, x_glb, x_bin, x_neg, x_cmp, x_chain, x_and, x_or, x_not, x_ite, mkTu_0, mkTu_1, mkTu_2, mkTu_3, mkTu_4, mkLi_0, mkLi_1, mkLi_2, mkLi_3, mkLi_4, x_tup, x_lst, x_dct0, x_dct1, x_ix, x_sl, x_rev, r_tup, x_rgs, x_call, x_blt, st_self, st_exc, st_excA, x_gc, st_new, st_int, st_bl, st_str, x_att, x_met, metR_some, x_new, x_iso, x_calls, starR_tup, ok_only, s_fld, xi_enum, enumR_tup, xi_zip, zipR_tup, q_ret, q_next, q_brk, q_cnt, List.isEmpty_cons, List.isEmpty_nil, x_isi, x_mth, xs_nil, xs_cons, xo_none, intR_int, xo_some, xi_val, xi_rng, walkR_tup, walkR_str, x_lc, ts_nil, tsR_bl, ts_cons, pick_bl, s_nil, s_cons, rest_eq, s_expr, s_ret, s_retN, s_pass, s_brk, s_cnt, s_set, s_par, s_par3, s_sub, s_cond, s_whil, s_for, s_raise, s_try, cat_next, cat_ret, cat_brk, cat_cnt, s_aug, augR_some, aug_add, aug_sub, set_nm, ofO_some, set_tp, t_nil, t_nm, sT_nm, sT_tp, b_add, b_sub, n_int, c_lt, c_le, c_gt, c_ge, c_eq, c_ne, c_eqs, c_nes, c_eqb, i_tup, l_tup, f_abs, f_max, f_min, at0, at1, at2, settle_self, List.map_cons, List.map_nil, List.length_cons, List.length_nil, List.cons_append, List.nil_append, List.append_nil, List.getElem?_cons_zero, List.getElem?_cons_succ, List.set_cons_zero, List.set_cons_succ, List.replicate, Nat.sub_self, Nat.zero_add, Nat.reduceAdd, Nat.reduceSub, ix, hx, Bool.not_true, Bool.false_eq_true, if_false, h0, h1, decide_true, if_true]
            · simp only [lb_is_valid_labels_1, bind_ok, bind_exc, thn_ok, thn_exc, seq_next, seq_ret, seq_brk, seq_cnt, seq_exc, done_ret, done_next, done_exc, tr_ok, tr_exc, getI_some, getO_some, x_k, x_loc, x_glb, x_bin, x_neg, x_cmp, x_chain, x_and, x_or, x_not, x_ite, mkTu_0, mkTu_1, mkTu_2, mkTu_3, mkTu_4, mkLi_0, mkLi_1, mkLi_2, mkLi_3, mkLi_4, x_tup, x_lst, x_dct0, x_dct1, x_ix, x_sl, x_rev, r_tup, x_rgs, x_call, x_blt, st_self, st_exc, st_excA, x_gc, st_new, st_int, st_bl, st_str, x_att, x_met, metR_some, x_new, x_iso, x_calls, starR_tup, ok_only, s_fld, xi_enum, enumR_tup, xi_zip, zipR_tup, q_ret, q_next, q_brk, q_cnt, List.isEmpty_cons, List.isEmpty_nil, x_isi, x_mth, xs_nil, xs_cons, xo_none, intR_int, xo_some, xi_val, xi_rng, walkR_tup, walkR_str, x_lc, ts_nil, tsR_bl, ts_cons, pick_bl, s_nil, s_cons, rest_eq, s_expr, s_ret, s_retN, s_pass, s_brk, s_cnt, s_set, s_par, s_par3, s_sub, s_cond, s_whil, s_for, s_raise, s_try, cat_next, cat_ret, cat_brk, cat_cnt, s_aug, augR_some, aug_add, aug_sub, set_nm, ofO_some, set_tp, t_nil, t_nm, sT_nm, sT_tp, b_add, b_sub, n_int, c_lt, c_le, c_gt, c_ge, c_eq, c_ne, c_eqs, c_nes, c_eqb, i_tup, l_tup, f_abs, f_max, f_min, at0, at1, at2, settle_self, List.map_cons, List.map_nil, List.length_cons, List.length_nil, List.cons_append, List.nil_append, List.append_nil, List.getElem?_cons_zero, List.getElem?_cons_succ, List.set_cons_zero, List.set_cons_succ, List.replicate, Nat.sub_self, Nat.zero_add, Nat.reduceAdd, Nat.reduceSub, ix, hx, Bool.not_true, Bool.false_eq_true, if_false, h0, h1, decide_true, if_true, hu, decide_false]
          simp only [forGo, holds, if_true, sT_nm, List.set_cons_zero, List.set_cons_succ, body]
          exact ih
        · have e : goodV (.int x :: xs) u = false := by simp only [goodV, h1, decide_false, Bool.and_false, Bool.false_and]
          rw [e]
          refine ⟨fun h => by (cases h), fun _ => ?_⟩
          simp only [forGo, holds, if_true, lb_is_valid_labels_1, bind_ok, bind_exc, thn_ok, thn_exc, seq_next, seq_ret, seq_brk, seq_cnt, seq_exc, done_ret, done_next, done_exc, tr_ok, tr_exc, getI_some, getO_some, x_k, x_loc, x_glb, x_bin, x_neg, x_cmp, x_chain, x_and, x_or, x_not, x_ite, mkTu_0, mkTu_1, mkTu_2, mkTu_3, mkTu_4, mkLi_0, mkLi_1, mkLi_2, mkLi_3, mkLi_4, x_tup, x_lst, x_dct0, x_dct1, x_ix, x_sl, x_rev, r_tup, x_rgs, x_call, x_blt, st_self, st_exc, st_excA, x_gc, st_new, st_int, st_bl, st_str, x_att, x_met, metR_some, x_new, x_iso, x_calls, starR_tup, ok_only, s_fld, xi_enum, enumR_tup, xi_zip, zipR_tup, q_ret, q_next, q_brk, q_cnt, List.isEmpty_cons, List.isEmpty_nil, x_isi, x_mth, xs_nil, xs_cons, xo_none, intR_int, xo_some, xi_val, xi_rng, walkR_tup, walkR_str, x_lc, ts_nil, tsR_bl, ts_cons, pick_bl, s_nil, s_cons, rest_eq, s_expr, s_ret, s_retN, s_pass, s_brk, s_cnt, s_set, s_par, s_par3, s_sub, s_cond, s_whil, s_for, s_raise, s_try, cat_next, cat_ret, cat_brk, cat_cnt, s_aug, augR_some, aug_add, aug_sub, set_nm, ofO_some, set_tp, t_nil, t_nm, sT_nm, sT_tp, b_add, b_sub, n_int, c_lt, c_le, c_gt, c_ge, c_eq, c_ne, c_eqs, c_nes, c_eqb, i_tup, l_tup, f_abs, f_max, f_min, at0, at1, at2, settle_self, List.map_cons, List.map_nil, List.length_cons, List.length_nil, List.cons_append, List.nil_append, List.append_nil, List.getElem?_cons_zero, List.getElem?_cons_succ, List.set_cons_zero, List.set_cons_succ, List.replicate, Nat.sub_self, Nat.zero_add, Nat.reduceAdd, Nat.reduceSub, ix, hx, Bool.not_true, Bool.false_eq_true, if_false, h0, h1, decide_true, decide_false, Bool.not_false]
      · have e : goodV (.int x :: xs) u = false := by simp only [goodV, h0, decide_false, Bool.false_and]
        rw [e]
        refine ⟨fun h => by (cases h), fun _ => ?_⟩
        simp only [forGo, holds, if_true, lb_is_valid_labels_1, bind_ok, bind_exc, thn_ok, thn_exc, seq_next, seq_ret, seq_brk, seq_cnt, seq_exc, done_ret, done_next, done_exc, tr_ok, tr_exc, getI_some, getO_some, x_k, x_loc, x_glb, x_bin, x_neg, x_cmp, x_chain, x_and, x_or, x_not, x_ite, mkTu_0, mkTu_1, mkTu_2, mkTu_3, mkTu_4, mkLi_0, mkLi_1, mkLi_2, mkLi_3, mkLi_4, x_tup, x_lst, x_dct0, x_dct1, x_ix, x_sl, x_rev, r_tup, x_rgs, x_call, x_blt, st_self, st_exc, st_excA, x_gc, st_new, st_int, st_bl, st_str, x_att, x_met, metR_some, x_new, x_iso, x_calls, starR_tup, ok_only, s_fld, xi_enum, enumR_tup, xi_zip, zipR_tup, q_ret, q_next, q_brk, q_cnt, List.isEmpty_cons, List.isEmpty_nil, x_isi, x_mth, xs_nil, xs_cons, xo_none, intR_int, xo_some, xi_val, xi_rng, walkR_tup, walkR_str, x_lc, ts_nil, tsR_bl, ts_cons, pick_bl, s_nil, s_cons, rest_eq, s_expr, s_ret, s_retN, s_pass, s_brk, s_cnt, s_set, s_par, s_par3, s_sub, s_cond, s_whil, s_for, s_raise, s_try, cat_next, cat_ret, cat_brk, cat_cnt, s_aug, augR_some, aug_add, aug_sub, set_nm, ofO_some, set_tp, t_nil, t_nm, sT_nm, sT_tp, b_add, b_sub, n_int, c_lt, c_le, c_gt, c_ge, c_eq, c_ne, c_eqs, c_nes, c_eqb, i_tup, l_tup, f_abs, f_max, f_min, at0, at1, at2, settle_self, List.map_cons, List.map_nil, List.length_cons, List.length_nil, List.cons_append, List.nil_append, List.append_nil, List.getElem?_cons_zero, List.getElem?_cons_succ, List.set_cons_zero, List.set_cons_succ, List.replicate, Nat.sub_self, Nat.zero_add, Nat.reduceAdd, Nat.reduceSub, ix, hx, Bool.not_true, Bool.false_eq_true, if_false, h0, decide_false, Bool.not_false]
end
end Wg
/-! WhE: valid labels. -/
namespace Wg
open PySem L2
section
variable {pr : Prg} {k : Nat} {S : Sto} {f : Str}
theorem dat_ints (l : List Int) : toD S (.tup (l.map .int)) = some (.tuple (l.map .int)) := by
  refine goD_tup ?_
  induction l with
  | nil => exact goDs_nil
  | cons x l ih => exact goDs_cons goD_int ih
theorem lay_ints (l : List Int) : PyData.canLayAll0 (l.map PyData.int) = true := by
  induction l with
  | nil => rfl
  | cons x l ih => simp [PyData.canLayAll0, PyData.canLay0, ih]
theorem dep_ints (l : List Int) : PyData.depthAll (l.map PyData.int) ≤ 1 := by
  induction l with
  | nil => simp [PyData.depthAll]
  | cons x l ih => simp only [List.map_cons, PyData.depthAll, PyData.depth]; omega
theorem shaped_ints (l : List Int) : SeqAt.shaped (.tuple (l.map .int)) = true := by
  have q : (PyData.tuple (l.map .int)).depth ≤ 64 := by
    have := dep_ints l
    simp only [PyData.depth]; omega
  simp only [SeqAt.shaped, PyData.canLay0, lay_ints, Bool.true_and, decide_eq_true_eq]
  exact q
theorem eqv_ints : ∀ a b : List Int, PyData.eqvAll (a.map .int) (b.map .int) = decide (a = b)
  | [], [] => by simp [PyData.eqvAll]
  | [], _ :: _ => by simp [PyData.eqvAll]
  | _ :: _, [] => by simp [PyData.eqvAll]
  | x :: a, y :: b => by
    simp only [List.map_cons, PyData.eqvAll, eqv_ints a b, PyData.eqv]
    by_cases h : x = y <;> by_cases h2 : a = b <;> simp [h, h2]
theorem eq_ints {a b : List Int} : cmpI .eq (.tup (a.map .int)) (.tup (b.map .int)) S = .ok (.bl (decide (a = b))) S := by
  rw [c_eq0]
  simp only [eqI, eqS, dat_ints, shaped_ints, Bool.and_self, if_true, PyData.eqv, eqv_ints, eqT_some, boolR]
theorem validLab_tup {xs : List IV} : validLab (.tup xs) = (decide (1 ≤ xs.length) && decide (xs.length ≤ 12) && goodV xs 0) := rfl
theorem labels_run (h : Has pr f d_is_valid_labels) (hi : Has pr "is_integer" d_is_integer) (hg : pr.glob.lookup (Str.ofString "MOST_CASES") = some (IV.int 12)) {v : IV} {d : PyData} (hv : toD S v = some d) : run pr (k + 2) f [v] S = .ok (.bl (validLab v)) S := by
  rw [run_eq h rfl]
  have it := isi_tup (S := S) (plain_goD hv)
  cases hT : isTupI v with
  | false =>
    have e : validLab v = false := by cases v <;> simp [isTupI] at hT <;> rfl
    simp only [d_is_valid_labels, bind_ok, bind_exc, thn_ok, thn_exc, seq_next, seq_ret, seq_brk, seq_cnt, seq_exc, done_ret, done_next, done_exc, tr_ok, tr_exc, getI_some, getO_some, x_k, x_loc, x_glb, x_bin, x_neg, x_cmp, x_chain, x_and, x_or, x_not, x_ite, mkTu_0, mkTu_1, mkTu_2, mkTu_3, mkTu_4, mkLi_0, mkLi_1, mkLi_2, mkLi_3, mkLi_4, x_tup, x_lst, x_dct0, x_dct1, x_ix, x_sl, x_rev, r_tup, x_rgs, x_call, x_blt, st_self, st_exc, st_excA, x_gc, st_new, st_int, st_bl, st_str, x_att, x_met, metR_some, x_new, x_iso, x_calls, starR_tup, ok_only, s_fld, xi_enum, enumR_tup, xi_zip, zipR_tup, q_ret, q_next, q_brk, q_cnt, List.isEmpty_cons, List.isEmpty_nil, x_isi, x_mth, xs_nil, xs_cons, xo_none, intR_int, xo_some, xi_val, xi_rng, walkR_tup, walkR_str, x_lc, ts_nil, tsR_bl, ts_cons, pick_bl, s_nil, s_cons, rest_eq, s_expr, s_ret, s_retN, s_pass, s_brk, s_cnt, s_set, s_par, s_par3, s_sub, s_cond, s_whil, s_for, s_raise, s_try, cat_next, cat_ret, cat_brk, cat_cnt, s_aug, augR_some, aug_add, aug_sub, set_nm, ofO_some, set_tp, t_nil, t_nm, sT_nm, sT_tp, b_add, b_sub, n_int, c_lt, c_le, c_gt, c_ge, c_eq, c_ne, c_eqs, c_nes, c_eqb, i_tup, l_tup, f_abs, f_max, f_min, at0, at1, at2, settle_self, List.map_cons, List.map_nil, List.length_cons, List.length_nil, List.cons_append, List.nil_append, List.append_nil, List.getElem?_cons_zero, List.getElem?_cons_succ, List.set_cons_zero, List.set_cons_succ, List.replicate, Nat.sub_self, Nat.zero_add, Nat.reduceAdd, Nat.reduceSub, it, hT, Bool.not_false, if_true, e]
  | true =>
    obtain ⟨xs, rfl⟩ : ∃ xs, v = .tup xs := by cases v <;> simp [isTupI] at hT; exact ⟨_, rfl⟩
    have pl := plain_tup hv
    rw [validLab_tup]
    by_cases h1 : (1 : Int) ≤ (xs.length : Int)
    · have h1' : 1 ≤ xs.length := by omega
      by_cases h2 : (xs.length : Int) ≤ 12
      · have h2' : xs.length ≤ 12 := by omega
        obtain ⟨l1, l2⟩ := valid_loop (k := k) (S := S) hi xs 0 (some (.tup xs)) none pl
        cases hgv : goodV xs 0 with
        | true =>
          obtain ⟨τ', e⟩ := l1 hgv
          simp only [d_is_valid_labels, bind_ok, bind_exc, thn_ok, thn_exc, seq_next, seq_ret, seq_brk, seq_cnt, seq_exc, done_ret, done_next, done_exc, tr_ok, tr_exc, getI_some, getO_some, x_k, x_loc, x_glb, x_bin, x_neg, x_cmp, x_chain, x_and, x_or, x_not, x_ite, mkTu_0, mkTu_1, mkTu_2, mkTu_3, mkTu_4, mkLi_0, mkLi_1, mkLi_2, mkLi_3, mkLi_4, x_tup, x_lst, x_dct0, x_dct1, x_ix, x_sl, x_rev, r_tup, x_rgs, x_call, x_blt, st_self, st_exc, st_excA, x_gc, st_new, st_int, st_bl, st_str, x_att, x_met, metR_some, x_new, x_iso, x_calls, starR_tup, ok_only, s_fld, xi_enum, enumR_tup, xi_zip, zipR_tup, q_ret, q_next, q_brk, q_cnt, List.isEmpty_cons, List.isEmpty_nil, x_isi, x_mth, xs_nil, xs_cons, xo_none, intR_int, xo_some, xi_val, xi_rng, walkR_tup, walkR_str, x_lc, ts_nil, tsR_bl, ts_cons, pick_bl, s_nil, s_cons, rest_eq, s_expr, s_ret, s_retN, s_pass, s_brk, s_cnt, s_set, s_par, s_par3, s_sub, s_cond, s_whil, s_for, s_raise, s_try, cat_next, cat_ret, cat_brk, cat_cnt, s_aug, augR_some, aug_add, aug_sub, set_nm, ofO_some, set_tp, t_nil, t_nm, sT_nm, sT_tp, b_add, b_sub, n_int, c_lt, c_le, c_gt, c_ge, c_eq, c_ne, c_eqs, c_nes, c_eqb, i_tup, l_tup, f_abs, f_max, f_min, at0, at1, at2, settle_self, List.map_cons, List.map_nil, List.length_cons, List.length_nil, List.cons_append, List.nil_append, List.append_nil, List.getElem?_cons_zero, List.getElem?_cons_succ, List.set_cons_zero, List.set_cons_succ, List.replicate, Nat.sub_self, Nat.zero_add, Nat.reduceAdd, Nat.reduceSub, it, hT, Bool.not_true, Bool.false_eq_true, if_false, if_true, h1, h2, h1', h2', decide_true, hg, e, Bool.and_self]
        | false =>
          have e := l2 hgv
          simp only [d_is_valid_labels, bind_ok, bind_exc, thn_ok, thn_exc, seq_next, seq_ret, seq_brk, seq_cnt, seq_exc, done_ret, done_next, done_exc, tr_ok, tr_exc, getI_some, getO_some, x_k, x_loc, x_glb, x_bin, x_neg, x_cmp, x_chain, x_and, x_or, x_not, x_ite, mkTu_0, mkTu_1, mkTu_2, mkTu_3, mkTu_4, mkLi_0, mkLi_1, mkLi_2, mkLi_3, mkLi_4, x_tup, x_lst, x_dct0, x_dct1, x_ix, x_sl, x_rev, r_tup, x_rgs, x_call, x_blt, st_self, st_exc, st_excA, x_gc, st_new, st_int, st_bl, st_str, x_att, x_met, metR_some, x_new, x_iso, x_calls, starR_tup, ok_only, s_fld, xi_enum, enumR_tup, xi_zip, zipR_tup, q_ret, q_next, q_brk, q_cnt, List.isEmpty_cons, List.isEmpty_nil, x_isi, x_mth, xs_nil, xs_cons, xo_none, intR_int, xo_some, xi_val, xi_rng, walkR_tup, walkR_str, x_lc, ts_nil, tsR_bl, ts_cons, pick_bl, s_nil, s_cons, rest_eq, s_expr, s_ret, s_retN, s_pass, s_brk, s_cnt, s_set, s_par, s_par3, s_sub, s_cond, s_whil, s_for, s_raise, s_try, cat_next, cat_ret, cat_brk, cat_cnt, s_aug, augR_some, aug_add, aug_sub, set_nm, ofO_some, set_tp, t_nil, t_nm, sT_nm, sT_tp, b_add, b_sub, n_int, c_lt, c_le, c_gt, c_ge, c_eq, c_ne, c_eqs, c_nes, c_eqb, i_tup, l_tup, f_abs, f_max, f_min, at0, at1, at2, settle_self, List.map_cons, List.map_nil, List.length_cons, List.length_nil, List.cons_append, List.nil_append, List.append_nil, List.getElem?_cons_zero, List.getElem?_cons_succ, List.set_cons_zero, List.set_cons_succ, List.replicate, Nat.sub_self, Nat.zero_add, Nat.reduceAdd, Nat.reduceSub, it, hT, Bool.not_true, Bool.false_eq_true, if_false, if_true, h1, h2, h1', h2', decide_true, hg, e, Bool.and_false]
      · have h2' : ¬ xs.length ≤ 12 := by omega
        simp only [d_is_valid_labels, bind_ok, bind_exc, thn_ok, thn_exc, seq_next, seq_ret, seq_brk, seq_cnt, seq_exc, done_ret, done_next, done_exc, tr_ok, tr_exc, getI_some, getO_some, x_k, x_loc, x_glb, x_bin, x_neg, x_cmp, x_chain, x_and, x_or, x_not, x_ite, mkTu_0, mkTu_1, mkTu_2, mkTu_3, mkTu_4, mkLi_0, mkLi_1, mkLi_2, mkLi_3, mkLi_4, x_tup, x_lst, x_dct0, x_dct1, x_ix, x_sl, x_rev, r_tup, x_rgs, x_call, x_blt, st_self, st_exc, st_excA, x_gc, st_new, st_int, st_bl, st_str, x_att, x_met, metR_some, x_new, x_iso, x_calls, starR_tup, ok_only, s_fld, xi_enum, enumR_tup, xi_zip, zipR_tup, q_ret, q_next, q_brk, q_cnt, List.isEmpty_cons, List.isEmpty_nil, x_isi, x_mth, xs_nil, xs_cons, xo_none, intR_int, xo_some, xi_val, xi_rng, walkR_tup, walkR_str, x_lc, ts_nil, tsR_bl, ts_cons, pick_bl, s_nil, s_cons, rest_eq, s_expr, s_ret, s_retN, s_pass, s_brk, s_cnt, s_set, s_par, s_par3, s_sub, s_cond, s_whil, s_for, s_raise, s_try, cat_next, cat_ret, cat_brk, cat_cnt, s_aug, augR_some, aug_add, aug_sub, set_nm, ofO_some, set_tp, t_nil, t_nm, sT_nm, sT_tp, b_add, b_sub, n_int, c_lt, c_le, c_gt, c_ge, c_eq, c_ne, c_eqs, c_nes, c_eqb, i_tup, l_tup, f_abs, f_max, f_min, at0, at1, at2, settle_self, List.map_cons, List.map_nil, List.length_cons, List.length_nil, List.cons_append, List.nil_append, List.append_nil, List.getElem?_cons_zero, List.getElem?_cons_succ, List.set_cons_zero, List.set_cons_succ, List.replicate, Nat.sub_self, Nat.zero_add, Nat.reduceAdd, Nat.reduceSub, it, hT, Bool.not_true, Bool.false_eq_true, if_false, if_true, h1, h2, h2', decide_true, decide_false, hg, Bool.not_false, Bool.and_false, Bool.false_and]
    · have h1' : ¬ 1 ≤ xs.length := by omega
      simp only [d_is_valid_labels, bind_ok, bind_exc, thn_ok, thn_exc, seq_next, seq_ret, seq_brk, seq_cnt, seq_exc, done_ret, done_next, done_exc, tr_ok, tr_exc, getI_some, getO_some, x_k, x_loc, x_glb, x_bin, x_neg, x_cmp, x_chain, x_and, x_or, x_not, x_ite, mkTu_0, mkTu_1, mkTu_2, mkTu_3, mkTu_4, mkLi_0, mkLi_1, mkLi_2, mkLi_3, mkLi_4, x_tup, x_lst, x_dct0, x_dct1, x_ix, x_sl, x_rev, r_tup, x_rgs, x_call, x_blt, st_self, st_exc, st_excA, x_gc, st_new, st_int, st_bl, st_str, x_att, x_met, metR_some, x_new, x_iso, x_calls, starR_tup, ok_only, s_fld, xi_enum, enumR_tup, xi_zip, zipR_tup, q_ret, q_next, q_brk, q_cnt, List.isEmpty_cons, List.isEmpty_nil, x_isi, x_mth, xs_nil, xs_cons, xo_none, intR_int, xo_some, xi_val, xi_rng, walkR_tup, walkR_str, x_lc, ts_nil, tsR_bl, ts_cons, pick_bl, s_nil, s_cons, rest_eq, s_expr, s_ret, s_retN, s_pass, s_brk, s_cnt, s_set, s_par, s_par3, s_sub, s_cond, s_whil, s_for, s_raise, s_try, cat_next, cat_ret, cat_brk, cat_cnt, s_aug, augR_some, aug_add, aug_sub, set_nm, ofO_some, set_tp, t_nil, t_nm, sT_nm, sT_tp, b_add, b_sub, n_int, c_lt, c_le, c_gt, c_ge, c_eq, c_ne, c_eqs, c_nes, c_eqb, i_tup, l_tup, f_abs, f_max, f_min, at0, at1, at2, settle_self, List.map_cons, List.map_nil, List.length_cons, List.length_nil, List.cons_append, List.nil_append, List.append_nil, List.getElem?_cons_zero, List.getElem?_cons_succ, List.set_cons_zero, List.set_cons_succ, List.replicate, Nat.sub_self, Nat.zero_add, Nat.reduceAdd, Nat.reduceSub, it, hT, Bool.not_true, Bool.false_eq_true, if_false, if_true, h1, h1', decide_false, hg, Bool.not_false, Bool.and_false, Bool.false_and]
theorem all_bls {m : Nat} {g : IV → Bool} {xs : List IV} (h : S[m]? = some (.lst (xs.map fun z => .bl (g z)))) : bltI .all [.ref m] S = .ok (.bl (xs.all g)) S := by
  have e : ∀ xs : List IV, optAll blOf (xs.map fun z => IV.bl (g z)) = some (xs.map g) := by
    intro xs
    induction xs with
    | nil => rfl
    | cons x xs ih => simp only [List.map_cons, optAll, blOf, ih]
  simp only [bltI, h, e, List.all_map]
  rfl
theorem goodV_isInt : ∀ (xs : List IV) (u : Int), xs.all isInt = false → goodV xs u = false := by
  intro xs u h
  cases e : goodV xs u with
  | false => rfl
  | true =>
    obtain ⟨l, rfl⟩ := goodV_form xs u e
    have : (l.map IV.int).all isInt = true := by simp [isInt]
    rw [this] at h; cases h
theorem ints_of : ∀ {xs : List IV}, xs.all isInt = true → ∃ l : List Int, xs = l.map .int
  | [], _ => ⟨[], rfl⟩
  | x :: xs, h => by
    simp only [List.all_cons, Bool.and_eq_true] at h
    obtain ⟨l, rfl⟩ := ints_of h.2
    cases x <;> simp [isInt] at h
    exact ⟨_ :: l, rfl⟩
theorem l_labels_ok (h : Has pr f d_l_is_labels) (hi : Has pr "_law_is_integer" d_is_integer) (hc : Has pr "_law_canonical" d_l_canonical) {v : IV} {d : PyData} (hv : toD S v = some d) : run pr (k + 2) f [v] S = .ok (.bl (validLab v)) S := by
  rw [run_eq h rfl]
  have it := isi_tup (S := S) (plain_goD hv)
  cases hT : isTupI v with
  | false =>
    have e : validLab v = false := by cases v <;> simp [isTupI] at hT <;> rfl
    simp only [d_l_is_labels, bind_ok, bind_exc, thn_ok, thn_exc, seq_next, seq_ret, seq_brk, seq_cnt, seq_exc, done_ret, done_next, done_exc, tr_ok, tr_exc, getI_some, getO_some, x_k, x_loc, x_glb, x_bin, x_neg, x_cmp, x_chain, x_and, x_or, x_not, x_ite, mkTu_0, mkTu_1, mkTu_2, mkTu_3, mkTu_4, mkLi_0, mkLi_1, mkLi_2, mkLi_3, mkLi_4, x_tup, x_lst, x_dct0, x_dct1, x_ix, x_sl, x_rev, r_tup, x_rgs, x_call, x_blt, st_self, st_exc, st_excA, x_gc, st_new, st_int, st_bl, st_str, x_att, x_met, metR_some, x_new, x_iso, x_calls, starR_tup, ok_only, s_fld, xi_enum, enumR_tup, xi_zip, zipR_tup, q_ret, q_next, q_brk, q_cnt, List.isEmpty_cons, List.isEmpty_nil, x_isi, x_mth, xs_nil, xs_cons, xo_none, intR_int, xo_some, xi_val, xi_rng, walkR_tup, walkR_str, x_lc, ts_nil, tsR_bl, ts_cons, pick_bl, s_nil, s_cons, rest_eq, s_expr, s_ret, s_retN, s_pass, s_brk, s_cnt, s_set, s_par, s_par3, s_sub, s_cond, s_whil, s_for, s_raise, s_try, cat_next, cat_ret, cat_brk, cat_cnt, s_aug, augR_some, aug_add, aug_sub, set_nm, ofO_some, set_tp, t_nil, t_nm, sT_nm, sT_tp, b_add, b_sub, n_int, c_lt, c_le, c_gt, c_ge, c_eq, c_ne, c_eqs, c_nes, c_eqb, i_tup, l_tup, f_abs, f_max, f_min, at0, at1, at2, settle_self, List.map_cons, List.map_nil, List.length_cons, List.length_nil, List.cons_append, List.nil_append, List.append_nil, List.getElem?_cons_zero, List.getElem?_cons_succ, List.set_cons_zero, List.set_cons_succ, List.replicate, Nat.sub_self, Nat.zero_add, Nat.reduceAdd, Nat.reduceSub, it, hT, Bool.not_false, if_true, e]
  | true =>
    obtain ⟨xs, rfl⟩ : ∃ xs, v = .tup xs := by cases v <;> simp [isTupI] at hT; exact ⟨_, rfl⟩
    have pl := plain_tup hv
    rw [validLab_tup]
    by_cases h1 : (1 : Int) ≤ (xs.length : Int)
    · have h1' : 1 ≤ xs.length := by omega
      by_cases h2 : (xs.length : Int) ≤ 12
      · have h2' : xs.length ≤ 12 := by omega
        have lc := lcGo_map (one := lcOne (gam pr (k + 1)) [1] (.nm 1) [] (.call "_law_is_integer" [(.loc 1)]) [some (.tup xs), none]) (S := S) (fun z => .bl (isInt z)) xs [] (fun z hz => by
          have iz := is_integer_run (k := k) (S := S) hi z (pl z hz)
          simp only [lcOne, wipeI, bind_ok, bind_exc, thn_ok, thn_exc, seq_next, seq_ret, seq_brk, seq_cnt, seq_exc, done_ret, done_next, done_exc, tr_ok, tr_exc, getI_some, getO_some, x_k, x_loc, x_glb, x_bin, x_neg, x_cmp, x_chain, x_and, x_or, x_not, x_ite, mkTu_0, mkTu_1, mkTu_2, mkTu_3, mkTu_4, mkLi_0, mkLi_1, mkLi_2, mkLi_3, mkLi_4, x_tup, x_lst, x_dct0, x_dct1, x_ix, x_sl, x_rev, r_tup, x_rgs, x_call, x_blt, st_self, st_exc, st_excA, x_gc, st_new, st_int, st_bl, st_str, x_att, x_met, metR_some, x_new, x_iso, x_calls, starR_tup, ok_only, s_fld, xi_enum, enumR_tup, xi_zip, zipR_tup, q_ret, q_next, q_brk, q_cnt, List.isEmpty_cons, List.isEmpty_nil, x_isi, x_mth, xs_nil, xs_cons, xo_none, intR_int, xo_some, xi_val, xi_rng, walkR_tup, walkR_str, x_lc, ts_nil, tsR_bl, ts_cons, pick_bl, s_nil, s_cons, rest_eq, s_expr, s_ret, s_retN, s_pass, s_brk, s_cnt, s_set, s_par, s_par3, s_sub, s_cond, s_whil, s_for, s_raise, s_try, cat_next, cat_ret, cat_brk, cat_cnt, s_aug, augR_some, aug_add, aug_sub, set_nm, ofO_some, set_tp, t_nil, t_nm, sT_nm, sT_tp, b_add, b_sub, n_int, c_lt, c_le, c_gt, c_ge, c_eq, c_ne, c_eqs, c_nes, c_eqb, i_tup, l_tup, f_abs, f_max, f_min, at0, at1, at2, settle_self, List.map_cons, List.map_nil, List.length_cons, List.length_nil, List.cons_append, List.nil_append, List.append_nil, List.getElem?_cons_zero, List.getElem?_cons_succ, List.set_cons_zero, List.set_cons_succ, List.replicate, Nat.sub_self, Nat.zero_add, Nat.reduceAdd, Nat.reduceSub, iz, if_true]) (by simp; omega)
        have al := all_bls (S := S ++ [Cell.lst (xs.map fun z => .bl (isInt z))]) (m := S.length) (xs := xs) (g := isInt) get_app0
        have st : ∀ b : Bool, settle S (.bl b) (S ++ [Cell.lst (xs.map fun z => .bl (isInt z))]) = S := fun b => settle_append rfl
        cases ha : xs.all isInt with
        | false =>
          have e := goodV_isInt xs 0 ha
          simp only [d_l_is_labels, bind_ok, bind_exc, thn_ok, thn_exc, seq_next, seq_ret, seq_brk, seq_cnt, seq_exc, done_ret, done_next, done_exc, tr_ok, tr_exc, getI_some, getO_some, x_k, x_loc, x_glb, x_bin, x_neg, x_cmp, x_chain, x_and, x_or, x_not, x_ite, mkTu_0, mkTu_1, mkTu_2, mkTu_3, mkTu_4, mkLi_0, mkLi_1, mkLi_2, mkLi_3, mkLi_4, x_tup, x_lst, x_dct0, x_dct1, x_ix, x_sl, x_rev, r_tup, x_rgs, x_call, x_blt, st_self, st_exc, st_excA, x_gc, st_new, st_int, st_bl, st_str, x_att, x_met, metR_some, x_new, x_iso, x_calls, starR_tup, ok_only, s_fld, xi_enum, enumR_tup, xi_zip, zipR_tup, q_ret, q_next, q_brk, q_cnt, List.isEmpty_cons, List.isEmpty_nil, x_isi, x_mth, xs_nil, xs_cons, xo_none, intR_int, xo_some, xi_val, xi_rng, walkR_tup, walkR_str, x_lc, ts_nil, tsR_bl, ts_cons, pick_bl, s_nil, s_cons, rest_eq, s_expr, s_ret, s_retN, s_pass, s_brk, s_cnt, s_set, s_par, s_par3, s_sub, s_cond, s_whil, s_for, s_raise, s_try, cat_next, cat_ret, cat_brk, cat_cnt, s_aug, augR_some, aug_add, aug_sub, set_nm, ofO_some, set_tp, t_nil, t_nm, sT_nm, sT_tp, b_add, b_sub, n_int, c_lt, c_le, c_gt, c_ge, c_eq, c_ne, c_eqs, c_nes, c_eqb, i_tup, l_tup, f_abs, f_max, f_min, at0, at1, at2, settle_self, List.map_cons, List.map_nil, List.length_cons, List.length_nil, List.cons_append, List.nil_append, List.append_nil, List.getElem?_cons_zero, List.getElem?_cons_succ, List.set_cons_zero, List.set_cons_succ, List.replicate, Nat.sub_self, Nat.zero_add, Nat.reduceAdd, Nat.reduceSub, it, hT, Bool.not_true, Bool.false_eq_true, if_false, if_true, h1, h2, h1', h2', decide_true, lc, al, ha, Bool.not_false, e, st, Bool.and_false]
        | true =>
          obtain ⟨l, rfl⟩ := ints_of ha
          have hl : l.length ≤ 12 := by simpa using h2'
          have cr := canon_run (k := k) (S := S) hc (xs := l) (by omega)
          have e : goodV (l.map .int) 0 = decide ((canF l [] []).2 = l) := by
            have := canF_good l 0 []
            rw [goodV_ints]
            simp only [upto, List.range_zero, List.map_nil, List.nil_append] at this
            cases e2 : goodL l 0 with
            | true => exact (decide_eq_true (this.mpr e2)).symm
            | false => refine (decide_eq_false fun z => ?_).symm; have z2 : goodL l 0 = true := this.mp z; rw [z2] at e2; cases e2
          simp only [d_l_is_labels, bind_ok, bind_exc, thn_ok, thn_exc, seq_next, seq_ret, seq_brk, seq_cnt, seq_exc, done_ret, done_next, done_exc, tr_ok, tr_exc, getI_some, getO_some, x_k, x_loc, x_glb, x_bin, x_neg, x_cmp, x_chain, x_and, x_or, x_not, x_ite, mkTu_0, mkTu_1, mkTu_2, mkTu_3, mkTu_4, mkLi_0, mkLi_1, mkLi_2, mkLi_3, mkLi_4, x_tup, x_lst, x_dct0, x_dct1, x_ix, x_sl, x_rev, r_tup, x_rgs, x_call, x_blt, st_self, st_exc, st_excA, x_gc, st_new, st_int, st_bl, st_str, x_att, x_met, metR_some, x_new, x_iso, x_calls, starR_tup, ok_only, s_fld, xi_enum, enumR_tup, xi_zip, zipR_tup, q_ret, q_next, q_brk, q_cnt, List.isEmpty_cons, List.isEmpty_nil, x_isi, x_mth, xs_nil, xs_cons, xo_none, intR_int, xo_some, xi_val, xi_rng, walkR_tup, walkR_str, x_lc, ts_nil, tsR_bl, ts_cons, pick_bl, s_nil, s_cons, rest_eq, s_expr, s_ret, s_retN, s_pass, s_brk, s_cnt, s_set, s_par, s_par3, s_sub, s_cond, s_whil, s_for, s_raise, s_try, cat_next, cat_ret, cat_brk, cat_cnt, s_aug, augR_some, aug_add, aug_sub, set_nm, ofO_some, set_tp, t_nil, t_nm, sT_nm, sT_tp, b_add, b_sub, n_int, c_lt, c_le, c_gt, c_ge, c_eq, c_ne, c_eqs, c_nes, c_eqb, i_tup, l_tup, f_abs, f_max, f_min, at0, at1, at2, settle_self, List.map_cons, List.map_nil, List.length_cons, List.length_nil, List.cons_append, List.nil_append, List.append_nil, List.getElem?_cons_zero, List.getElem?_cons_succ, List.set_cons_zero, List.set_cons_succ, List.replicate, Nat.sub_self, Nat.zero_add, Nat.reduceAdd, Nat.reduceSub, it, hT, Bool.not_true, Bool.false_eq_true, if_false, if_true, h1, h2, h1', h2', decide_true, lc, al, ha, cr, eq_ints, e, st, Bool.true_and]
      · have h2' : ¬ xs.length ≤ 12 := by omega
        simp only [d_l_is_labels, bind_ok, bind_exc, thn_ok, thn_exc, seq_next, seq_ret, seq_brk, seq_cnt, seq_exc, done_ret, done_next, done_exc, tr_ok, tr_exc, getI_some, getO_some, x_k, x_loc, x_glb, x_bin, x_neg, x_cmp, x_chain, x_and, x_or, x_not, x_ite, mkTu_0, mkTu_1, mkTu_2, mkTu_3, mkTu_4, mkLi_0, mkLi_1, mkLi_2, mkLi_3, mkLi_4, x_tup, x_lst, x_dct0, x_dct1, x_ix, x_sl, x_rev, r_tup, x_rgs, x_call, x_blt, st_self, st_exc, st_excA, x_gc, st_new, st_int, st_bl, st_str, x_att, x_met, metR_some, x_new, x_iso, x_calls, starR_tup, ok_only, s_fld, xi_enum, enumR_tup, xi_zip, zipR_tup, q_ret, q_next, q_brk, q_cnt, List.isEmpty_cons, List.isEmpty_nil, x_isi, x_mth, xs_nil, xs_cons, xo_none, intR_int, xo_some, xi_val, xi_rng, walkR_tup, walkR_str, x_lc, ts_nil, tsR_bl, ts_cons, pick_bl, s_nil, s_cons, rest_eq, s_expr, s_ret, s_retN, s_pass, s_brk, s_cnt, s_set, s_par, s_par3, s_sub, s_cond, s_whil, s_for, s_raise, s_try, cat_next, cat_ret, cat_brk, cat_cnt, s_aug, augR_some, aug_add, aug_sub, set_nm, ofO_some, set_tp, t_nil, t_nm, sT_nm, sT_tp, b_add, b_sub, n_int, c_lt, c_le, c_gt, c_ge, c_eq, c_ne, c_eqs, c_nes, c_eqb, i_tup, l_tup, f_abs, f_max, f_min, at0, at1, at2, settle_self, List.map_cons, List.map_nil, List.length_cons, List.length_nil, List.cons_append, List.nil_append, List.append_nil, List.getElem?_cons_zero, List.getElem?_cons_succ, List.set_cons_zero, List.set_cons_succ, List.replicate, Nat.sub_self, Nat.zero_add, Nat.reduceAdd, Nat.reduceSub, it, hT, Bool.not_true, Bool.false_eq_true, if_false, if_true, h1, h2, h2', decide_true, decide_false, Bool.not_false, Bool.and_false, Bool.false_and]
    · have h1' : ¬ 1 ≤ xs.length := by omega
      simp only [d_l_is_labels, bind_ok, bind_exc, thn_ok, thn_exc, seq_next, seq_ret, seq_brk, seq_cnt, seq_exc, done_ret, done_next, done_exc, tr_ok, tr_exc, getI_some, getO_some, x_k, x_loc, x_glb, x_bin, x_neg, x_cmp, x_chain, x_and, x_or, x_not, x_ite, mkTu_0, mkTu_1, mkTu_2, mkTu_3, mkTu_4, mkLi_0, mkLi_1, mkLi_2, mkLi_3, mkLi_4, x_tup, x_lst, x_dct0, x_dct1, x_ix, x_sl, x_rev, r_tup, x_rgs, x_call, x_blt, st_self, st_exc, st_excA, x_gc, st_new, st_int, st_bl, st_str, x_att, x_met, metR_some, x_new, x_iso, x_calls, starR_tup, ok_only, s_fld, xi_enum, enumR_tup, xi_zip, zipR_tup, q_ret, q_next, q_brk, q_cnt, List.isEmpty_cons, List.isEmpty_nil, x_isi, x_mth, xs_nil, xs_cons, xo_none, intR_int, xo_some, xi_val, xi_rng, walkR_tup, walkR_str, x_lc, ts_nil, tsR_bl, ts_cons, pick_bl, s_nil, s_cons, rest_eq, s_expr, s_ret, s_retN, s_pass, s_brk, s_cnt, s_set, s_par, s_par3, s_sub, s_cond, s_whil, s_for, s_raise, s_try, cat_next, cat_ret, cat_brk, cat_cnt, s_aug, augR_some, aug_add, aug_sub, set_nm, ofO_some, set_tp, t_nil, t_nm, sT_nm, sT_tp, b_add, b_sub, n_int, c_lt, c_le, c_gt, c_ge, c_eq, c_ne, c_eqs, c_nes, c_eqb, i_tup, l_tup, f_abs, f_max, f_min, at0, at1, at2, settle_self, List.map_cons, List.map_nil, List.length_cons, List.length_nil, List.cons_append, List.nil_append, List.append_nil, List.getElem?_cons_zero, List.getElem?_cons_succ, List.set_cons_zero, List.set_cons_succ, List.replicate, Nat.sub_self, Nat.zero_add, Nat.reduceAdd, Nat.reduceSub, it, hT, Bool.not_true, Bool.false_eq_true, if_false, if_true, h1, h1', decide_false, Bool.not_false, Bool.and_false, Bool.false_and]
/-! ### labels drawn -/
theorem max_ints {m : Nat} {x : Int} {l : List Int} (h : S[m]? = some (.lst ((x :: l).map .int))) : bltI .max [.ref m] S = .ok (.int (l.foldl max x)) S := by
  have e : ∀ l : List Int, optAll intOf (l.map IV.int) = some l := by
    intro l
    induction l with
    | nil => rfl
    | cons x l ih => simp only [List.map_cons, optAll, intOf, ih]
  simp only [bltI, itemsI, h, e (x :: l)]
/-- what is drawn of labels: small numbers, numbered in the order of their first places -/
theorem goodL_snoc : ∀ (l : List Int) (u y : Int), goodL l u = true → 0 ≤ y → y ≤ l.foldl (fun m x => max m (x + 1)) u → goodL (l ++ [y]) u = true
  | [], u, y, _, h0, h1 => by
    simp only [List.foldl_nil] at h1
    simp [goodL, h0, h1]
  | x :: l, u, y, h, h0, h1 => by
    simp only [goodL, Bool.and_eq_true, decide_eq_true_eq] at h
    simp only [List.cons_append, goodL, Bool.and_eq_true, decide_eq_true_eq]
    refine ⟨h.1, goodL_snoc l _ y h.2 h0 ?_⟩
    have : (if x = u then u + 1 else u) = max u (x + 1) := by split <;> omega
    rw [this]
    simpa using h1
theorem foldl_succ : ∀ (l : List Int) (x : Int), l.foldl (fun m x => max m (x + 1)) (x + 1) = l.foldl max x + 1
  | [], x => rfl
  | y :: l, x => by
    simp only [List.foldl_cons]
    have : max (x + 1) (y + 1) = max x y + 1 := by omega
    rw [this]
    exact foldl_succ l (max x y)
theorem foldl_ge : ∀ (l : List Int) (x : Int), x ≤ l.foldl max x
  | [], x => Int.le_refl _
  | y :: l, x => by simp only [List.foldl_cons]; have := foldl_ge l (max x y); omega
theorem foldl_bd : ∀ (l : List Int) (x B : Int), x ≤ B → (∀ y ∈ l, y ≤ B) → l.foldl max x ≤ B
  | [], x, B, h, _ => h
  | y :: l, x, B, h, hl => by simp only [List.foldl_cons]; exact foldl_bd l _ B (by have := hl y (by simp); omega) fun z hz => hl z (by simp [hz])
/-- labels of n cases -/
structure Labs (n : Nat) (l : List Int) : Prop where
  len : l.length = n
  good : goodL l 0 = true
  bd : ∀ x ∈ l, 0 ≤ x ∧ x < n
theorem mem_snoc {α : Type} {x y : α} {l : List α} (h : x ∈ l ++ [y]) : x ∈ l ∨ x = y := by simpa using h
theorem l_labels_run (h : Has pr f d_l_labels) (hd : Has pr "_law_draw" d_l_draw) {n t N : Nat} {M : Int} (hN : 1 ≤ N) (hN2 : N ≤ 100) (hM : 1 ≤ M) (hM2 : M ≤ 100) (hs : Sup n t S) (ht : t + 100 ≤ 1000000000) :
    ∃ (l : List Int) (S' : Sto), run pr (k + 2) f [.ref n, .int N, .int M] S = .ok (.tup (l.map .int)) S' ∧ Labs N l ∧ (∀ x ∈ l, x < M) ∧ Ext n S S' ∧ Sup n (t + N) S' := by
  have hn := hs.lt
  rw [run_eq h rfl]
  have loop : ∀ (m : Nat) (y : Int) (l : List Int) (S1 : Sto) (t1 : Nat), (y :: l).length + m = N → Labs (y :: l).length (y :: l) → (∀ x ∈ y :: l, x < M) → Ext n S S1 → Sup n t1 S1 → t1 + m ≤ t + N → n ≠ S.length → S1[S.length]? = some (.lst ((y :: l).map .int)) →
      ∃ (y' : Int) (l' : List Int) (S2 : Sto), whileC (evE (gam pr (k + 1)) (.cmp .lt (.blt .len [(.loc 3)]) (.loc 1))) (evSs (gam pr (k + 1)) pr.sub lb_l_labels_1) [some (.ref n), some (.int N), some (.int M), some (.ref S.length)] S1 = .next [some (.ref n), some (.int N), some (.int M), some (.ref S.length)] S2 ∧
        Labs N (y' :: l') ∧ (∀ x ∈ y' :: l', x < M) ∧ Ext n S S2 ∧ Sup n (t + N) S2 ∧ S2[S.length]? = some (.lst ((y' :: l').map .int)) := by
    intro m
    induction m with
    | zero =>
      intro y l S1 t1 hl hL hlt x1 s1 h1 hne g
      refine ⟨y, l, S1, whileC_stop ?_, by rw [← hl]; simpa using hL, hlt, x1, s1.mono (by omega), g⟩
      have q : ¬ (((y :: l).map IV.int).length : Int) < (N : Int) := by simp at hl ⊢; omega
      simp only [x_cmp, x_blt, st_self, xs_cons, xs_nil, x_loc, List.getElem?_cons_zero, List.getElem?_cons_succ, getI_some, bind_ok, l_lst g, c_lt, q, decide_false]
    | succ m ih =>
      intro y l S1 t1 hl hL hlt x1 s1 h1 hne g
      have gm : 0 ≤ l.foldl max y := Int.le_trans (hL.bd y (by simp)).1 (foldl_ge l y)
      have gM : l.foldl max y ≤ 100 := foldl_bd l y 100 (by have := hlt y (by simp); omega) fun z hz => by have := hlt z (by simp [hz]); omega
      obtain ⟨r, S2, e2, r0, r1, s2, x2, len2⟩ := draw_new (k := k) hd s1 (by omega) (m := min (l.foldl max y + 2) M) (by omega) (by omega)
      have g2 : S2[S.length]? = some (.lst ((y :: l).map .int)) := x2.get g (fun z => hne z.symm)
      have hl' : ((y :: l).map IV.int).length < 1000000 := by simp at hl ⊢; omega
      have L1 : Labs (y :: (l ++ [r])).length (y :: (l ++ [r])) := by
        refine ⟨rfl, ?_, fun x hx => ?_⟩
        · refine goodL_snoc (y :: l) 0 r hL.good r0 ?_
          have gy := hL.good
          simp only [goodL, Bool.and_eq_true, decide_eq_true_eq] at gy
          have y0 : y = 0 := by omega
          subst y0
          simp only [List.foldl_cons]
          have := foldl_succ l 0
          simp only [Int.zero_add] at this
          rw [show max (0 : Int) (0 + 1) = 1 by decide, this]
          omega
        · have hmax : l.foldl max y + 1 ≤ (y :: l).length := by
            have := foldl_bd l y (((y :: l).length : Int) - 1) (by have := (hL.bd y (by simp)).2; omega) fun z hz => by have := (hL.bd z (by simp [hz])).2; omega
            omega
          rcases mem_snoc (l := y :: l) (by simpa using hx) with hx | rfl
          · have := hL.bd x hx
            simp at this ⊢; omega
          · simp at hmax ⊢; omega
      have hlt' : ∀ x ∈ y :: (l ++ [r]), x < M := fun x hx => by
        rcases mem_snoc (l := y :: l) (by simpa using hx) with hx | rfl
        · exact hlt x hx
        · omega
      have hlen2 : S.length < S2.length := get_lt g2
      have gs : (S2.set S.length (.lst ((y :: l).map .int ++ [.int r])))[S.length]? = some (.lst ((y :: (l ++ [r])).map .int)) := by rw [set_self hlen2]; simp
      have x3 : Ext n S (S2.set S.length (.lst ((y :: l).map .int ++ [.int r]))) := by
        refine ⟨by have := (x1.trans x2).len; simpa using this, fun i hi hin => ?_⟩
        rw [List.getElem?_set_ne (by omega)]
        exact (x1.trans x2).old i hi hin
      have s3 : Sup n (t1 + 1) (S2.set S.length (.lst ((y :: l).map .int ++ [.int r]))) := by
        obtain ⟨a, b, c, q, r⟩ := s2
        exact ⟨a, b, c, by rw [List.getElem?_set_ne (fun z => hne z.symm)]; exact q, r⟩
      obtain ⟨y', l', S3, e3, res⟩ := ih y (l ++ [r]) (S2.set S.length (.lst ((y :: l).map .int ++ [.int r]))) (t1 + 1) (by simp at hl ⊢; omega) L1 hlt' x3 s3 (by omega) hne gs
      refine ⟨y', l', S3, (whileC_step (S1 := S1) (τ2 := [some (.ref n), some (.int N), some (.int M), some (.ref S.length)]) (S2 := S2.set S.length (.lst ((y :: l).map .int ++ [.int r]))) ?_ ?_).trans e3, res⟩
      · have q : (((y :: l).map IV.int).length : Int) < (N : Int) := by simp at hl ⊢; omega
        simp only [x_cmp, x_blt, st_self, xs_cons, xs_nil, x_loc, List.getElem?_cons_zero, List.getElem?_cons_succ, getI_some, bind_ok, l_lst g, c_lt, q, decide_true]
      · simp only [lb_l_labels_1, s_cons, s_expr, x_mth, x_call, x_blt, st_self, xs_cons, xs_nil, x_loc, x_bin, x_k, List.getElem?_cons_zero, List.getElem?_cons_succ, getI_some, bind_ok, rcv_lst g, if_true, max_ints g, b_add, f_min, e2, app_lst g2 hl', thn_ok, seq_next, rest_eq, s_nil]
  obtain ⟨y', l', S2, e, hL, hlt, x2, s2, g2⟩ := loop (N - 1) 0 [] (S ++ [.lst [.int 0]]) t (by simp; omega) ⟨rfl, by simp [goodL], by simp⟩ (by simp; omega) .app hs.app (by omega) (by omega) get_app0
  simp only [d_l_labels, bind_ok, bind_exc, thn_ok, thn_exc, seq_next, seq_ret, seq_brk, seq_cnt, seq_exc, done_ret, done_next, done_exc, tr_ok, tr_exc, getI_some, getO_some, x_k, x_loc, x_glb, x_bin, x_neg, x_cmp, x_chain, x_and, x_or, x_not, x_ite, mkTu_0, mkTu_1, mkTu_2, mkTu_3, mkTu_4, mkLi_0, mkLi_1, mkLi_2, mkLi_3, mkLi_4, x_tup, x_lst, x_dct0, x_dct1, x_ix, x_sl, x_rev, r_tup, x_rgs, x_call, x_blt, st_self, st_exc, st_excA, x_gc, st_new, st_int, st_bl, st_str, x_att, x_met, metR_some, x_new, x_iso, x_calls, starR_tup, ok_only, s_fld, xi_enum, enumR_tup, xi_zip, zipR_tup, q_ret, q_next, q_brk, q_cnt, List.isEmpty_cons, List.isEmpty_nil, x_isi, x_mth, xs_nil, xs_cons, xo_none, intR_int, xo_some, xi_val, xi_rng, walkR_tup, walkR_str, x_lc, ts_nil, tsR_bl, ts_cons, pick_bl, s_nil, s_cons, rest_eq, s_expr, s_ret, s_retN, s_pass, s_brk, s_cnt, s_set, s_par, s_par3, s_sub, s_cond, s_whil, s_for, s_raise, s_try, cat_next, cat_ret, cat_brk, cat_cnt, s_aug, augR_some, aug_add, aug_sub, set_nm, ofO_some, set_tp, t_nil, t_nm, sT_nm, sT_tp, b_add, b_sub, n_int, c_lt, c_le, c_gt, c_ge, c_eq, c_ne, c_eqs, c_nes, c_eqb, i_tup, l_tup, f_abs, f_max, f_min, at0, at1, at2, settle_self, List.map_cons, List.map_nil, List.length_cons, List.length_nil, List.cons_append, List.nil_append, List.append_nil, List.getElem?_cons_zero, List.getElem?_cons_succ, List.set_cons_zero, List.set_cons_succ, List.replicate, Nat.sub_self, Nat.zero_add, Nat.reduceAdd, Nat.reduceSub, e, t_lst g2]
  exact ⟨y' :: l', _, rfl, hL, hlt, x2.settle _, s2.settle _ x2.len hn⟩
end
end Wg
/-! WhF: comprehensions that draw; tuples of whole numbers. -/
namespace Wg
open PySem L2
theorem lcGo_inv {one : IV → Sto → Rs (Option IV)} (I : Nat → Sto → Prop) (P : IV → Prop) (B : Nat) : ∀ (xs : List IV) (i : Nat) (acc : List IV) (S : Sto), I i S → i + xs.length ≤ B → acc.length + xs.length ≤ 1000000 →
    (∀ x ∈ xs, ∀ j S, j < B → I j S → ∃ y S', one x S = .ok (some y) S' ∧ P y ∧ I (j + 1) S') → ∃ ys S', lcGo one none xs acc S = .ok (acc ++ ys) S' ∧ ys.length = xs.length ∧ (∀ y ∈ ys, P y) ∧ I (i + xs.length) S'
  | [], i, acc, S, h, _, _, _ => ⟨[], S, by simp [lcGo, holds], rfl, by simp, by simpa using h⟩
  | x :: xs, i, acc, S, h, hB, hl, hs => by
    obtain ⟨y, S1, e1, p1, i1⟩ := hs x (by simp) i S (by simp at hB; omega) h
    obtain ⟨ys, S2, e2, l2, p2, i2⟩ := lcGo_inv I P B xs (i + 1) (acc ++ [y]) S1 i1 (by simp at hB; omega) (by simp at hl ⊢; omega) fun z hz => hs z (by simp [hz])
    have hz : szOk (acc.length + 1) = true := by simp at hl; simp [szOk]; omega
    refine ⟨y :: ys, S2, ?_, by simp [l2], fun z hz => ?_, ?_⟩
    · simp only [lcGo, holds, if_true, e1, hz, e2]
      simp
    · rcases List.mem_cons.mp hz with rfl | hz
      · exact p1
      · exact p2 z hz
    · have : i + (x :: xs).length = i + 1 + xs.length := by simp; omega
      rw [this]; exact i2
theorem ints_bd {a b : Int} : ∀ {ys : List IV}, (∀ y ∈ ys, ∃ i : Int, y = .int i ∧ a ≤ i ∧ i < b) → ∃ l : List Int, ys = l.map .int ∧ ∀ x ∈ l, a ≤ x ∧ x < b
  | [], _ => ⟨[], rfl, by simp⟩
  | y :: ys, h => by
    obtain ⟨i, rfl, h1, h2⟩ := h y (by simp)
    obtain ⟨l, rfl, hl⟩ := ints_bd (ys := ys) fun z hz => h z (by simp [hz])
    exact ⟨i :: l, rfl, fun x hx => by
      rcases List.mem_cons.mp hx with rfl | hx
      · exact ⟨h1, h2⟩
      · exact hl x hx⟩
theorem okVs_ints {l : List Int} (h : ∀ x ∈ l, x.natAbs < 2 ^ 250) : okVs (l.map .int) = true := okVs_iff.mpr fun x hx => by
  obtain ⟨i, hi, rfl⟩ := List.mem_map.mp hx
  have := log_of (h i hi) (by decide)
  simp only [okV, decide_eq_true_eq]
  omega
theorem wt_ints (l : List Int) : wtDs (dVs (l.map .int)) = 1923 * l.length := by
  induction l with
  | nil => simp [dVs, wtDs]
  | cons x l ih => simp only [List.map_cons, dVs, wtDs, dV, wtD, ih, List.length_cons]; omega
theorem dp_ints (l : List Int) : PyData.depthAll (dVs (l.map .int)) ≤ 1 := by
  induction l with
  | nil => simp [dVs, PyData.depthAll]
  | cons x l ih => simp only [List.map_cons, dVs, dV, PyData.depthAll, PyData.depth]; omega
theorem tup_ok {l : List Int} (h : ∀ x ∈ l, x.natAbs < 2 ^ 250) (hl : l.length ≤ 20) : okV (.tup (l.map .int)) = true ∧ wtD (dV (.tup (l.map .int))) ≤ 40000 ∧ (dV (.tup (l.map .int))).depth ≤ 2 := by
  refine ⟨by simp only [okV]; exact okVs_ints h, ?_, ?_⟩
  · simp only [dV, wtD, wt_ints]; omega
  · have := dp_ints l
    simp only [dV, PyData.depth]; omega
end Wg
/-! WjA: loops and comprehensions without a trace; fractions as rational numbers. -/
namespace Wg
open PySem L2
section
variable {Γ : Gam} {sub : Str → Str → Bool} {τ : Sl} {S : Sto}
/-! ### comprehensions -/
theorem lcGo_fm {one : IV → Sto → Rs (Option IV)} {held : Option (Nat × Cell)} (hh : holds held S = true) (g : IV → Option IV) : ∀ (xs acc : List IV), (∀ x ∈ xs, one x S = .ok (g x) S) → acc.length + xs.length ≤ 1000000 → lcGo one held xs acc S = .ok (acc ++ xs.filterMap g) S
  | [], acc, _, _ => by simp [lcGo, hh]
  | x :: xs, acc, h, hl => by
    have hz : szOk (acc.length + 1) = true := by simp at hl; simp [szOk]; omega
    have ih := fun acc' (hl' : acc'.length + xs.length ≤ 1000000) => lcGo_fm hh g xs acc' (fun y hy => h y (by simp [hy])) hl'
    simp only [lcGo, hh, if_true, h x (by simp), hz]
    cases e : g x with
    | none => simp only [List.filterMap_cons, e]; exact ih acc (by simp at hl; omega)
    | some y => simp only [List.filterMap_cons, e]; rw [ih (acc ++ [y]) (by simp at hl ⊢; omega)]; simp
/-- a comprehension whose turns leave no trace -/
theorem lc_pure {own : List Nat} {tg : Tg} {it : PIt} {ifs : List PX} {elt : PX} {items : List IV} {held : Option (Nat × Cell)} (g : IV → Option IV) (hit : evI Γ it τ S = .ok ⟨items, held⟩ S) (hh : holds held S = true) (hl : items.length ≤ 1000000)
    (hg : ∀ x ∈ items, lcOne Γ own tg ifs elt τ x S = .ok (g x) S) : evE Γ (.lc own tg it ifs elt) τ S = .ok (.ref S.length) (S ++ [.lst (items.filterMap g)]) := by
  rw [x_lc, hit, bind_ok, lcGo_fm hh g items [] hg (by simpa using hl), bind_ok]
  rfl
theorem fm_map {α β : Type} {f : α → β} : ∀ xs : List α, xs.filterMap (fun x => some (f x)) = xs.map f
  | [] => rfl
  | x :: xs => by simp [fm_map xs]
theorem fm_filter {α β : Type} {p : α → Bool} {f : α → β} : ∀ xs : List α, xs.filterMap (fun x => if p x then some (f x) else none) = (xs.filter p).map f
  | [] => rfl
  | x :: xs => by
    rw [List.filterMap_cons, List.filter_cons]
    cases p x <;> simp [fm_filter xs]
theorem blt_lc {f : Bf} {own : List Nat} {tg : Tg} {it : PIt} {ifs : List PX} {elt : PX} {ys : List IV} {v : IV} (h : evE Γ (.lc own tg it ifs elt) τ S = .ok (.ref S.length) (S ++ [.lst ys])) (hb : bltI f [.ref S.length] (S ++ [.lst ys]) = .ok v (S ++ [.lst ys])) (hv : v.lt S.length = true) :
    evE Γ (.blt f [.lc own tg it ifs elt]) τ S = .ok v S := by
  rw [x_blt, xs_cons, h, bind_ok, xs_nil, bind_ok, bind_ok, hb]
  simp only [Rs.settle]
  rw [settle_append hv]
theorem app_at {G : Sto} {c : Cell} : (S ++ c :: G)[S.length]? = some c := by simp
theorem tup_b {ys : List IV} : bltI .tuple [.ref S.length] (S ++ [.lst ys]) = .ok (.tup ys) (S ++ [.lst ys]) := t_lst app_at
theorem ints_all : ∀ l : List Int, optAll intOf (l.map IV.int) = some l
  | [] => rfl
  | x :: l => by simp only [List.map_cons, optAll, intOf, ints_all l]
theorem sum_b {l : List Int} : bltI .sum [.ref S.length] (S ++ [.lst (l.map .int)]) = .ok (.int l.sum) (S ++ [.lst (l.map .int)]) := by
  simp only [bltI, itemsI, app_at, ints_all]
theorem max_t {m : Int} {l : List Int} : bltI .max [.tup ((m :: l).map .int)] S = .ok (.int (l.foldl max m)) S := by
  simp only [bltI, itemsI, ints_all]
theorem ltAll_iff {n : Nat} : ∀ {xs : List IV}, ltAll n xs = true ↔ ∀ x ∈ xs, x.lt n = true
  | [] => by simp [ltAll]
  | x :: xs => by simp [ltAll, ltAll_iff (xs := xs)]
/-! ### loops -/
/-- a for: T the slots, St the store, by the turn -/
theorem forGo_st {body : Sl → Sto → Rz} {tg : Tg} {held : Option (Nat × Cell)} (T : Nat → Option IV → Sl) (St : Nat → Sto) : ∀ (xs : List IV) (i : Nat) (o : Option IV), (∀ j o x, setT tg x (T j o) = some (T j (some x))) → (∀ j, i ≤ j → j ≤ i + xs.length → holds held (St j) = true) →
    (∀ j x, xs[j]? = some x → body (T (i + j) (some x)) (St (i + j)) = .next (T (i + j + 1) (some x)) (St (i + j + 1))) → ∃ o', forGo body tg held xs (T i o) (St i) = .next (T (i + xs.length) o') (St (i + xs.length))
  | [], i, o, _, hh, _ => ⟨o, by simp only [forGo, List.length_nil, Nat.add_zero]; rw [if_pos (hh i (Nat.le_refl _) (by simp))]⟩
  | x :: xs, i, o, hs, hh, hb => by
    obtain ⟨o', e⟩ := forGo_st T St xs (i + 1) (some x) hs (fun j h1 h2 => hh j (by omega) (by simp at h2 ⊢; omega)) (fun j y hj => by
      have := hb (j + 1) y (by simpa using hj)
      rw [show i + 1 + j = i + (j + 1) by omega]
      exact this)
    have b0 := hb 0 x rfl
    rw [Nat.add_zero] at b0
    refine ⟨o', ?_⟩
    simp only [forGo, hh i (Nat.le_refl _) (by simp), if_true, hs i o x, b0]
    rw [e, List.length_cons, show i + 1 + xs.length = i + (xs.length + 1) by omega]
theorem set_last {c d : Cell} : (S ++ [c]).set S.length d = S ++ [d] := set_app
theorem app_last {xs : List IV} {y : IV} (hl : xs.length < 1000000) : mthI "append" (.ref S.length) [y] (S ++ [.lst xs]) = .ok .non (S ++ [.lst (xs ++ [y])]) := by
  rw [app_lst app_at hl, set_last]
theorem rcv_last {xs : List IV} : rcvI (.ref S.length) (S ++ [.lst xs]) = true := rcv_lst app_at
end
/-! ### fractions -/
def fr (q : Rat) : IV := .tup [.int q.num, .int q.den]
/-- a fraction of numbers of fewer than n bits -/
def Bd (n : Nat) (q : Rat) : Prop := q.num.natAbs < 2 ^ n ∧ q.den < 2 ^ n
theorem Bd.mono {n m : Nat} {q : Rat} (h : Bd n q) (hm : n ≤ m) : Bd m q := ⟨Nat.lt_of_lt_of_le h.1 (Nat.pow_le_pow_right (by decide) hm), Nat.lt_of_lt_of_le h.2 (Nat.pow_le_pow_right (by decide) hm)⟩
theorem den_pos (q : Rat) : (0 : Int) < (q.den : Int) := by have := q.den_pos; omega
end Wg
/-! WjB: the parts of labels. -/
namespace Wg
open PySem L2
def d_check_labels : PD := ⟨1, 1, [
    .cond (.not (.call "is_valid_labels" [(.loc 0)])) [
      .raise "InvalidLabelsError"] []]⟩
def lb_grouped_1 : List Sm := [
      .expr (.mth "append" (.loc 1) [(.blt .tuple [(.lc [3, 4] (.tp [(.nm 3), (.nm 4)]) (.enum (.loc 0)) [(.cmp .eq (.loc 4) (.loc 2))] (.loc 3))])])]
def d_grouped : PD := ⟨1, 5, [
    .set (.nm 1) (.lst []),
    .for (.nm 2) (.rng [(.bin .add (.blt .max [(.loc 0)]) (.k (.int 1)))]) lb_grouped_1,
    .ret (.blt .tuple [(.loc 1)])]⟩
/-- the largest -/
def mx : List Int → Int
  | [] => 0
  | m :: l => l.foldl max m
/-- the cases of a label -/
def pt (l : List Int) (c : Int) : List Int := ((List.range l.length).filter fun i => decide (l[i]? = some c)).map fun i : Nat => (i : Int)
def ptV (l : List Int) (c : Int) : IV := .tup ((pt l c).map .int)
def partsV (l : List Int) : IV := .tup ((upto (mx l + 1).toNat).map fun c => ptV l c)
def gE (c : Int) : IV → Option IV
  | .tup [i, .int y] => if y = c then some i else none
  | _ => none
theorem enum_pt (c : Int) : ∀ (l : List Int) (n : Nat), (((l.map IV.int).zipIdx n).map fun p => IV.tup [.int (p.2 : Nat), p.1]).filterMap (gE c) = ((List.range l.length).filter fun i => decide (l[i]? = some c)).map fun i : Nat => .int ((i + n : Nat) : Int)
  | [], n => rfl
  | x :: l, n => by
    have ih := enum_pt c l (n + 1)
    rw [List.map_cons, List.zipIdx_cons, List.map_cons, List.filterMap_cons, List.length_cons, List.range_succ_eq_map, List.filter_cons, List.filter_map, ih]
    have e : ((fun i => decide ((x :: l)[i]? = some c)) ∘ Nat.succ) = fun i => decide (l[i]? = some c) := by funext i; simp
    rw [e]
    have hm : List.map (fun i : Nat => IV.int ((i + (n + 1) : Nat) : Int)) (List.filter (fun i => decide (l[i]? = some c)) (List.range l.length)) = List.map (fun i : Nat => IV.int ((i + n : Nat) : Int)) (List.map Nat.succ (List.filter (fun i => decide (l[i]? = some c)) (List.range l.length))) := by
      rw [List.map_map]
      congr 1
      funext i
      simp only [Function.comp]
      congr 2
      omega
    by_cases hx : x = c
    · subst hx
      simp only [gE, if_true, List.getElem?_cons_zero, decide_true, List.map_cons, Nat.zero_add]
      exact congrArg _ hm
    · have hx' : ¬ (some x = some c) := by simpa using hx
      simp only [gE, if_neg hx, List.getElem?_cons_zero, hx', decide_false, Bool.false_eq_true, if_false]
      exact hm
theorem enum_ptV (l : List Int) (c : Int) : (enumI (l.map IV.int)).filterMap (gE c) = (pt l c).map .int := by
  have := enum_pt c l 0
  simp only [enumI]
  rw [this, pt, List.map_map]
  rfl
theorem mem_enum {x : IV} {l : List Int} (h : x ∈ enumI (l.map .int)) : ∃ (i : Nat) (y : Int), x = .tup [.int i, .int y] := by
  simp only [enumI, List.mem_map] at h
  obtain ⟨⟨v, i⟩, hp, rfl⟩ := h
  obtain ⟨z, hz, e⟩ := List.mem_map.mp ((List.mk_mem_zipIdx_iff_getElem?.mp hp |> List.mem_of_getElem?))
  exact ⟨i, z, by rw [← e]⟩
theorem len_enum {xs : List IV} : (enumI xs).length = xs.length := by simp [enumI]
section
variable {pr : Prg} {k : Nat} {S : Sto} {f : Str}
theorem big1 : 1001 < 4000000000000000000 := by decide
theorem rng_small {K : Nat} (h : K ≤ 1001) : rngR [.int (K : Nat)] S = .ok ⟨rngI K, none⟩ S := rngR_nat (Nat.lt_of_le_of_lt h big1)
theorem it_rng {Γ : Gam} {τ : Sl} {S' : Sto} {es : List PX} {K : Nat} (h : evEs Γ es τ S = .ok [.int K] S') (hK : K ≤ 1001) : evI Γ (.rng es) τ S = .ok ⟨rngI K, none⟩ S' := by
  rw [xi_rng, h, bind_ok]
  exact rng_small hK
theorem ptV_lt {l : List Int} {c : Int} {n : Nat} : (ptV l c).lt n = true := lt_ints _ _
theorem max_tl {l : List Int} (h : l ≠ []) : bltI .max [.tup (l.map .int)] S = .ok (.int (mx l)) S := by
  cases l with
  | nil => exact absurd rfl h
  | cons m l => exact max_t
theorem partsV_lt {l : List Int} {n : Nat} : (partsV l).lt n = true := by
  simp only [partsV, IV.lt]
  rw [ltAll_iff]
  intro x hx
  obtain ⟨c, _, rfl⟩ := List.mem_map.mp hx
  exact ptV_lt
theorem part_lc {Γ : Gam} {l : List Int} {c : Int} {o1 o3 o4 : Option IV} (hn : l.length ≤ 1000) : evE Γ (.blt .tuple [(.lc [3, 4] (.tp [(.nm 3), (.nm 4)]) (.enum (.loc 0)) [(.cmp .eq (.loc 4) (.loc 2))] (.loc 3))]) [some (.tup (l.map .int)), o1, some (.int c), o3, o4] S = .ok (ptV l c) S := by
  refine blt_lc (ys := (pt l c).map .int) ?_ tup_b ptV_lt
  rw [← enum_ptV]
  refine lc_pure (items := enumI (l.map .int)) (held := none) (gE c) ?_ rfl (by rw [len_enum, List.length_map]; omega) ?_
  · simp only [bind_ok, bind_exc, thn_ok, thn_exc, seq_next, seq_ret, seq_brk, seq_cnt, seq_exc, done_ret, done_next, done_exc, tr_ok, tr_exc, getI_some, getO_some, x_k, x_loc, x_glb, x_bin, x_neg, x_cmp, x_chain, x_and, x_or, x_not, x_ite, mkTu_0, mkTu_1, mkTu_2, mkTu_3, mkTu_4, mkLi_0, mkLi_1, mkLi_2, mkLi_3, mkLi_4, x_tup, x_lst, x_dct0, x_dct1, x_ix, x_sl, x_rev, r_tup, x_rgs, x_call, x_blt, st_self, st_exc, st_excA, x_gc, st_new, st_int, st_bl, st_str, x_att, x_met, metR_some, x_new, x_iso, x_calls, starR_tup, ok_only, s_fld, xi_enum, enumR_tup, xi_zip, zipR_tup, q_ret, q_next, q_brk, q_cnt, List.isEmpty_cons, List.isEmpty_nil, x_isi, x_mth, xs_nil, xs_cons, xo_none, intR_int, xo_some, xi_val, xi_rng, walkR_tup, walkR_str, x_lc, ts_nil, tsR_bl, ts_cons, pick_bl, s_nil, s_cons, rest_eq, s_expr, s_ret, s_retN, s_pass, s_brk, s_cnt, s_set, s_par, s_par3, s_sub, s_cond, s_whil, s_for, s_raise, s_try, cat_next, cat_ret, cat_brk, cat_cnt, s_aug, augR_some, aug_add, aug_sub, set_nm, ofO_some, set_tp, t_nil, t_nm, sT_nm, sT_tp, b_add, b_sub, n_int, c_lt, c_le, c_gt, c_ge, c_eq, c_ne, c_eqs, c_nes, c_eqb, i_tup, l_tup, f_abs, f_max, f_min, at0, at1, at2, settle_self, List.map_cons, List.map_nil, List.length_cons, List.length_nil, List.cons_append, List.nil_append, List.append_nil, List.getElem?_cons_zero, List.getElem?_cons_succ, List.set_cons_zero, List.set_cons_succ, List.replicate, Nat.sub_self, Nat.zero_add, Nat.reduceAdd, Nat.reduceSub]
  · intro x hx
    obtain ⟨i, y, rfl⟩ := mem_enum hx
    simp only [lcOne, wipeI, bind_ok, bind_exc, thn_ok, thn_exc, seq_next, seq_ret, seq_brk, seq_cnt, seq_exc, done_ret, done_next, done_exc, tr_ok, tr_exc, getI_some, getO_some, x_k, x_loc, x_glb, x_bin, x_neg, x_cmp, x_chain, x_and, x_or, x_not, x_ite, mkTu_0, mkTu_1, mkTu_2, mkTu_3, mkTu_4, mkLi_0, mkLi_1, mkLi_2, mkLi_3, mkLi_4, x_tup, x_lst, x_dct0, x_dct1, x_ix, x_sl, x_rev, r_tup, x_rgs, x_call, x_blt, st_self, st_exc, st_excA, x_gc, st_new, st_int, st_bl, st_str, x_att, x_met, metR_some, x_new, x_iso, x_calls, starR_tup, ok_only, s_fld, xi_enum, enumR_tup, xi_zip, zipR_tup, q_ret, q_next, q_brk, q_cnt, List.isEmpty_cons, List.isEmpty_nil, x_isi, x_mth, xs_nil, xs_cons, xo_none, intR_int, xo_some, xi_val, xi_rng, walkR_tup, walkR_str, x_lc, ts_nil, tsR_bl, ts_cons, pick_bl, s_nil, s_cons, rest_eq, s_expr, s_ret, s_retN, s_pass, s_brk, s_cnt, s_set, s_par, s_par3, s_sub, s_cond, s_whil, s_for, s_raise, s_try, cat_next, cat_ret, cat_brk, cat_cnt, s_aug, augR_some, aug_add, aug_sub, set_nm, ofO_some, set_tp, t_nil, t_nm, sT_nm, sT_tp, b_add, b_sub, n_int, c_lt, c_le, c_gt, c_ge, c_eq, c_ne, c_eqs, c_nes, c_eqb, i_tup, l_tup, f_abs, f_max, f_min, at0, at1, at2, settle_self, List.map_cons, List.map_nil, List.length_cons, List.length_nil, List.cons_append, List.nil_append, List.append_nil, List.getElem?_cons_zero, List.getElem?_cons_succ, List.set_cons_zero, List.set_cons_succ, List.replicate, Nat.sub_self, Nat.zero_add, Nat.reduceAdd, Nat.reduceSub, gE, decide_eq_true_eq]
    split <;> simp_all only [if_true, if_false, Bool.false_eq_true, decide_true, decide_false, bind_ok, x_loc, List.getElem?_cons_zero, List.getElem?_cons_succ, getI_some]
theorem grouped_run (h : Has pr f d_grouped) {l : List Int} (hl : l ≠ []) (hn : l.length ≤ 1000) (h0 : 0 ≤ mx l) (h1 : mx l ≤ 1000) : run pr (k + 1) f [.tup (l.map .int)] S = .ok (partsV l) S := by
  rw [run_eq h rfl]
  obtain ⟨K, hK, hKK⟩ : ∃ K : Nat, mx l + 1 = (K : Int) ∧ (mx l + 1).toNat = K := ⟨(mx l + 1).toNat, by omega, rfl⟩
  have rr : evI (gam pr k) (.rng [(.bin .add (.blt .max [(.loc 0)]) (.k (.int 1)))]) [some (.tup (l.map .int)), some (.ref S.length), none, none, none] (S ++ [.lst []]) = .ok ⟨rngI K, none⟩ (S ++ [.lst []]) := it_rng (by simp only [bind_ok, bind_exc, thn_ok, thn_exc, seq_next, seq_ret, seq_brk, seq_cnt, seq_exc, done_ret, done_next, done_exc, tr_ok, tr_exc, getI_some, getO_some, x_k, x_loc, x_glb, x_bin, x_neg, x_cmp, x_chain, x_and, x_or, x_not, x_ite, mkTu_0, mkTu_1, mkTu_2, mkTu_3, mkTu_4, mkLi_0, mkLi_1, mkLi_2, mkLi_3, mkLi_4, x_tup, x_lst, x_dct0, x_dct1, x_ix, x_sl, x_rev, r_tup, x_rgs, x_call, x_blt, st_self, st_exc, st_excA, x_gc, st_new, st_int, st_bl, st_str, x_att, x_met, metR_some, x_new, x_iso, x_calls, starR_tup, ok_only, s_fld, xi_enum, enumR_tup, xi_zip, zipR_tup, q_ret, q_next, q_brk, q_cnt, List.isEmpty_cons, List.isEmpty_nil, x_isi, x_mth, xs_nil, xs_cons, xo_none, intR_int, xo_some, xi_val, xi_rng, walkR_tup, walkR_str, x_lc, ts_nil, tsR_bl, ts_cons, pick_bl, s_nil, s_cons, rest_eq, s_expr, s_ret, s_retN, s_pass, s_brk, s_cnt, s_set, s_par, s_par3, s_sub, s_cond, s_whil, s_for, s_raise, s_try, cat_next, cat_ret, cat_brk, cat_cnt, s_aug, augR_some, aug_add, aug_sub, set_nm, ofO_some, set_tp, t_nil, t_nm, sT_nm, sT_tp, b_add, b_sub, n_int, c_lt, c_le, c_gt, c_ge, c_eq, c_ne, c_eqs, c_nes, c_eqb, i_tup, l_tup, f_abs, f_max, f_min, at0, at1, at2, settle_self, List.map_cons, List.map_nil, List.length_cons, List.length_nil, List.cons_append, List.nil_append, List.append_nil, List.getElem?_cons_zero, List.getElem?_cons_succ, List.set_cons_zero, List.set_cons_succ, List.replicate, Nat.sub_self, Nat.zero_add, Nat.reduceAdd, Nat.reduceSub, max_tl hl, hK]) (by omega)
  have loop := forGo_st (body := evSs (gam pr k) pr.sub lb_grouped_1) (tg := .nm 2) (held := none) (fun _ o => [some (.tup (l.map .int)), some (.ref S.length), o, none, none]) (fun j => S ++ [.lst (((upto K).map fun c => ptV l c).take j)]) (rngI K) 0 none
    (fun j o x => rfl) (fun _ _ _ => rfl) (fun j x hx => by
      obtain ⟨hj, rfl⟩ := rng_item hx
      have gg : ((upto K).map fun c => ptV l c)[j]? = some (ptV l j) := by simp [upto, List.getElem?_map, hj]
      have tk : ((upto K).map fun c => ptV l c).take (j + 1) = ((upto K).map fun c => ptV l c).take j ++ [ptV l j] := by rw [List.take_add_one, gg]; rfl
      simp only [Nat.zero_add, lb_grouped_1, s_cons, s_expr, x_mth, xs_cons, xs_nil, part_lc hn, bind_ok, x_loc, List.getElem?_cons_zero, List.getElem?_cons_succ, getI_some, rcv_last, if_true]
      rw [app_last (by have := List.length_take_le j ((upto K).map fun c => ptV l c); have : j ≤ 2000 := by omega
                       omega)]
      simp only [thn_ok, seq_next, rest_eq, s_nil, tk])
  obtain ⟨o', e⟩ := loop
  rw [Nat.zero_add, List.take_zero] at e
  simp only [d_grouped, List.map_cons, List.map_nil, List.length_cons, List.length_nil, List.replicate, Nat.zero_add, Nat.reduceSub, List.cons_append, List.nil_append, s_cons, s_set, s_ret, s_for, x_lst, xs_nil, bind_ok, mkLi_0, st_new, thn_ok, set_nm, List.set_cons_zero, List.set_cons_succ, seq_next, rest_eq, rr, e]
  rw [show (List.take (rngI K).length (List.map (fun c => ptV l c) (upto K))) = List.map (fun c => ptV l c) (upto K) by rw [List.take_of_length_le]; simp [rngI, upto]]
  have z : IV.tup (List.map (fun c => ptV l c) (upto K)) = partsV l := by rw [partsV, hKK]
  simp only [x_blt, xs_cons, xs_nil, x_loc, List.getElem?_cons_zero, List.getElem?_cons_succ, getI_some, bind_ok, t_lst app_at, st_self, thn_ok, seq_ret, done_ret, z, settle_append partsV_lt]
theorem goodL_bd : ∀ (l : List Int) (u : Nat), goodL l u = true → ∀ x ∈ l, 0 ≤ x ∧ x < u + l.length
  | [], u, h => by simp
  | x :: l, u, h => by
    simp only [goodL, Bool.and_eq_true, decide_eq_true_eq] at h
    obtain ⟨⟨h1, h2⟩, h3⟩ := h
    intro y hy
    have h4 : ∃ u' : Nat, (if x = (u : Int) then (u : Int) + 1 else (u : Int)) = (u' : Int) ∧ u' ≤ u + 1 := by
      split
      · exact ⟨u + 1, by omega, by omega⟩
      · exact ⟨u, rfl, by omega⟩
    obtain ⟨u', e, hu⟩ := h4
    rw [e] at h3
    have ih := goodL_bd l u' h3
    rcases List.mem_cons.mp hy with rfl | hy
    · simp; omega
    · have := ih y hy
      simp; omega
/-- valid labels -/
structure Lab (l : List Int) : Prop where
  ne : l ≠ []
  len : l.length ≤ 12
  good : goodL l 0 = true
theorem Lab.bd {l : List Int} (h : Lab l) : ∀ x ∈ l, 0 ≤ x ∧ x < l.length := fun x hx => by
  have := goodL_bd l 0 h.good x hx
  simp at this; omega
theorem mx_mem {l : List Int} (h : l ≠ []) : mx l ∈ l := by
  cases l with
  | nil => exact absurd rfl h
  | cons m l =>
    show l.foldl max m ∈ m :: l
    clear h
    induction l generalizing m with
    | nil => simp
    | cons y l ih =>
      simp only [List.foldl_cons]
      have := ih (max m y)
      rcases List.mem_cons.mp this with h | h
      · rw [h]
        rcases (by omega : max m y = m ∨ max m y = y) with e | e <;> rw [e] <;> simp
      · simp [h]
theorem le_mx {l : List Int} {x : Int} (h : x ∈ l) : x ≤ mx l := by
  cases l with
  | nil => cases h
  | cons m l =>
    show x ≤ l.foldl max m
    induction l generalizing m with
    | nil => simp at h; subst h; exact Int.le_refl _
    | cons y l ih =>
      simp only [List.foldl_cons]
      rcases List.mem_cons.mp h with rfl | h
      · have := foldl_ge l (max x y); omega
      · rcases List.mem_cons.mp h with rfl | h
        · have := foldl_ge l (max m x); omega
        · exact ih (max m y) (by simp [h])
theorem Lab.mx0 {l : List Int} (h : Lab l) : 0 ≤ mx l ∧ mx l < 12 := by
  have := h.bd _ (mx_mem h.ne)
  have := h.len
  omega
theorem Lab.valid {l : List Int} (h : Lab l) : validLab (.tup (l.map .int)) = true := by
  have h1 := h.len
  have h2 : 1 ≤ l.length := by have := h.ne; cases l with | nil => exact absurd rfl this | cons _ _ => simp
  rw [validLab_tup, goodV_ints, h.good, List.length_map]
  simp [h1, h2]
theorem lab_of {v : IV} (h : validLab v = true) : ∃ l : List Int, v = .tup (l.map .int) ∧ Lab l := by
  cases v with
  | tup xs =>
    rw [validLab_tup] at h
    simp only [Bool.and_eq_true, decide_eq_true_eq] at h
    obtain ⟨⟨h1, h2⟩, h3⟩ := h
    obtain ⟨l, rfl⟩ := goodV_form xs 0 h3
    rw [goodV_ints] at h3
    rw [List.length_map] at h1 h2
    exact ⟨l, rfl, fun z => by subst z; simp at h1, h2, h3⟩
  | _ => cases h
theorem check_lab (h : Has pr f d_check_labels) (hv : Has pr "is_valid_labels" d_is_valid_labels) (hi : Has pr "is_integer" d_is_integer) (hg : pr.glob.lookup (Str.ofString "MOST_CASES") = some (IV.int 12)) {v : IV} {d : PyData} (hd : toD S v = some d) :
    run pr (k + 3) f [v] S = if validLab v = true then .ok .non S else .exc "InvalidLabelsError" S := by
  rw [run_eq h rfl]
  have v1 := labels_run (pr := pr) (k := k) (S := S) (f := "is_valid_labels") hv hi hg hd
  cases e : validLab v with
  | true => simp only [d_check_labels, bind_ok, bind_exc, thn_ok, thn_exc, seq_next, seq_ret, seq_brk, seq_cnt, seq_exc, done_ret, done_next, done_exc, tr_ok, tr_exc, getI_some, getO_some, x_k, x_loc, x_glb, x_bin, x_neg, x_cmp, x_chain, x_and, x_or, x_not, x_ite, mkTu_0, mkTu_1, mkTu_2, mkTu_3, mkTu_4, mkLi_0, mkLi_1, mkLi_2, mkLi_3, mkLi_4, x_tup, x_lst, x_dct0, x_dct1, x_ix, x_sl, x_rev, r_tup, x_rgs, x_call, x_blt, st_self, st_exc, st_excA, x_gc, st_new, st_int, st_bl, st_str, x_att, x_met, metR_some, x_new, x_iso, x_calls, starR_tup, ok_only, s_fld, xi_enum, enumR_tup, xi_zip, zipR_tup, q_ret, q_next, q_brk, q_cnt, List.isEmpty_cons, List.isEmpty_nil, x_isi, x_mth, xs_nil, xs_cons, xo_none, intR_int, xo_some, xi_val, xi_rng, walkR_tup, walkR_str, x_lc, ts_nil, tsR_bl, ts_cons, pick_bl, s_nil, s_cons, rest_eq, s_expr, s_ret, s_retN, s_pass, s_brk, s_cnt, s_set, s_par, s_par3, s_sub, s_cond, s_whil, s_for, s_raise, s_try, cat_next, cat_ret, cat_brk, cat_cnt, s_aug, augR_some, aug_add, aug_sub, set_nm, ofO_some, set_tp, t_nil, t_nm, sT_nm, sT_tp, b_add, b_sub, n_int, c_lt, c_le, c_gt, c_ge, c_eq, c_ne, c_eqs, c_nes, c_eqb, i_tup, l_tup, f_abs, f_max, f_min, at0, at1, at2, settle_self, List.map_cons, List.map_nil, List.length_cons, List.length_nil, List.cons_append, List.nil_append, List.append_nil, List.getElem?_cons_zero, List.getElem?_cons_succ, List.set_cons_zero, List.set_cons_succ, List.replicate, Nat.sub_self, Nat.zero_add, Nat.reduceAdd, Nat.reduceSub, v1, e, Bool.not_true, Bool.false_eq_true, if_false, if_true]
  | false => simp only [d_check_labels, bind_ok, bind_exc, thn_ok, thn_exc, seq_next, seq_ret, seq_brk, seq_cnt, seq_exc, done_ret, done_next, done_exc, tr_ok, tr_exc, getI_some, getO_some, x_k, x_loc, x_glb, x_bin, x_neg, x_cmp, x_chain, x_and, x_or, x_not, x_ite, mkTu_0, mkTu_1, mkTu_2, mkTu_3, mkTu_4, mkLi_0, mkLi_1, mkLi_2, mkLi_3, mkLi_4, x_tup, x_lst, x_dct0, x_dct1, x_ix, x_sl, x_rev, r_tup, x_rgs, x_call, x_blt, st_self, st_exc, st_excA, x_gc, st_new, st_int, st_bl, st_str, x_att, x_met, metR_some, x_new, x_iso, x_calls, starR_tup, ok_only, s_fld, xi_enum, enumR_tup, xi_zip, zipR_tup, q_ret, q_next, q_brk, q_cnt, List.isEmpty_cons, List.isEmpty_nil, x_isi, x_mth, xs_nil, xs_cons, xo_none, intR_int, xo_some, xi_val, xi_rng, walkR_tup, walkR_str, x_lc, ts_nil, tsR_bl, ts_cons, pick_bl, s_nil, s_cons, rest_eq, s_expr, s_ret, s_retN, s_pass, s_brk, s_cnt, s_set, s_par, s_par3, s_sub, s_cond, s_whil, s_for, s_raise, s_try, cat_next, cat_ret, cat_brk, cat_cnt, s_aug, augR_some, aug_add, aug_sub, set_nm, ofO_some, set_tp, t_nil, t_nm, sT_nm, sT_tp, b_add, b_sub, n_int, c_lt, c_le, c_gt, c_ge, c_eq, c_ne, c_eqs, c_nes, c_eqb, i_tup, l_tup, f_abs, f_max, f_min, at0, at1, at2, settle_self, List.map_cons, List.map_nil, List.length_cons, List.length_nil, List.cons_append, List.nil_append, List.append_nil, List.getElem?_cons_zero, List.getElem?_cons_succ, List.set_cons_zero, List.set_cons_succ, List.replicate, Nat.sub_self, Nat.zero_add, Nat.reduceAdd, Nat.reduceSub, v1, e, Bool.not_false, Bool.false_eq_true, if_false, if_true]
end
end Wg
/-! WjC: the arithmetic of fractions. -/
namespace Wg
open PySem L2
def d_is_positive : PD := ⟨1, 1, [
    .ret (.and (.call "is_valid_fraction" [(.loc 0)]) (.cmp .gt (.ix (.loc 0) (.k (.int 0))) (.k (.int 0))))]⟩
/-- the sum by a def -/
def d_plusBy (f : Str) : PD := ⟨2, 2, [
    .ret (.call f [(.bin .add (.bin .mul (.ix (.loc 0) (.k (.int 0))) (.ix (.loc 1) (.k (.int 1)))) (.bin .mul (.ix (.loc 1) (.k (.int 0))) (.ix (.loc 0) (.k (.int 1))))), (.bin .mul (.ix (.loc 0) (.k (.int 1))) (.ix (.loc 1) (.k (.int 1))))])]⟩
def lb_addedBy (g : Str) : List Sm := [
      .set (.nm 1) (.call g [(.loc 1), (.loc 2)])]
def d_addedBy (g : Str) : PD := ⟨1, 3, [
    .set (.nm 1) (.tup [(.k (.int 0)), (.k (.int 1))]),
    .for (.nm 2) (.val (.loc 0)) (lb_addedBy g),
    .ret (.loc 1)]⟩
section
variable {pr : Prg} {k : Nat} {S : Sto} {f g : Str}
/-- f makes fractions of two numbers -/
def MkF (pr : Prg) (f : Str) : Prop := ∀ (k : Nat) (S : Sto) (a b : Int), b ≠ 0 → b.natAbs < 2 ^ 8000 → run pr (k + 2) f [.int a, .int b] S = .ok (fr (Rat.divInt a b)) S
theorem pw_le {x n m : Nat} (h : x < 2 ^ n) (hn : n ≤ m) : x < 2 ^ m := Nat.lt_of_lt_of_le h (Nat.pow_le_pow_right (by decide) hn)
/-- a loop that gathers fractions -/
theorem holds_lst {n : Nat} {xs : List IV} (h : S[n]? = some (.lst xs)) : holds (some (n, .lst xs)) S = true := by simp only [holds, h, Cell.eqb_refl]
def sumR (qs : List Rat) : Rat := qs.foldl (· + ·) 0
/-- a loop that looks at each -/
theorem check_loop {Γ : Gam} {sub : Str → Str → Bool} {body : List Sm} {tg : Tg} {c : Str} (ok : IV → Bool) (T : Option IV → Sl) (hs : ∀ o x, setT tg x (T o) = some (T (some x))) : ∀ (vs : List IV) (o : Option IV),
    (∀ v ∈ vs, evSs Γ sub body (T (some v)) S = if ok v = true then .next (T (some v)) S else .exc c (T (some v)) S) → ∃ o', forGo (evSs Γ sub body) tg none vs (T o) S = if vs.all ok = true then .next (T o') S else .exc c (T o') S
  | [], o, _ => ⟨o, by simp only [forGo, holds, if_true, List.all_nil]⟩
  | v :: vs, o, hb => by
    have b := hb v (by simp)
    cases e : ok v with
    | true =>
      rw [e, if_pos rfl] at b
      obtain ⟨o', e'⟩ := check_loop ok T hs vs (some v) (fun w hw => hb w (by simp [hw]))
      refine ⟨o', ?_⟩
      simp only [forGo, holds, if_true, hs, b, e', List.all_cons, e, Bool.true_and]
    | false =>
      rw [e, if_neg (by decide)] at b
      refine ⟨some v, ?_⟩
      simp only [forGo, holds, if_true, hs, b, List.all_cons, e, Bool.false_and, Bool.false_eq_true, if_false]
theorem validF_fr (q : Rat) : validF (fr q) = true := by
  have := den_pos q
  have h := q.reduced
  simp only [fr, validF, Bool.and_eq_true, decide_eq_true_eq]
  exact ⟨by omega, by rw [Int.gcd]; simpa [Nat.Coprime] using h⟩
end
end Wg
/-! WjD: observers. -/
namespace Wo
open PySem L2 Wg
def partsX : PX := .lc [4] (.nm 4) (.val (.call "grouped" [(.loc 0)])) [] (.cmp .eq (.gc (.call "added" [(.lc [3] (.nm 3) (.val (.loc 4)) [] (.ix (.loc 1) (.loc 3)))])) (.tup [(.k (.int 1)), (.k (.int 1))]))
def posX : PX := .blt .all [(.lc [2] (.nm 2) (.val (.loc 1)) [] (.call "is_positive" [(.loc 2)]))]
def partsA : PX := .blt .all [partsX]
def d_are_odds : PD := ⟨2, 5, [
    .cond (.or (.not (.isi (.loc 1) .tuple)) (.or (.cmp .ne (.blt .len [(.loc 1)]) (.blt .len [(.loc 0)])) (.not posX))) [
      .ret (.k (.bl false))] [],
    .ret partsA]⟩
/-! ### events -/
def goodE : List IV → Int → Int → Bool
  | [], _, _ => true
  | .int x :: xs, a, n => decide (a ≤ x) && decide (x < n) && goodE xs (x + 1) n
  | _ :: _, _, _ => false
def validE (n : Int) : IV → Bool
  | .tup xs => goodE xs 0 n
  | _ => false
section
variable {pr : Prg} {k : Nat} {S : Sto} {f : Str}
/-! ### odds -/
def posF : IV → Bool
  | .tup [.int a, .int b] => validF (.tup [.int a, .int b]) && decide (0 < a)
  | _ => false
theorem posF_fr {q : Rat} : posF (fr q) = decide (0 < q.num) := by
  have := validF_fr q
  simp only [fr, posF] at this ⊢
  rw [this, Bool.true_and]
/-- the cases of a label -/
def ptN (l : List Int) (c : Int) : List Nat := (List.range l.length).filter fun i => decide (l[i]? = some c)
theorem pt_eq (l : List Int) (c : Int) : (pt l c).map IV.int = (ptN l c).map fun i : Nat => IV.int (i : Int) := by rw [pt, ptN, List.map_map]; rfl
theorem ptN_lt {l : List Int} {c : Int} {i : Nat} (h : i ∈ ptN l c) : i < l.length := by simp [ptN] at h; exact h.1
theorem ptN_len (l : List Int) (c : Int) : (ptN l c).length ≤ l.length := by
  have := List.length_filter_le (fun i => decide (l[i]? = some c)) (List.range l.length)
  rw [List.length_range] at this
  exact this
def oAt (o : List Rat) (i : Nat) : Rat := o.getD i 0
def lV (l : List Int) : IV := .tup (l.map .int)
def oV (o : List Rat) : IV := .tup (o.map fr)
def K (l : List Int) : Nat := (mx l + 1).toNat
/-- the sum of the odds of some cases -/
def osum (o : List Rat) (is : List Nat) : Rat := sumR (is.map (oAt o))
theorem ptV_eq (l : List Int) (c : Int) : ptV l c = .tup ((ptN l c).map fun i : Nat => IV.int (i : Int)) := by rw [ptV, pt_eq]
def sums1 (l : List Int) (o : List Rat) : Bool := (List.range (K l)).all fun c => decide (osum o (ptN l c) = 1)
def okO (l : List Int) : IV → Bool
  | .tup xs => decide (xs.length = l.length) && xs.all posF
  | _ => false
structure OLib (pr : Prg) : Prop where
  integer : Has pr "is_integer" d_is_integer
  divisor : Has pr "greatest_divisor" d_greatest_divisor
  validF : Has pr "is_valid_fraction" d_is_valid_fraction
  positive : Has pr "is_positive" d_is_positive
  reduced : Has pr "reduced" d_reduced
  plus : Has pr "plus" (d_plusBy "reduced")
  added : Has pr "added" (d_addedBy "plus")
  labels : Has pr "is_valid_labels" d_is_valid_labels
  check : Has pr "check_labels" d_check_labels
  grouped : Has pr "grouped" d_grouped
  odds : Has pr "are_odds" d_are_odds
  most : pr.glob.lookup (Str.ofString "MOST_CASES") = some (IV.int 12)
theorem K_le {l : List Int} (h : Lab l) : K l ≤ 12 := by have := h.mx0; unfold K; omega
/-! ### the object -/
def d_init : PD := ⟨3, 3, [
    .expr (.call "check_labels" [(.loc 1)]),
    .fld (.loc 0) "own_labels" (.loc 1),
    .fld (.loc 0) "own_parts" (.call "grouped" [(.loc 1)]),
    .expr (.met "assign_odds" (.loc 0) [(.loc 2)])]⟩
def d_assign : PD := ⟨2, 2, [
    .cond (.not (.call "are_odds" [(.att "own_labels" (.loc 0)), (.loc 1)])) [
      .raise "InvalidOddsError"] [],
    .fld (.loc 0) "own_odds" (.loc 1)]⟩
/-- an object with labels, parts, odds -/
structure ObsAt (pr : Prg) (S : Sto) (m : Nat) (c : Str) (l : List Int) (o : List Rat) : Prop where
  cell : ∃ fs, S[m]? = some (.ins c fs) ∧ fs.lookup (Str.ofString "own_labels") = some (lV l) ∧ fs.lookup (Str.ofString "own_parts") = some (partsV l) ∧ fs.lookup (Str.ofString "own_odds") = some (oV o)
  a1 : pr.att c "own_labels" = none
  a2 : pr.att c "own_parts" = none
  a3 : pr.att c "own_odds" = none
  lab : Lab l
  len : o.length = l.length
  bd : ∀ q ∈ o, Bd 300 q
variable {m : Nat} {c : Str} {l : List Int} {o : List Rat}
theorem ObsAt.mono {S' : Sto} (h : ObsAt pr S m c l o) (hs : ∀ x, S[m]? = some x → S'[m]? = some x) : ObsAt pr S' m c l o := by
  obtain ⟨fs, h1, h2⟩ := h.cell
  exact ⟨⟨fs, hs _ h1, h2⟩, h.a1, h.a2, h.a3, h.lab, h.len, h.bd⟩
theorem ObsAt.lt (h : ObsAt pr S m c l o) : m < S.length := by obtain ⟨fs, h1, _⟩ := h.cell; exact get_lt h1
theorem ObsAt.app {G : Sto} (h : ObsAt pr S m c l o) : ObsAt pr (S ++ G) m c l o := h.mono fun x hx => by rw [List.getElem?_append_left (get_lt hx)]; exact hx
theorem ObsAt.labels (h : ObsAt pr S m c l o) : attI (gam pr k) "own_labels" (.ref m) S = .ok (lV l) S := by
  obtain ⟨fs, h1, h2, _, _⟩ := h.cell
  exact att_fld h1 h.a1 h2
theorem ObsAt.parts (h : ObsAt pr S m c l o) : attI (gam pr k) "own_parts" (.ref m) S = .ok (partsV l) S := by
  obtain ⟨fs, h1, _, h2, _⟩ := h.cell
  exact att_fld h1 h.a2 h2
theorem ObsAt.odds (h : ObsAt pr S m c l o) : attI (gam pr k) "own_odds" (.ref m) S = .ok (oV o) S := by
  obtain ⟨fs, h1, _, _, h2⟩ := h.cell
  exact att_fld h1 h.a3 h2
theorem settle_len {S1 S2 : Sto} {v : IV} (h : S2.length ≤ S1.length) : Wg.settle S1 v S2 = S2 := by
  unfold Wg.settle
  split
  · exact List.take_of_length_le h
  · rfl
end
end Wo
/-! WjE: the helpers of the laws k47 and later. -/
namespace Wo
open PySem L2 Wg
def d_l_labels : PD := ⟨1, 4, [
    .set (.nm 1) (.lst []),
    .set (.nm 2) (.lst []),
    .for (.nm 3) (.val (.loc 0)) lb_l_canonical_1,
    .ret (.blt .tuple [(.loc 2)])]⟩
def wholeX : PX := .blt .sum [(.lc [5] (.nm 5) (.rng [(.blt .len [(.loc 0)])]) [(.cmp .eq (.ix (.loc 0) (.loc 5)) (.ix (.loc 0) (.loc 3)))] (.ix (.loc 1) (.loc 5)))]
def lb_l_odds_1 : List Sm := [
      .set (.nm 4) wholeX,
      .expr (.mth "append" (.loc 2) [(.call "_law_fraction" [(.ix (.loc 1) (.loc 3)), (.loc 4)])])]
def d_l_odds : PD := ⟨2, 6, [
    .set (.nm 2) (.lst []),
    .for (.nm 3) (.rng [(.blt .len [(.loc 0)])]) lb_l_odds_1,
    .ret (.blt .tuple [(.loc 2)])]⟩
section
variable {pr : Prg} {k : Nat} {S : Sto} {f : Str}
/-- a loop whose turns append one item each to the new list -/
theorem fill_go {body : Sl → Sto → Rz} {tg : Tg} {held : Option (Nat × Cell)} (I : Nat → Sl → Prop) (P : Nat → IV → Prop) (hh : ∀ a, holds held (S ++ [.lst a]) = true) : ∀ (xs : List IV) (i : Nat) (acc : List IV) (τ : Sl), I i τ → acc.length + xs.length ≤ 1000 →
    (∀ j x, xs[j]? = some x → ∀ τ a, a.length ≤ 1000 → I (i + j) τ → ∃ τ1 τ2 d, setT tg x τ = some τ1 ∧ body τ1 (S ++ [.lst a]) = .next τ2 (S ++ [.lst (a ++ [d])]) ∧ I (i + j + 1) τ2 ∧ P (i + j) d) →
    ∃ ds τ', ds.length = xs.length ∧ (∀ j d, ds[j]? = some d → P (i + j) d) ∧ I (i + xs.length) τ' ∧ forGo body tg held xs τ (S ++ [.lst acc]) = .next τ' (S ++ [.lst (acc ++ ds)])
  | [], i, acc, τ, hI, _, _ => ⟨[], τ, rfl, by simp, hI, by simp only [forGo, hh, if_true, List.append_nil]⟩
  | x :: xs, i, acc, τ, hI, hl, hb => by
    simp only [List.length_cons] at hl
    obtain ⟨τ1, τ2, d, e1, e2, I2, p2⟩ := hb 0 x rfl τ acc (by omega) hI
    obtain ⟨ds, τ', l3, p3, I3, e3⟩ := fill_go I P hh xs (i + 1) (acc ++ [d]) τ2 I2 (by simp; omega) (fun j y hj τ a ha hI => by
      have := hb (j + 1) y (by simpa using hj) τ a ha (by rw [show i + (j + 1) = i + 1 + j by omega]; exact hI)
      rw [show i + (j + 1) = i + 1 + j by omega] at this
      exact this)
    refine ⟨d :: ds, τ', by simp [l3], ?_, by rw [List.length_cons, show i + (xs.length + 1) = i + 1 + xs.length by omega]; exact I3, ?_⟩
    · intro j y hj
      match j with
      | 0 => cases hj; exact p2
      | j + 1 =>
        have := p3 j y (by simpa using hj)
        rw [show i + (j + 1) = i + 1 + j by omega]
        exact this
    · simp only [forGo, hh, if_true, e1, e2, e3, List.append_assoc, List.cons_append, List.nil_append]
theorem holds_app {n : Nat} {xs : List IV} {G : Sto} (h : S[n]? = some (.lst xs)) : holds (some (n, .lst xs)) (S ++ G) = true := holds_lst (by rw [List.getElem?_append_left (get_lt h)]; exact h)
theorem get_appL {n : Nat} {x : Cell} {G : Sto} (h : S[n]? = some x) : (S ++ G)[n]? = some x := by rw [List.getElem?_append_left (get_lt h)]; exact h
/-! ### fractions -/
/-! ### the same -/
inductive Fl : Nat → IV → Prop
  | int (e : Nat) (i : Int) : Fl e (.int i)
  | tup (e : Nat) (xs : List IV) : (∀ x ∈ xs, Fl e x) → xs.length ≤ 1000 → Fl (e + 1) (.tup xs)
theorem Fl.fr (e : Nat) (q : Rat) : Fl (e + 1) (Wg.fr q) := .tup _ _ (fun x hx => by
  simp only [List.mem_cons, List.not_mem_nil, or_false] at hx
  rcases hx with rfl | rfl <;> exact .int _ _) (by simp)
theorem Fl.ints (e : Nat) (l : List Int) (h : l.length ≤ 1000) : Fl (e + 1) (lV l) := .tup _ _ (fun x hx => by
  obtain ⟨i, _, rfl⟩ := List.mem_map.mp hx
  exact .int _ _) (by simpa using h)
theorem is_list {Γ : Gam} {τ : Sl} {is : List Nat} {own : List Nat} {j : Nat} {it : PIt} {e : PX} {ifs : List PX} {held : Option (Nat × Cell)} (p : Nat → Bool) (w : Nat → IV) (hl : is.length ≤ 1000) (hit : evI Γ it τ S = .ok ⟨is.map fun i : Nat => IV.int (i : Int), held⟩ S) (hh : holds held S = true)
    (h1 : ∀ i ∈ is, evTs Γ ifs ((wipeI τ own).set j (some (.int (i : Nat)))) S = .ok (p i) S) (h2 : ∀ i ∈ is, p i = true → evE Γ e ((wipeI τ own).set j (some (.int (i : Nat)))) S = .ok (w i) S) :
    evE Γ (.lc own (.nm j) it ifs e) τ S = .ok (.ref S.length) (S ++ [.lst ((is.filter p).map w)]) := by
  have key : (is.map fun i : Nat => IV.int (i : Int)).filterMap (fun x : IV => match x with | .int i => if p i.toNat then some (w i.toNat) else none | _ => none) = (is.filter p).map w := by
    rw [List.filterMap_map]
    have : ((fun x : IV => match x with | .int i => if p i.toNat then some (w i.toNat) else none | _ => none) ∘ fun i : Nat => IV.int (i : Int)) = fun i : Nat => if p i = true then some (w i) else none := by
      funext i; simp
    rw [this, fm_filter]
  rw [← key]
  refine lc_pure (held := held) _ hit hh (by simp; omega) ?_
  intro x hx
  obtain ⟨i, hi', rfl⟩ := List.mem_map.mp hx
  simp only [lcOne, sT_nm, h1 i hi', bind_ok, Int.toNat_natCast]
  cases e : p i with
  | true => simp only [if_true, h2 i hi' e, bind_ok]
  | false => simp only [Bool.false_eq_true, if_false]
/-! ### labels -/
theorem idx_new {x : Int} : ∀ {seen : List Int}, x ∉ seen → idxI x (seen ++ [x]) = seen.length
  | [], _ => by simp [idxI]
  | y :: seen, h => by
    have h1 : ¬ y = x := fun z => h (by simp [z])
    have ih := idx_new (x := x) (seen := seen) (fun z => h (by simp [z]))
    unfold idxI at ih ⊢
    rw [List.cons_append, List.findIdx_cons]
    simp only [h1, decide_false, cond_false, ih, List.length_cons]
theorem idx_lt {x : Int} {seen : List Int} (h : x ∈ seen) : idxI x seen < seen.length := by
  unfold idxI
  exact List.findIdx_lt_length_of_exists ⟨x, h, by simp⟩
theorem canF_goodL : ∀ (xs seen found : List Int), ∃ r, (canF xs seen found).2 = found ++ r ∧ r.length = xs.length ∧ goodL r seen.length = true
  | [], seen, found => ⟨[], by simp [canF], rfl, rfl⟩
  | x :: xs, seen, found => by
    obtain ⟨r, e, l, g⟩ := canF_goodL xs (seenF seen x) (found ++ [((idxI x (seenF seen x) : Nat) : Int)])
    refine ⟨((idxI x (seenF seen x) : Nat) : Int) :: r, by simp [canF, e], by simp [l], ?_⟩
    by_cases h : x ∈ seen
    · have hs : seenF seen x = seen := if_pos h
      rw [hs] at g ⊢
      have := idx_lt h
      have hne : ¬ ((idxI x seen : Nat) : Int) = (seen.length : Int) := by omega
      simp only [goodL, hne, if_false, g, Bool.and_true, Bool.and_eq_true, decide_eq_true_eq]
      omega
    · have hs : seenF seen x = seen ++ [x] := if_neg h
      rw [hs] at g ⊢
      rw [idx_new h]
      simp only [goodL, if_true, Bool.and_eq_true, decide_eq_true_eq]
      refine ⟨by omega, ?_⟩
      simpa using g
theorem labels_run2 (h : Has pr f d_l_labels) {r : Nat} {xs : List Int} (g : S[r]? = some (.lst (xs.map .int))) (hl : xs.length ≤ 900) : run pr (k + 1) f [.ref r] S = .ok (lV (canF xs [] []).2) S := by
  rw [run_eq h rfl]
  obtain ⟨o3', e⟩ := canon_loop (pr := pr) (k := k) (S := S) (held := some (r, .lst (xs.map .int))) (fun a b => holds_app g) xs [] [] (some (.ref r)) none (by simp; omega) (by simp; omega)
  simp only [List.map_nil] at e
  have g1 : (S ++ [Cell.lst ((canF xs [] []).1.map .int), Cell.lst ((canF xs [] []).2.map .int)])[S.length + 1]? = some (.lst ((canF xs [] []).2.map .int)) := get_app
  have g2 : (S ++ [Cell.lst [], Cell.lst []])[r]? = some (.lst (xs.map .int)) := get_appL g
  simp only [d_l_labels, bind_ok, bind_exc, thn_ok, thn_exc, seq_next, seq_ret, seq_brk, seq_cnt, seq_exc, done_ret, done_next, done_exc, tr_ok, tr_exc, getI_some, getO_some, x_k, x_loc, x_glb, x_bin, x_neg, x_cmp, x_chain, x_and, x_or, x_not, x_ite, mkTu_0, mkTu_1, mkTu_2, mkTu_3, mkTu_4, mkLi_0, mkLi_1, mkLi_2, mkLi_3, mkLi_4, x_tup, x_lst, x_dct0, x_dct1, x_ix, x_sl, x_rev, r_tup, x_rgs, x_call, x_blt, st_self, st_exc, st_excA, x_gc, st_new, st_int, st_bl, st_str, x_att, x_met, metR_some, x_new, x_iso, x_calls, starR_tup, ok_only, s_fld, xi_enum, enumR_tup, xi_zip, zipR_tup, q_ret, q_next, q_brk, q_cnt, List.isEmpty_cons, List.isEmpty_nil, x_isi, x_mth, xs_nil, xs_cons, xo_none, intR_int, xo_some, xi_val, xi_rng, walkR_tup, walkR_str, x_lc, ts_nil, tsR_bl, ts_cons, pick_bl, s_nil, s_cons, rest_eq, s_expr, s_ret, s_retN, s_pass, s_brk, s_cnt, s_set, s_par, s_par3, s_sub, s_cond, s_whil, s_for, s_raise, s_try, cat_next, cat_ret, cat_brk, cat_cnt, s_aug, augR_some, aug_add, aug_sub, set_nm, ofO_some, set_tp, t_nil, t_nm, sT_nm, sT_tp, b_add, b_sub, n_int, c_lt, c_le, c_gt, c_ge, c_eq, c_ne, c_eqs, c_nes, c_eqb, i_tup, l_tup, f_abs, f_max, f_min, at0, at1, at2, settle_self, List.map_cons, List.map_nil, List.length_cons, List.length_nil, List.cons_append, List.nil_append, List.append_nil, List.getElem?_cons_zero, List.getElem?_cons_succ, List.set_cons_zero, List.set_cons_succ, List.replicate, Nat.sub_self, Nat.zero_add, Nat.reduceAdd, Nat.reduceSub, List.length_append, List.append_assoc, walkR_lst g2, e, t_lst g1]
  rw [settle_append (lt_ints _ _)]
  rfl
theorem can_lab {xs : List Int} (h0 : xs ≠ []) (hl : xs.length ≤ 12) : Lab (canF xs [] []).2 ∧ (canF xs [] []).2.length = xs.length := by
  obtain ⟨r, e, l, g⟩ := canF_goodL xs [] []
  rw [List.nil_append] at e
  rw [e]
  exact ⟨⟨fun z => by subst z; cases xs with | nil => exact h0 rfl | cons _ _ => simp at l, by omega, g⟩, l⟩
end
end Wo
/-! WjF: rows and events of the later laws. -/
namespace Wo
open PySem L2 Wg
section
variable {pr : Prg} {k : Nat} {S : Sto} {f : Str}
/-! ### lists made -/
def Mk (Γ : Gam) (e : PX) (τ : Sl) (xs : List IV) : Prop := ∀ S : Sto, ∃ (G : Sto) (m : Nat), evE Γ e τ S = .ok (.ref m) (S ++ G) ∧ (S ++ G)[m]? = some (.lst xs)
variable {Γ : Gam} {τ : Sl}
/-! ### a row -/
def dg (ds : List Int) (i : Nat) : Int := ds.getD i 0
theorem ix_dg {ds : List Int} {i : Nat} (h : i < ds.length) : atI (ds.map IV.int) (i : Int) = some (.int (dg ds i)) := atI_nat (by simp [dg, h])
theorem dg_some {ds : List Int} {i : Nat} (h : i < ds.length) : ds[i]? = some (dg ds i) := by simp [dg, h]
theorem lV_lt {l : List Int} {n : Nat} : (lV l).lt n = true := lt_ints l n
theorem gc_call {e : PX} {g : Str} {u v : IV} {S1 : Sto} (h1 : evE (gam pr k) e τ S = .ok u S1) (h2 : run pr k g [u] S1 = .ok v S1) : evE (gam pr k) (.gc (.call g [e])) τ S = .ok v (Wg.settle S v S1) := by
  simp only [x_gc, x_call, xs_cons, xs_nil, h1, bind_ok, h2, Rs.settle]
/-! ### events -/
/-! ### odds from weights -/
def wsum (ws : List Int) (is : List Nat) : Int := (is.map (dg ws)).sum
def oddsF (l ws : List Int) : List Rat := (List.range l.length).map fun i => Rat.divInt (dg ws i) (wsum ws (ptN l (dg l i)))
theorem whole_lc {l ws : List Int} {c : Int} {is : List Nat} {i : Nat} {a2 a4 : Option IV} (hl : l.length ≤ 12) (hw : ws.length = l.length) (hi : i < l.length) : evE Γ wholeX [some (lV l), some (lV ws), a2, some (.int (i : Nat)), a4, none] S = .ok (.int (wsum ws (ptN l (dg l i)))) S := by
  refine blt_lc (ys := ((ptN l (dg l i)).map (dg ws)).map .int) ?_ sum_b rfl
  rw [List.map_map]
  have e : ptN l (dg l i) = (List.range l.length).filter fun j => decide (dg l j = dg l i) := by
    unfold ptN
    refine List.filter_congr fun j hj => ?_
    have hj : j < l.length := by simpa using hj
    rw [dg_some hj]; simp
  rw [e]
  refine is_list (is := List.range l.length) (held := none) (fun j => decide (dg l j = dg l i)) (IV.int ∘ dg ws) (by simp; omega) (it_rng (by simp only [bind_ok, bind_exc, thn_ok, thn_exc, seq_next, seq_ret, seq_brk, seq_cnt, seq_exc, done_ret, done_next, done_exc, tr_ok, tr_exc, getI_some, getO_some, x_k, x_loc, x_glb, x_bin, x_neg, x_cmp, x_chain, x_and, x_or, x_not, x_ite, mkTu_0, mkTu_1, mkTu_2, mkTu_3, mkTu_4, mkLi_0, mkLi_1, mkLi_2, mkLi_3, mkLi_4, x_tup, x_lst, x_dct0, x_dct1, x_ix, x_sl, x_rev, r_tup, x_rgs, x_call, x_blt, st_self, st_exc, st_excA, x_gc, st_new, st_int, st_bl, st_str, x_att, x_met, metR_some, x_new, x_iso, x_calls, starR_tup, ok_only, s_fld, xi_enum, enumR_tup, xi_zip, zipR_tup, q_ret, q_next, q_brk, q_cnt, List.isEmpty_cons, List.isEmpty_nil, x_isi, x_mth, xs_nil, xs_cons, xo_none, intR_int, xo_some, xi_val, xi_rng, walkR_tup, walkR_str, x_lc, ts_nil, tsR_bl, ts_cons, pick_bl, s_nil, s_cons, rest_eq, s_expr, s_ret, s_retN, s_pass, s_brk, s_cnt, s_set, s_par, s_par3, s_sub, s_cond, s_whil, s_for, s_raise, s_try, cat_next, cat_ret, cat_brk, cat_cnt, s_aug, augR_some, aug_add, aug_sub, set_nm, ofO_some, set_tp, t_nil, t_nm, sT_nm, sT_tp, b_add, b_sub, n_int, c_lt, c_le, c_gt, c_ge, c_eq, c_ne, c_eqs, c_nes, c_eqb, i_tup, l_tup, f_abs, f_max, f_min, at0, at1, at2, settle_self, List.map_cons, List.map_nil, List.length_cons, List.length_nil, List.cons_append, List.nil_append, List.append_nil, List.getElem?_cons_zero, List.getElem?_cons_succ, List.set_cons_zero, List.set_cons_succ, List.replicate, Nat.sub_self, Nat.zero_add, Nat.reduceAdd, Nat.reduceSub, lV, List.length_map]) (by omega)) rfl (fun j hj => ?_) (fun j hj _ => ?_)
  · have a1 := ix_dg (ds := l) (i := j) (by simpa using hj)
    have a2 := ix_dg (ds := l) (i := i) hi
    simp only [wipeI, bind_ok, bind_exc, thn_ok, thn_exc, seq_next, seq_ret, seq_brk, seq_cnt, seq_exc, done_ret, done_next, done_exc, tr_ok, tr_exc, getI_some, getO_some, x_k, x_loc, x_glb, x_bin, x_neg, x_cmp, x_chain, x_and, x_or, x_not, x_ite, mkTu_0, mkTu_1, mkTu_2, mkTu_3, mkTu_4, mkLi_0, mkLi_1, mkLi_2, mkLi_3, mkLi_4, x_tup, x_lst, x_dct0, x_dct1, x_ix, x_sl, x_rev, r_tup, x_rgs, x_call, x_blt, st_self, st_exc, st_excA, x_gc, st_new, st_int, st_bl, st_str, x_att, x_met, metR_some, x_new, x_iso, x_calls, starR_tup, ok_only, s_fld, xi_enum, enumR_tup, xi_zip, zipR_tup, q_ret, q_next, q_brk, q_cnt, List.isEmpty_cons, List.isEmpty_nil, x_isi, x_mth, xs_nil, xs_cons, xo_none, intR_int, xo_some, xi_val, xi_rng, walkR_tup, walkR_str, x_lc, ts_nil, tsR_bl, ts_cons, pick_bl, s_nil, s_cons, rest_eq, s_expr, s_ret, s_retN, s_pass, s_brk, s_cnt, s_set, s_par, s_par3, s_sub, s_cond, s_whil, s_for, s_raise, s_try, cat_next, cat_ret, cat_brk, cat_cnt, s_aug, augR_some, aug_add, aug_sub, set_nm, ofO_some, set_tp, t_nil, t_nm, sT_nm, sT_tp, b_add, b_sub, n_int, c_lt, c_le, c_gt, c_ge, c_eq, c_ne, c_eqs, c_nes, c_eqb, i_tup, l_tup, f_abs, f_max, f_min, at0, at1, at2, settle_self, List.map_cons, List.map_nil, List.length_cons, List.length_nil, List.cons_append, List.nil_append, List.append_nil, List.getElem?_cons_zero, List.getElem?_cons_succ, List.set_cons_zero, List.set_cons_succ, List.replicate, Nat.sub_self, Nat.zero_add, Nat.reduceAdd, Nat.reduceSub, lV, a1, a2]
    split <;> simp_all
  · have a1 := ix_dg (ds := ws) (i := j) (by rw [hw]; simpa using hj)
    simp only [wipeI, bind_ok, bind_exc, thn_ok, thn_exc, seq_next, seq_ret, seq_brk, seq_cnt, seq_exc, done_ret, done_next, done_exc, tr_ok, tr_exc, getI_some, getO_some, x_k, x_loc, x_glb, x_bin, x_neg, x_cmp, x_chain, x_and, x_or, x_not, x_ite, mkTu_0, mkTu_1, mkTu_2, mkTu_3, mkTu_4, mkLi_0, mkLi_1, mkLi_2, mkLi_3, mkLi_4, x_tup, x_lst, x_dct0, x_dct1, x_ix, x_sl, x_rev, r_tup, x_rgs, x_call, x_blt, st_self, st_exc, st_excA, x_gc, st_new, st_int, st_bl, st_str, x_att, x_met, metR_some, x_new, x_iso, x_calls, starR_tup, ok_only, s_fld, xi_enum, enumR_tup, xi_zip, zipR_tup, q_ret, q_next, q_brk, q_cnt, List.isEmpty_cons, List.isEmpty_nil, x_isi, x_mth, xs_nil, xs_cons, xo_none, intR_int, xo_some, xi_val, xi_rng, walkR_tup, walkR_str, x_lc, ts_nil, tsR_bl, ts_cons, pick_bl, s_nil, s_cons, rest_eq, s_expr, s_ret, s_retN, s_pass, s_brk, s_cnt, s_set, s_par, s_par3, s_sub, s_cond, s_whil, s_for, s_raise, s_try, cat_next, cat_ret, cat_brk, cat_cnt, s_aug, augR_some, aug_add, aug_sub, set_nm, ofO_some, set_tp, t_nil, t_nm, sT_nm, sT_tp, b_add, b_sub, n_int, c_lt, c_le, c_gt, c_ge, c_eq, c_ne, c_eqs, c_nes, c_eqb, i_tup, l_tup, f_abs, f_max, f_min, at0, at1, at2, settle_self, List.map_cons, List.map_nil, List.length_cons, List.length_nil, List.cons_append, List.nil_append, List.append_nil, List.getElem?_cons_zero, List.getElem?_cons_succ, List.set_cons_zero, List.set_cons_succ, List.replicate, Nat.sub_self, Nat.zero_add, Nat.reduceAdd, Nat.reduceSub, lV, a1]
    rfl
end
end Wo
/-! WjG: odds from weights. -/
namespace Wo
open PySem L2 Wg
section
variable {pr : Prg} {k : Nat} {S : Sto} {f : Str} {Γ : Gam} {τ : Sl}
theorem ds_of_P {ds : List IV} {N : Nat} {w : Nat → IV} (hl : ds.length = N) (h : ∀ j d, ds[j]? = some d → d = w j) : ds = (List.range N).map w := by
  refine List.ext_getElem? fun j => ?_
  by_cases hj : j < N
  · have e : ds[j]? = some ds[j] := List.getElem?_eq_getElem (by omega)
    rw [e, h j _ e]
    simp [hj]
  · rw [List.getElem?_eq_none (by omega), List.getElem?_eq_none (by simp; omega)]
theorem wsum_nonneg {ws : List Int} (hw : ∀ w ∈ ws, 1 ≤ w ∧ w ≤ 1000) : ∀ {is : List Nat}, (∀ i ∈ is, i < ws.length) → is.length ≤ wsum ws is ∧ wsum ws is ≤ 1000 * is.length
  | [], _ => by simp [wsum]
  | i :: is, h => by
    have ih := wsum_nonneg hw (is := is) fun j hj => h j (by simp [hj])
    have hi := h i (by simp)
    have : dg ws i ∈ ws := by rw [show dg ws i = ws[i] by simp [dg, hi]]; exact List.getElem_mem hi
    have := hw _ this
    simp only [wsum, List.map_cons, List.sum_cons, List.length_cons] at ih ⊢
    omega
theorem self_pt {l : List Int} {i : Nat} (h : i < l.length) : i ∈ ptN l (dg l i) := by simp [ptN, h, dg]
theorem pt_dg {l : List Int} {c : Int} {i : Nat} (h : i ∈ ptN l c) : dg l i = c := by
  simp only [ptN, List.mem_filter, decide_eq_true_eq] at h
  simp [dg, h.2]
theorem pos_len {i : Nat} {is : List Nat} (h : i ∈ is) : 1 ≤ is.length := by cases is with | nil => cases h | cons _ _ => simp
theorem W_bd {l ws : List Int} (hl : l.length ≤ 12) (hw : ws.length = l.length) (h : ∀ w ∈ ws, 1 ≤ w ∧ w ≤ 1000) {i : Nat} (hi : i < l.length) : 0 < wsum ws (ptN l (dg l i)) ∧ wsum ws (ptN l (dg l i)) ≤ 12000 := by
  have := wsum_nonneg h (is := ptN l (dg l i)) fun j hj => by rw [hw]; exact ptN_lt hj
  have := pos_len (self_pt hi)
  have := ptN_len l (dg l i)
  omega
theorem lt8000 {i : Int} (h : i.natAbs ≤ 20000) : i.natAbs < 2 ^ 8000 := pw_le (n := 15) (Nat.lt_of_le_of_lt h (by decide)) (by decide)
/-- a new list, a loop, a tuple of it -/
theorem fill_shape {sub : Str → Str → Bool} {i : Nat} {tg : Tg} {it : PIt} {B : List Sm} {τ0 τ1 τ' : Sl} {items ds : List IV} {held : Option (Nat × Cell)} {G : Sto} (h0 : τ0.set i (some (.ref S.length)) = τ1) (hit : evI Γ it τ1 (S ++ [.lst []]) = .ok ⟨items, held⟩ (S ++ [.lst []]))
    (hf : forGo (evSs Γ sub B) tg held items τ1 (S ++ [.lst []]) = .next τ' (S ++ .lst ds :: G)) (hi : τ'[i]? = some (some (.ref S.length))) (hlt : (IV.tup ds).lt S.length = true) :
    (evSs Γ sub [.set (.nm i) (.lst []), .for tg it B, .ret (.blt .tuple [(.loc i)])] τ0 S).done S = .ok (.tup ds) S := by
  simp only [s_cons, s_set, x_lst, xs_nil, bind_ok, mkLi_0, thn_ok, set_nm, h0, seq_next, rest_eq, s_for, hit, hf, s_ret, x_blt, xs_cons, x_loc, hi, getI_some, t_lst app_at, st_self, seq_ret, done_ret, settle_append hlt]
/-! ### what they are -/
theorem good_mem : ∀ (l : List Int) (u c y : Int), goodL l u = true → u ≤ c → c ≤ y → y ∈ l → c ∈ l
  | [], _, _, _, _, _, _, h => by cases h
  | x :: l, u, c, y, hg, h1, h2, hy => by
    simp only [goodL, Bool.and_eq_true, decide_eq_true_eq] at hg
    obtain ⟨⟨g1, g2⟩, g3⟩ := hg
    by_cases hx : x = u
    · rw [if_pos hx] at g3
      by_cases hc : c = u
      · rw [hc, ← hx]; simp
      · rcases List.mem_cons.mp hy with e | hy
        · omega
        · exact List.mem_cons_of_mem _ (good_mem l (u + 1) c y g3 (by omega) h2 hy)
    · rw [if_neg hx] at g3
      rcases List.mem_cons.mp hy with e | hy
      · omega
      · exact List.mem_cons_of_mem _ (good_mem l u c y g3 h1 h2 hy)
theorem lab_mem {l : List Int} (h : Lab l) {c : Nat} (hc : c < K l) : ∃ i, i ∈ ptN l c := by
  have h0 := h.mx0.1
  have : (c : Int) ∈ l := good_mem l 0 c (mx l) h.good (by omega) (by unfold K at hc; omega) (mx_mem h.ne)
  obtain ⟨i, hi⟩ := List.mem_iff_getElem?.mp this
  refine ⟨i, ?_⟩
  simp only [ptN, List.mem_filter, List.mem_range, decide_eq_true_eq]
  exact ⟨(List.getElem?_eq_some_iff.mp hi).1, hi⟩
end
end Wo
/-! WjH: wrong events; refusals. -/
namespace Wo
open PySem L2 Wg
section
variable {pr : Prg} {k : Nat} {S : Sto} {f : Str} {Γ : Gam} {τ : Sl}
/-- a value that is no event, and is data -/
def Bad (S : Sto) (n : Nat) (v : IV) : Prop := (∃ d, toD S v = some d) ∧ validE n v = false
theorem Bad.app {n : Nat} {v : IV} {G : Sto} (h : Bad S n v) : Bad (S ++ G) n v := by
  obtain ⟨⟨d, hd⟩, h2⟩ := h
  exact ⟨⟨d, toD_mono (fun i c hc _ => get_appL hc) hd⟩, h2⟩
/-! ### refusals -/
end
end Wo
/-! WjI: loops with garbage; a start of the observers' laws. -/
namespace Wo
open PySem L2 Wg
section
variable {pr : Prg} {k : Nat} {S : Sto} {f : Str} {Γ : Gam} {τ : Sl}
/-- the amount of the event's weight -/
def evIn (ev : List Int) (is : List Nat) : List Nat := is.filter fun i : Nat => decide ((i : Int) ∈ ev)
def fields (a b c : IV) : List (Str × IV) := [("own_labels", a), ("own_parts", b), ("own_odds", c)]
theorem fld1 {a b c : IV} : (fields a b c).lookup (Str.ofString "own_labels") = some a := by kernel_rfl
theorem fld3 {a b c : IV} : (fields a b c).lookup (Str.ofString "own_odds") = some c := by kernel_rfl
end
end Wo
/-! WjJ: parts, reports; shapes. -/
namespace Wo
open PySem L2 Wg
section
variable {pr : Prg} {k : Nat} {S : Sto} {f : Str} {Γ : Gam} {τ : Sl}
theorem call_two {A B : PX} {x y v : IV} {g : Str} {S1 : Sto} (e1 : evE (gam pr k) A τ S = .ok x S) (e2 : evE (gam pr k) B τ S = .ok y S) (h : run pr k g [x, y] S = .ok v S1) : evE (gam pr k) (.call g [A, B]) τ S = .ok v S1 := by
  simp only [x_call, xs_cons, xs_nil, e1, e2, bind_ok, h]
theorem call_one {A : PX} {x v : IV} {g : Str} {S1 : Sto} (e1 : evE (gam pr k) A τ S = .ok x S) (h : run pr k g [x] S = .ok v S1) : evE (gam pr k) (.call g [A]) τ S = .ok v S1 := by
  simp only [x_call, xs_cons, xs_nil, e1, bind_ok, h]
theorem append_shape {sub : Str → Str → Bool} {X : PX} {v : IV} {i : Nat} {a : List IV} (hi : τ[i]? = some (some (.ref S.length))) (ha : a.length ≤ 1000) (e : evE Γ X τ (S ++ [.lst a]) = .ok v (S ++ [.lst a])) : evSs Γ sub [.expr (.mth "append" (.loc i) [X])] τ (S ++ [.lst a]) = .next τ (S ++ [.lst (a ++ [v])]) := by
  simp only [s_cons, s_expr, x_mth, x_loc, hi, xs_cons, xs_nil, getI_some, bind_ok, rcv_last, if_true, e, app_last (show a.length < 1000000 by omega), thn_ok, seq_next, rest_eq, s_nil]
/-! ### the report -/
def repV (l : List Int) (o : List Rat) (ev : List Int) : IV := .tup ((List.range (K l)).map fun c : Nat => .tup [ptV l c, fr (osum o (evIn ev (ptN l c)))])
theorem loc_ok {i : Nat} {v : IV} (h : τ[i]? = some (some v)) : evE Γ (.loc i) τ S = .ok v S := by simp only [x_loc, h, getI_some]
variable {m : Nat} {c : Str} {l : List Int} {o : List Rat}
theorem Fl.rep {ev : List Int} (h : Lab l) : Fl 3 (repV l o ev) := .tup _ _ (fun x hx => by
  obtain ⟨c, _, rfl⟩ := List.mem_map.mp hx
  refine .tup _ _ (fun y hy => ?_) (by simp)
  simp only [List.mem_cons, List.not_mem_nil, or_false] at hy
  rcases hy with rfl | rfl
  · exact Fl.ints 0 _ (by have := ptN_len l c; have := h.len; simp [pt]; have := List.length_filter_le (fun i => decide (l[i]? = some (c : Int))) (List.range l.length); rw [List.length_range] at this; omega)
  · exact Fl.fr 0 _) (by simp; have := K_le h; omega)
end
end Wo
/-! WjK: expected amounts. -/
namespace Wo
open PySem L2 Wg
section
variable {pr : Prg} {k : Nat} {S : Sto} {f : Str} {Γ : Gam} {τ : Sl}
/-! ### expects -/
variable {m : Nat} {c : Str} {l : List Int} {o am : List Rat}
def exR (o am : List Rat) (is : List Nat) : Rat := sumR (is.map fun i => oAt o i * oAt am i)
def exV (l : List Int) (o am : List Rat) : IV := .tup ((List.range (K l)).map fun c : Nat => fr (exR o am (ptN l c)))
theorem goDs_frs {r : Nat → Option PyData} : ∀ am : List Rat, ∃ ds, goDs r (am.map fr) = some ds
  | [] => ⟨_, goDs_nil⟩
  | q :: am => by
    obtain ⟨ds, h⟩ := goDs_frs (r := r) am
    exact ⟨_, goDs_cons (goD_tup (goDs_cons goD_int (goDs_cons goD_int goDs_nil))) h⟩
theorem oV_data : ∃ d, toD S (oV am) = some d := by
  obtain ⟨ds, h⟩ := goDs_frs (r := refs 6 S) am
  exact ⟨_, goD_tup h⟩
theorem Fl.ex (h : Lab l) : Fl 2 (exV l o am) := .tup _ _ (fun x hx => by
  obtain ⟨c, _, rfl⟩ := List.mem_map.mp hx
  exact Fl.fr 0 _) (by simp; have := K_le h; omega)
end
end Wo
/-! WjL: expected amounts by weights. -/
namespace Wo
open PySem L2 Wg
end Wo
/-! WjM: suites step by step; values with an entry changed. -/
namespace Wo
open PySem L2 Wg
section
variable {pr : Prg} {k : Nat} {S : Sto} {f : Str} {Γ : Gam} {τ : Sl} {sub : Str → Str → Bool} {ss : List Sm} {r : Rz} {v : IV} {S1 : Sto}
theorem st_set {i : Nat} {e : PX} (h : evE Γ e τ S = .ok v S1) (c : evSs Γ sub ss (τ.set i (some v)) S1 = r) : evSs Γ sub (.set (.nm i) e :: ss) τ S = r := by
  simp only [s_cons, s_set, h, thn_ok, set_nm, seq_next, rest_eq, c]
theorem st_no {c : PX} {a : List Sm} (h : evE Γ c τ S = .ok (.bl false) S1) (z : evSs Γ sub ss τ S1 = r) : evSs Γ sub (.cond c a [] :: ss) τ S = r := by
  simp only [s_cons, s_cond, h, thn_ok, pick_bl, Bool.false_eq_true, if_false, s_nil, seq_next, rest_eq, z]
theorem st_not {c : PX} {a : List Sm} (h : evE Γ c τ S = .ok (.bl true) S1) (z : evSs Γ sub ss τ S1 = r) : evSs Γ sub (.cond (.not c) a [] :: ss) τ S = r :=
  st_no (by simp only [x_not, h, tr_ok, Bool.not_true]) z
theorem st_yes {c : PX} {a b : List Sm} (h : evE Γ c τ S = .ok (.bl true) S1) (z : (evSs Γ sub a τ S1).seq (evSs Γ sub ss) = r) : evSs Γ sub (.cond c a b :: ss) τ S = r := by
  simp only [s_cons, s_cond, h, thn_ok, pick_bl, if_true]
  exact z
theorem st_yesN {c : PX} {a b : List Sm} {τ2 : Sl} {S2 : Sto} (h : evE Γ c τ S = .ok (.bl true) S1) (hin : evSs Γ sub a τ S1 = .next τ2 S2) (z : evSs Γ sub ss τ2 S2 = r) : evSs Γ sub (.cond c a b :: ss) τ S = r :=
  st_yes h (by rw [hin, seq_next, z])
theorem done_of {z : Rz} (h : z = .ret v S1) : z.done S = .ok v (Wg.settle S v S1) := by rw [h, done_ret]
theorem keep_ref {m : Nat} (h : S.length ≤ m) : Wg.settle S (.ref m) S1 = S1 := by
  unfold Wg.settle
  rw [show (IV.ref m).lt S.length = false by simp [IV.lt]; omega]
  rfl
theorem st_for {tg : Tg} {it : PIt} {B : List Sm} {items : List IV} {held : Option (Nat × Cell)} {τ' : Sl} {S2 : Sto} (h : evI Γ it τ S = .ok ⟨items, held⟩ S1) (hf : forGo (evSs Γ sub B) tg held items τ S1 = .next τ' S2) (z : evSs Γ sub ss τ' S2 = r) : evSs Γ sub (.for tg it B :: ss) τ S = r := by
  simp only [s_cons, s_for, h, thn_ok, hf, seq_next, rest_eq, z]
theorem st_expr {e : PX} (h : evE Γ e τ S = .ok v S1) (z : evSs Γ sub ss τ S1 = r) : evSs Γ sub (.expr e :: ss) τ S = r := by
  simp only [s_cons, s_expr, h, thn_ok, seq_next, rest_eq, z]
theorem st_ret {e : PX} (h : evE Γ e τ S = .ok v S1) : evSs Γ sub (.ret e :: ss) τ S = .ret v S1 := by
  simp only [s_cons, s_ret, h, thn_ok, seq_ret]
theorem done_true {z : Rz} (h : z = .ret (.bl true) S1) : ∃ S', z.done S = .ok (.bl true) S' := ⟨_, by rw [h, done_ret]⟩
theorem bin_ok {o : Bop} {A B : PX} {x y : IV} (h1 : evE Γ A τ S = .ok x S) (h2 : evE Γ B τ S = .ok y S) (h : binI o x y S = .ok v S1) : evE Γ (.bin o A B) τ S = .ok v S1 := by
  simp only [x_bin, h1, h2, bind_ok, h]
theorem bin_ok2 {o : Bop} {A B : PX} {x y : IV} {S2 : Sto} (h1 : evE Γ A τ S = .ok x S) (h2 : evE Γ B τ S = .ok y S1) (h : binI o x y S1 = .ok v S2) : evE Γ (.bin o A B) τ S = .ok v S2 := by
  simp only [x_bin, h1, h2, bind_ok, h]
theorem call_three {A B C : PX} {x y z : IV} {g : Str} (e1 : evE (gam pr k) A τ S = .ok x S) (e2 : evE (gam pr k) B τ S = .ok y S) (e3 : evE (gam pr k) C τ S = .ok z S) (h : run pr k g [x, y, z] S = .ok v S1) : evE (gam pr k) (.call g [A, B, C]) τ S = .ok v S1 := by
  simp only [x_call, xs_cons, xs_nil, e1, e2, e3, bind_ok, h]
theorem blt1 {b : Bf} {A : PX} {x : IV} (h1 : evE Γ A τ S = .ok x S) (h : bltI b [x] S = .ok v S) : evE Γ (.blt b [A]) τ S = .ok v S := by
  simp only [x_blt, xs_cons, xs_nil, h1, bind_ok, h, st_self]
theorem cmp_ok {o : Cop} {A B : PX} {x y : IV} {S2 : Sto} (h1 : evE Γ A τ S = .ok x S1) (h2 : evE Γ B τ S1 = .ok y S2) (h : cmpI o x y S2 = .ok v S2) : evE Γ (.cmp o A B) τ S = .ok v S2 := by
  simp only [x_cmp, h1, h2, bind_ok, h]
theorem ix_ok {A B : PX} {xs : List IV} {i : Int} (h1 : evE Γ A τ S = .ok (.tup xs) S) (h2 : evE Γ B τ S = .ok (.int i) S) (h : atI xs i = some v) : evE Γ (.ix A B) τ S = .ok v S := by
  simp only [x_ix, h1, h2, bind_ok, i_tup, h, getO_some]
theorem not_ok {A : PX} {b : Bool} (h1 : evE Γ A τ S = .ok (.bl b) S1) : evE Γ (.not A) τ S = .ok (.bl (!b)) S1 := by
  simp only [x_not, h1, tr_ok]
theorem or_no {A B : PX} (h1 : evE Γ A τ S = .ok (.bl false) S1) : evE Γ (.or A B) τ S = evE Γ B τ S1 := by
  simp only [x_or, h1, tr_ok, Bool.false_eq_true, if_false]
theorem or_yes {A B : PX} (h1 : evE Γ A τ S = .ok (.bl true) S1) : evE Γ (.or A B) τ S = .ok (.bl true) S1 := by
  simp only [x_or, h1, tr_ok, if_true]
theorem and_no {A B : PX} (h1 : evE Γ A τ S = .ok (.bl false) S1) : evE Γ (.and A B) τ S = .ok (.bl false) S1 := by
  simp only [x_and, h1, tr_ok, Bool.false_eq_true, if_false]
theorem and_yes {A B : PX} (h1 : evE Γ A τ S = .ok (.bl true) S1) : evE Γ (.and A B) τ S = evE Γ B τ S1 := by
  simp only [x_and, h1, tr_ok, if_true]
theorem it_lst {e : PX} {m : Nat} {xs : List IV} (h : evE Γ e τ S = .ok (.ref m) S1) (g : S1[m]? = some (.lst xs)) : evI Γ (.val e) τ S = .ok ⟨xs, some (m, .lst xs)⟩ S1 := by
  rw [xi_val, h, bind_ok, walkR_lst g]
theorem it_tup {e : PX} {xs : List IV} (h : evE Γ e τ S = .ok (.tup xs) S1) : evI Γ (.val e) τ S = .ok ⟨xs, none⟩ S1 := by
  rw [xi_val, h, bind_ok, walkR_tup]
theorem mod_lt {c : Int} {n : Nat} (h : 1 ≤ n) : ∃ m : Nat, c.fmod n = m ∧ m < n := by
  have f0 := Int.fmod_nonneg_of_pos c (show (0:Int) < n by omega)
  have f1 := Int.fmod_lt_of_pos c (show (0:Int) < n by omega)
  exact ⟨(c.fmod n).toNat, by omega, by omega⟩
end
end Wo
/-! WjN: properties; odds assigned and refused; lines of parts. -/
namespace Wo
open PySem L2 Wg
def d_get (f : Str) : PD := ⟨1, 1, [
    .ret (.att f (.loc 0))]⟩
section
variable {pr : Prg} {k : Nat} {S : Sto} {f : Str} {Γ : Gam} {τ : Sl} {v : IV} {S1 : Sto}
variable {m : Nat} {c : Str} {l : List Int} {o : List Rat}
theorem get_run {g q : Str} {w : IV} (hq : Has pr q (d_get g)) (h : attI (gam pr k) g (.ref m) S = .ok w S) : run pr (k + 1) q [.ref m] S = .ok w S := by
  rw [run_eq hq rfl (show (1:Nat) < 1000 by decide)]
  simp only [d_get, bind_ok, bind_exc, thn_ok, thn_exc, seq_next, seq_ret, seq_brk, seq_cnt, seq_exc, done_ret, done_next, done_exc, tr_ok, tr_exc, getI_some, getO_some, x_k, x_loc, x_glb, x_bin, x_neg, x_cmp, x_chain, x_and, x_or, x_not, x_ite, mkTu_0, mkTu_1, mkTu_2, mkTu_3, mkTu_4, mkLi_0, mkLi_1, mkLi_2, mkLi_3, mkLi_4, x_tup, x_lst, x_dct0, x_dct1, x_ix, x_sl, x_rev, r_tup, x_rgs, x_call, x_blt, st_self, st_exc, st_excA, x_gc, st_new, st_int, st_bl, st_str, x_att, x_met, metR_some, x_new, x_iso, x_calls, starR_tup, ok_only, s_fld, xi_enum, enumR_tup, xi_zip, zipR_tup, q_ret, q_next, q_brk, q_cnt, List.isEmpty_cons, List.isEmpty_nil, x_isi, x_mth, xs_nil, xs_cons, xo_none, intR_int, xo_some, xi_val, xi_rng, walkR_tup, walkR_str, x_lc, ts_nil, tsR_bl, ts_cons, pick_bl, s_nil, s_cons, rest_eq, s_expr, s_ret, s_retN, s_pass, s_brk, s_cnt, s_set, s_par, s_par3, s_sub, s_cond, s_whil, s_for, s_raise, s_try, cat_next, cat_ret, cat_brk, cat_cnt, s_aug, augR_some, aug_add, aug_sub, set_nm, ofO_some, set_tp, t_nil, t_nm, sT_nm, sT_tp, b_add, b_sub, n_int, c_lt, c_le, c_gt, c_ge, c_eq, c_ne, c_eqs, c_nes, c_eqb, i_tup, l_tup, f_abs, f_max, f_min, at0, at1, at2, settle_self, List.map_cons, List.map_nil, List.length_cons, List.length_nil, List.cons_append, List.nil_append, List.append_nil, List.getElem?_cons_zero, List.getElem?_cons_succ, List.set_cons_zero, List.set_cons_succ, List.replicate, Nat.sub_self, Nat.zero_add, Nat.reduceAdd, Nat.reduceSub, h]
theorem prop_att {n g q : Str} {s : Option Str} {w : IV} {fs : List (Str × IV)} (hc : S[m]? = some (.ins c fs)) (ha : pr.att c n = some (.prop q s)) (hq : Has pr q (d_get g)) (h : attI (gam pr k) g (.ref m) S = .ok w S) : attI (gam pr (k + 1)) n (.ref m) S = .ok w S := by
  rw [att_prop hc ha]
  show okOnly (run pr (k + 1) q [.ref m] S) = _
  rw [get_run hq h]
  rfl
/-! ### values that are no odds -/
inductive BadO (S : Sto) (l : List Int) : IV → Prop
  | form {v : IV} {d : PyData} : toD S v = some d → okO l v = false → (∀ xs, v = .tup xs → xs.length ≤ 1000) → BadO S l v
  | sums {o : List Rat} : o.length = l.length → (∀ q ∈ o, 0 < q.num) → (∀ q ∈ o, Bd 300 q) → sums1 l o = false → BadO S l (oV o)
theorem BadO.mono {S' : Sto} (h : BadO S l v) (hs : ∀ (i : Nat) (c : Cell), S[i]? = some c → (∀ n fs, c ≠ .ins n fs) → S'[i]? = some c) : BadO S' l v := by
  cases h with
  | form hd h1 h2 => exact .form (toD_mono hs hd) h1 h2
  | sums h1 h2 h3 h4 => exact .sums h1 h2 h3 h4
theorem lk_put {g : Str} {v : IV} : ∀ fs : List (Str × IV), (putI g v fs).lookup g = some v
  | [] => by simp [putI, List.lookup]
  | (a, w) :: r => by
    simp only [putI]
    split
    · simp [List.lookup]
    · rename_i h
      have : (g == a) = false := by simpa using fun z => h z.symm
      simp only [List.lookup, this, lk_put r]
theorem lk_put_ne {g g' : Str} {v : IV} (hg : g' ≠ g) : ∀ fs : List (Str × IV), (putI g v fs).lookup g' = fs.lookup g'
  | [] => by
    have : (g' == g) = false := by simpa using hg
    simp only [putI, List.lookup, this]
  | (a, w) :: r => by
    simp only [putI]
    split
    · rename_i h
      subst h
      have : (g' == a) = false := by simpa using hg
      simp only [List.lookup, this]
    · simp only [List.lookup]
      split
      · rfl
      · exact lk_put_ne hg r
theorem ObsAt.put {o' : List Rat} (h : ObsAt pr S m c l o) {fs : List (Str × IV)} (hc : S[m]? = some (.ins c fs)) (hl : o'.length = l.length) (hB : ∀ q ∈ o', Bd 300 q) : ObsAt pr (S.set m (.ins c (putI "own_odds" (oV o') fs))) m c l o' := by
  obtain ⟨fs', h1, h2, h3, h4⟩ := h.cell
  rw [hc] at h1
  cases h1
  refine ⟨⟨_, List.getElem?_set_self (get_lt hc), ?_, ?_, ?_⟩, h.a1, h.a2, h.a3, h.lab, hl, hB⟩
  · rw [lk_put_ne (by decide)]; exact h2
  · rw [lk_put_ne (by decide)]; exact h3
  · exact lk_put fs
/-! ### sums with an entry changed -/
/-! ### lines of parts -/
end
end Wo
/-! WjO: balanced rows. -/
namespace Wo
open PySem L2 Wg
section
variable {pr : Prg} {k : Nat} {S : Sto} {f : Str} {Γ : Gam} {τ : Sl} {v : IV} {S1 : Sto}
variable {l : List Int} {o : List Rat}
theorem ixN_nat {n i : Nat} (h : i < n) : ixN n (i : Int) = some i := by
  unfold ixN
  rw [if_pos (by omega), if_pos (by omega)]
  simp
theorem sub_last {xs : List IV} {i : Nat} (h : i < xs.length) : subN v (.ref S.length) (.int (i : Nat)) τ (S ++ [.lst xs]) = .next τ (S ++ [.lst (xs.set i v)]) := by
  rw [u_lst app_at (ixN_nat h), set_last]
/-- rows with an entry that is not positive -/
def Bal (o : List Rat) (v : IV) : Prop := ∃ (a i : Nat) (x y : Rat), a < o.length ∧ i ≠ a ∧ ¬ 0 < x.num ∧ v = oV ((o.set a x).set i y)
theorem Bal.all {o : List Rat} {v : IV} (h : Bal o v) : ∃ ys : List Rat, v = oV ys ∧ ys.length = o.length ∧ (ys.map fr).all posF = false := by
  obtain ⟨a, i, x, y, ha, hi, hx, rfl⟩ := h
  refine ⟨_, rfl, by simp, ?_⟩
  rw [List.all_eq_false]
  refine ⟨fr x, List.mem_map.mpr ⟨x, ?_, rfl⟩, ?_⟩
  · rw [List.mem_iff_getElem?]
    refine ⟨a, ?_⟩
    rw [List.getElem?_set_ne hi, List.getElem?_set_self ha]
  · rw [posF_fr]; simp [hx]
theorem Bal.bad (hl : o.length = l.length) (h1 : o.length ≤ 1000) (h : Bal o v) : BadO S l v := by
  obtain ⟨ys, rfl, e1, e2⟩ := h.all
  obtain ⟨d, hd⟩ := oV_data (S := S) (am := ys)
  refine .form hd ?_ fun xs hx => ?_
  · simp only [okO, oV, List.length_map, e2, Bool.and_false]
  · unfold oV at hx
    cases hx
    simp; omega
end
end Wo
/-! WjP: odds by weights, even odds, the same observers. -/
namespace Wo
open PySem L2 Wg
section
variable {pr : Prg} {k : Nat} {S : Sto} {f : Str} {Γ : Gam} {τ : Sl} {v : IV} {S1 : Sto}
variable {l ws : List Int} {o : List Rat}
/-- a row of numbers that can be asked by place -/
def Row (S : Sto) (v : IV) (ws : List Int) : Prop := ∀ (G : Sto) (i : Nat), i < ws.length → ixI v (.int (i : Nat)) (S ++ G) = .ok (.int (dg ws i)) (S ++ G)
theorem Row.app {G : Sto} (h : Row S v ws) : Row (S ++ G) v ws := fun G' i hi => by rw [List.append_assoc]; exact h (G ++ G') i hi
theorem Row.at (h : Row S v ws) {i : Nat} (hi : i < ws.length) : ixI v (.int (i : Nat)) S = .ok (.int (dg ws i)) S := by
  have := h [] i hi
  rw [List.append_nil] at this
  exact this
/-! ### equal odds -/
variable {m m' : Nat} {c c' : Str} {l' : List Int} {o' : List Rat}
end
end Wo
/-! WjQ: rows, events of the laws about rooms. -/
namespace Wo
open PySem L2 Wg
/-- what is left by a call that draws -/
structure Lft (n t : Nat) (S S' : Sto) : Prop where
  ext : Ext n S S'
  sup : Sup n t S'
section
variable {pr : Prg} {k : Nat} {S S1 S2 : Sto} {f : Str} {Γ : Gam} {τ : Sl} {v : IV} {n t t' : Nat}
theorem Lft.rfl' (h : Sup n t S) : Lft n t S S := ⟨Ext.rfl', h⟩
theorem Lft.trans (h : Lft n t S S1) (h' : Lft n t' S1 S2) : Lft n t' S S2 := ⟨h.ext.trans h'.ext, h'.sup⟩
theorem Lft.mono (h : Lft n t S S1) (ht : t ≤ t') : Lft n t' S S1 := ⟨h.ext, h.sup.mono ht⟩
theorem Lft.get (h : Lft n t S S1) {m : Nat} {c : Cell} (e : S[m]? = some c) (hm : m ≠ n) : S1[m]? = some c := h.ext.get e hm
theorem Lft.app {G : Sto} (h : Lft n t S S1) : Lft n t S (S1 ++ G) := ⟨h.ext.trans .app, h.sup.app⟩
theorem Lft.len (h : Lft n t S S1) : S.length ≤ S1.length := h.ext.len
theorem Lft.settle (v : IV) (h : Lft n t S S1) (hn : n < S.length) : Lft n t S (Wg.settle S v S1) := ⟨h.ext.settle v, h.sup.settle v h.ext.len hn⟩
theorem draw_x (hd : Has pr "_law_draw" d_l_draw) {i : Nat} {M : PX} {m : Int} (hs : Sup n t S) (ht : t ≤ 1000000000) (h0 : τ[i]? = some (some (.ref n))) (hM : evE (gam pr (k + 1)) M τ S = .ok (.int m) S) (h1 : 0 < m) (h2 : m ≤ 1000000) :
    ∃ r S', evE (gam pr (k + 1)) (.call "_law_draw" [(.loc i), M]) τ S = .ok (.int r) S' ∧ 0 ≤ r ∧ r < m ∧ Lft n (t + 1) S S' ∧ S'.length = S.length := by
  obtain ⟨r, S', e, a, b, s, x, l⟩ := draw_new (k := k) hd hs ht h1 (Nat.lt_of_le_of_lt (show m.natAbs ≤ 1000000 by omega) (by decide))
  exact ⟨r, S', call_two (loc_ok h0) hM e, a, b, ⟨x, s⟩, l⟩
theorem choose_x (hc : Has pr "_law_choose" d_l_choose) (hd : Has pr "_law_draw" d_l_draw) {i : Nat} {es : List PX} {xs : List IV} (hs : Sup n t S) (ht : t ≤ 1000000000) (h0 : τ[i]? = some (some (.ref n))) (he : evEs (gam pr (k + 2)) es τ S = .ok xs S) (h1 : 0 < xs.length) (h2 : xs.length ≤ 1000) :
    ∃ v S', evE (gam pr (k + 2)) (.call "_law_choose" [(.loc i), (.lst es)]) τ S = .ok v S' ∧ v ∈ xs ∧ Lft n (t + 1) S S' := by
  obtain ⟨v, S', e, hv, s, x⟩ := choose_new (k := k) hc hd xs hs ht h1 (by omega)
  refine ⟨v, S', ?_, hv, ⟨x, s⟩⟩
  rw [x_call, xs_cons, loc_ok h0, bind_ok, xs_cons, x_lst, he, bind_ok, mkLi_eq (by simp [szOk]; omega), bind_ok, xs_nil, bind_ok, bind_ok, bind_ok]
  exact e
/-- tuple([..]) whose turns draw -/
theorem tup_lc_inv {own : List Nat} {tg : Tg} {it : PIt} {elt : PX} {items : List IV} (I : Nat → Sto → Prop) (P : IV → Prop) (hit : evI Γ it τ S = .ok ⟨items, none⟩ S) (h0 : I 0 S) (hl : items.length ≤ 1000)
    (step : ∀ x ∈ items, ∀ j S, j < items.length → I j S → ∃ y S', lcOne Γ own tg [] elt τ x S = .ok (some y) S' ∧ P y ∧ I (j + 1) S') :
    ∃ ys S2, evE Γ (.blt .tuple [.lc own tg it [] elt]) τ S = .ok (.tup ys) (Wg.settle S (.tup ys) (S2 ++ [.lst ys])) ∧ ys.length = items.length ∧ (∀ y ∈ ys, P y) ∧ I items.length S2 := by
  obtain ⟨ys, S2, e, l, p, i⟩ := lcGo_inv (one := lcOne Γ own tg [] elt τ) I P items.length items 0 [] S h0 (by omega) (by simp; omega) step
  rw [Nat.zero_add] at i
  rw [List.nil_append] at e
  refine ⟨ys, S2, ?_, l, p, i⟩
  rw [x_blt, xs_cons, x_lc, hit, bind_ok, e, bind_ok]
  show ((Rs.ok (IV.ref S2.length) (S2 ++ [.lst ys])).bind _ |>.bind _).settle S = _
  rw [bind_ok, xs_nil, bind_ok, bind_ok, tup_b]
  rfl
def d_l_weights : PD := ⟨2, 4, [
    .set (.nm 2) (.call "_law_choose" [(.loc 0), (.lst [(.k (.int 1)), (.k (.int 2)), (.k (.int 3)), (.k (.int 9)), (.k (.int 40))])]),
    .ret (.blt .tuple [(.lc [3] (.nm 3) (.rng [(.loc 1)]) [] (.bin .add (.k (.int 1)) (.call "_law_draw" [(.loc 0), (.loc 2)])))])]⟩
theorem weights_run (h : Has pr f d_l_weights) (hc : Has pr "_law_choose" d_l_choose) (hd : Has pr "_law_draw" d_l_draw) {z : Nat} (hs : Sup n t S) (ht : t + 100 ≤ 1000000000) (hz : z ≤ 12) :
    ∃ ws S', run pr (k + 3) f [.ref n, .int z] S = .ok (lV ws) S' ∧ ws.length = z ∧ (∀ w ∈ ws, 1 ≤ w ∧ w ≤ 1000) ∧ Lft n (t + 13) S S' := by
  rw [run_eq h rfl]
  have nl := hs.lt
  obtain ⟨v, S1, e1, hv, L1⟩ := choose_x (pr := pr) (k := k) (S := S) (τ := [some (.ref n), some (.int z), none, none]) (i := 0) (es := [(.k (.int 1)), (.k (.int 2)), (.k (.int 3)), (.k (.int 9)), (.k (.int 40))]) (xs := [.int 1, .int 2, .int 3, .int 9, .int 40]) hc hd hs (by omega) rfl rfl (by simp) (by simp)
  obtain ⟨m, rfl, m1, m2⟩ : ∃ m : Int, v = .int m ∧ 1 ≤ m ∧ m ≤ 40 := by
    simp only [List.mem_cons, List.not_mem_nil, or_false] at hv
    rcases hv with rfl | rfl | rfl | rfl | rfl
    · exact ⟨1, rfl, by decide, by decide⟩
    · exact ⟨2, rfl, by decide, by decide⟩
    · exact ⟨3, rfl, by decide, by decide⟩
    · exact ⟨9, rfl, by decide, by decide⟩
    · exact ⟨40, rfl, by decide, by decide⟩
  have hr : (rngI z).length = z := by simp [rngI]
  obtain ⟨ys, S2, e2, l2, p2, i2⟩ := tup_lc_inv (Γ := gam pr (k + 2)) (S := S1) (τ := [some (.ref n), some (.int z), some (.int m), none]) (own := [3]) (tg := .nm 3) (it := .rng [(.loc 1)]) (elt := .bin .add (.k (.int 1)) (.call "_law_draw" [(.loc 0), (.loc 2)])) (items := rngI z) (fun j T => Lft n (t + 1 + j) S1 T) (fun y => ∃ i : Int, y = .int i ∧ 1 ≤ i ∧ i < 1001)
    (it_rng (by simp only [bind_ok, bind_exc, thn_ok, thn_exc, seq_next, seq_ret, seq_brk, seq_cnt, seq_exc, done_ret, done_next, done_exc, tr_ok, tr_exc, getI_some, getO_some, x_k, x_loc, x_glb, x_bin, x_neg, x_cmp, x_chain, x_and, x_or, x_not, x_ite, mkTu_0, mkTu_1, mkTu_2, mkTu_3, mkTu_4, mkLi_0, mkLi_1, mkLi_2, mkLi_3, mkLi_4, x_tup, x_lst, x_dct0, x_dct1, x_ix, x_sl, x_rev, r_tup, x_rgs, x_call, x_blt, st_self, st_exc, st_excA, x_gc, st_new, st_int, st_bl, st_str, x_att, x_met, metR_some, x_new, x_iso, x_calls, starR_tup, ok_only, s_fld, xi_enum, enumR_tup, xi_zip, zipR_tup, q_ret, q_next, q_brk, q_cnt, List.isEmpty_cons, List.isEmpty_nil, x_isi, x_mth, xs_nil, xs_cons, xo_none, intR_int, xo_some, xi_val, xi_rng, walkR_tup, walkR_str, x_lc, ts_nil, tsR_bl, ts_cons, pick_bl, s_nil, s_cons, rest_eq, s_expr, s_ret, s_retN, s_pass, s_brk, s_cnt, s_set, s_par, s_par3, s_sub, s_cond, s_whil, s_for, s_raise, s_try, cat_next, cat_ret, cat_brk, cat_cnt, s_aug, augR_some, aug_add, aug_sub, set_nm, ofO_some, set_tp, t_nil, t_nm, sT_nm, sT_tp, b_add, b_sub, n_int, c_lt, c_le, c_gt, c_ge, c_eq, c_ne, c_eqs, c_nes, c_eqb, i_tup, l_tup, f_abs, f_max, f_min, at0, at1, at2, settle_self, List.map_cons, List.map_nil, List.length_cons, List.length_nil, List.cons_append, List.nil_append, List.append_nil, List.getElem?_cons_zero, List.getElem?_cons_succ, List.set_cons_zero, List.set_cons_succ, List.replicate, Nat.sub_self, Nat.zero_add, Nat.reduceAdd, Nat.reduceSub]) (by omega)) (Lft.rfl' L1.sup) (by omega) (fun x hx j T hj hI => by
      obtain ⟨r, T', e, r0, r1, L, _⟩ := draw_x (pr := pr) (k := k + 1) (S := T) (τ := [some (.ref n), some (.int z), some (.int m), some x]) (i := 0) (M := .loc 2) hd hI.sup (by omega) rfl (loc_ok rfl) (m := m) (by omega) (by omega)
      refine ⟨.int (1 + r), T', ?_, ⟨_, rfl, by omega, by omega⟩, hI.trans L⟩
      have e' : evE (gam pr (k + 2)) (.bin .add (.k (.int 1)) (.call "_law_draw" [(.loc 0), (.loc 2)])) [some (.ref n), some (.int z), some (.int m), some x] T = .ok (.int (1 + r)) T' := bin_ok2 x_k e b_add
      simp only [lcOne, wipeI, sT_nm, List.set_cons_zero, List.set_cons_succ, ts_nil, bind_ok, if_true, e'])
  obtain ⟨ws, rfl, hw⟩ := ints_bd p2
  refine ⟨ws, _, done_of (st_set e1 (st_ret e2)), by simpa [hr] using l2, fun w hw' => by have := hw w hw'; omega, ?_⟩
  refine Lft.settle _ (L1.trans (Lft.settle _ ?_ ?_)) nl
  · rw [hr] at i2
    exact (i2.mono (by omega)).app
  · exact L1.sup.lt
/-! ### labels by a list -/
theorem canon_runL (h : Has pr f d_l_canonical) {r : Nat} {xs : List Int} (g : S[r]? = some (.lst (xs.map .int))) (hl : xs.length ≤ 900) : run pr (k + 1) f [.ref r] S = .ok (lV (canF xs [] []).2) S := by
  rw [run_eq h rfl]
  obtain ⟨o3', e⟩ := canon_loop (pr := pr) (k := k) (S := S) (held := some (r, .lst (xs.map .int))) (fun a b => holds_app g) xs [] [] (some (.ref r)) none (by simp; omega) (by simp; omega)
  simp only [List.map_nil] at e
  have g1 : (S ++ [Cell.lst ((canF xs [] []).1.map .int), Cell.lst ((canF xs [] []).2.map .int)])[S.length + 1]? = some (.lst ((canF xs [] []).2.map .int)) := get_app
  have g2 : (S ++ [Cell.lst [], Cell.lst []])[r]? = some (.lst (xs.map .int)) := get_appL g
  simp only [d_l_canonical, bind_ok, bind_exc, thn_ok, thn_exc, seq_next, seq_ret, seq_brk, seq_cnt, seq_exc, done_ret, done_next, done_exc, tr_ok, tr_exc, getI_some, getO_some, x_k, x_loc, x_glb, x_bin, x_neg, x_cmp, x_chain, x_and, x_or, x_not, x_ite, mkTu_0, mkTu_1, mkTu_2, mkTu_3, mkTu_4, mkLi_0, mkLi_1, mkLi_2, mkLi_3, mkLi_4, x_tup, x_lst, x_dct0, x_dct1, x_ix, x_sl, x_rev, r_tup, x_rgs, x_call, x_blt, st_self, st_exc, st_excA, x_gc, st_new, st_int, st_bl, st_str, x_att, x_met, metR_some, x_new, x_iso, x_calls, starR_tup, ok_only, s_fld, xi_enum, enumR_tup, xi_zip, zipR_tup, q_ret, q_next, q_brk, q_cnt, List.isEmpty_cons, List.isEmpty_nil, x_isi, x_mth, xs_nil, xs_cons, xo_none, intR_int, xo_some, xi_val, xi_rng, walkR_tup, walkR_str, x_lc, ts_nil, tsR_bl, ts_cons, pick_bl, s_nil, s_cons, rest_eq, s_expr, s_ret, s_retN, s_pass, s_brk, s_cnt, s_set, s_par, s_par3, s_sub, s_cond, s_whil, s_for, s_raise, s_try, cat_next, cat_ret, cat_brk, cat_cnt, s_aug, augR_some, aug_add, aug_sub, set_nm, ofO_some, set_tp, t_nil, t_nm, sT_nm, sT_tp, b_add, b_sub, n_int, c_lt, c_le, c_gt, c_ge, c_eq, c_ne, c_eqs, c_nes, c_eqb, i_tup, l_tup, f_abs, f_max, f_min, at0, at1, at2, settle_self, List.map_cons, List.map_nil, List.length_cons, List.length_nil, List.cons_append, List.nil_append, List.append_nil, List.getElem?_cons_zero, List.getElem?_cons_succ, List.set_cons_zero, List.set_cons_succ, List.replicate, Nat.sub_self, Nat.zero_add, Nat.reduceAdd, Nat.reduceSub, List.length_append, List.append_assoc, walkR_lst g2, e, t_lst g1]
  rw [settle_append (lt_ints _ _)]
  rfl
def lb_l_ring_1 : List Sm := [
      .cond (.and (.cmp .eq (.bin .mod (.loc 4) (.loc 1)) (.loc 2)) (.and (.cmp .eq (.ix (.loc 3) (.loc 4)) (.loc 4)) (.cmp .eq (.ix (.loc 3) (.bin .mod (.bin .add (.loc 4) (.k (.int 1))) (.loc 0))) (.bin .mod (.bin .add (.loc 4) (.k (.int 1))) (.loc 0))))) [
        .sub (.loc 3) (.bin .mod (.bin .add (.loc 4) (.k (.int 1))) (.loc 0)) (.loc 4)] []]
def d_l_ring : PD := ⟨3, 5, [
    .set (.nm 3) (.rgs false (.loc 0)),
    .for (.nm 4) (.rng [(.loc 0)]) lb_l_ring_1,
    .ret (.call "_law_canonical" [(.loc 3)])]⟩
theorem ring_turn {sub : Str → Str → Bool} {z j : Nat} {q kk : Int} {xs : List Int} (hx : xs.length = z) (hj : j < z) (hq : q ≠ 0) :
    ∃ xs' : List Int, xs'.length = z ∧ evSs Γ sub lb_l_ring_1 [some (.int z), some (.int q), some (.int kk), some (.ref S.length), some (.int (j : Nat))] (S ++ [.lst (xs.map .int)]) = .next [some (.int z), some (.int q), some (.int kk), some (.ref S.length), some (.int (j : Nat))] (S ++ [.lst (xs'.map .int)]) := by
  have z0 : (z : Int) ≠ 0 := by omega
  obtain ⟨p, hp, pz⟩ := mod_lt (c := (j : Int) + 1) (n := z) (by omega)
  have a1 : atI (xs.map IV.int) (j : Int) = some (.int (dg xs j)) := ix_dg (by omega)
  have a2 : atI (xs.map IV.int) (p : Int) = some (.int (dg xs p)) := ix_dg (by omega)
  have u1 : ∀ τ : Sl, subN (.int (j : Nat)) (.ref S.length) (.int (p : Nat)) τ (S ++ [.lst (xs.map .int)]) = .next τ (S ++ [.lst ((xs.set p (j : Int)).map .int)]) := fun τ => by
    rw [sub_last (by simp; omega), List.map_set]
  by_cases c1 : (j : Int).fmod q = kk
  · by_cases c2 : dg xs j = (j : Int)
    · by_cases c3 : dg xs p = (p : Int)
      · refine ⟨xs.set p (j : Int), by simpa using hx, ?_⟩
        simp only [lb_l_ring_1, bind_ok, bind_exc, thn_ok, thn_exc, seq_next, seq_ret, seq_brk, seq_cnt, seq_exc, done_ret, done_next, done_exc, tr_ok, tr_exc, getI_some, getO_some, x_k, x_loc, x_glb, x_bin, x_neg, x_cmp, x_chain, x_and, x_or, x_not, x_ite, mkTu_0, mkTu_1, mkTu_2, mkTu_3, mkTu_4, mkLi_0, mkLi_1, mkLi_2, mkLi_3, mkLi_4, x_tup, x_lst, x_dct0, x_dct1, x_ix, x_sl, x_rev, r_tup, x_rgs, x_call, x_blt, st_self, st_exc, st_excA, x_gc, st_new, st_int, st_bl, st_str, x_att, x_met, metR_some, x_new, x_iso, x_calls, starR_tup, ok_only, s_fld, xi_enum, enumR_tup, xi_zip, zipR_tup, q_ret, q_next, q_brk, q_cnt, List.isEmpty_cons, List.isEmpty_nil, x_isi, x_mth, xs_nil, xs_cons, xo_none, intR_int, xo_some, xi_val, xi_rng, walkR_tup, walkR_str, x_lc, ts_nil, tsR_bl, ts_cons, pick_bl, s_nil, s_cons, rest_eq, s_expr, s_ret, s_retN, s_pass, s_brk, s_cnt, s_set, s_par, s_par3, s_sub, s_cond, s_whil, s_for, s_raise, s_try, cat_next, cat_ret, cat_brk, cat_cnt, s_aug, augR_some, aug_add, aug_sub, set_nm, ofO_some, set_tp, t_nil, t_nm, sT_nm, sT_tp, b_add, b_sub, n_int, c_lt, c_le, c_gt, c_ge, c_eq, c_ne, c_eqs, c_nes, c_eqb, i_tup, l_tup, f_abs, f_max, f_min, at0, at1, at2, settle_self, List.map_cons, List.map_nil, List.length_cons, List.length_nil, List.cons_append, List.nil_append, List.append_nil, List.getElem?_cons_zero, List.getElem?_cons_succ, List.set_cons_zero, List.set_cons_succ, List.replicate, Nat.sub_self, Nat.zero_add, Nat.reduceAdd, Nat.reduceSub, b_mod hq, b_mod z0, hp, c1, decide_true, if_true, i_lst app_at, a1, a2, c2, c3, u1]
      · refine ⟨xs, hx, ?_⟩
        simp only [lb_l_ring_1, bind_ok, bind_exc, thn_ok, thn_exc, seq_next, seq_ret, seq_brk, seq_cnt, seq_exc, done_ret, done_next, done_exc, tr_ok, tr_exc, getI_some, getO_some, x_k, x_loc, x_glb, x_bin, x_neg, x_cmp, x_chain, x_and, x_or, x_not, x_ite, mkTu_0, mkTu_1, mkTu_2, mkTu_3, mkTu_4, mkLi_0, mkLi_1, mkLi_2, mkLi_3, mkLi_4, x_tup, x_lst, x_dct0, x_dct1, x_ix, x_sl, x_rev, r_tup, x_rgs, x_call, x_blt, st_self, st_exc, st_excA, x_gc, st_new, st_int, st_bl, st_str, x_att, x_met, metR_some, x_new, x_iso, x_calls, starR_tup, ok_only, s_fld, xi_enum, enumR_tup, xi_zip, zipR_tup, q_ret, q_next, q_brk, q_cnt, List.isEmpty_cons, List.isEmpty_nil, x_isi, x_mth, xs_nil, xs_cons, xo_none, intR_int, xo_some, xi_val, xi_rng, walkR_tup, walkR_str, x_lc, ts_nil, tsR_bl, ts_cons, pick_bl, s_nil, s_cons, rest_eq, s_expr, s_ret, s_retN, s_pass, s_brk, s_cnt, s_set, s_par, s_par3, s_sub, s_cond, s_whil, s_for, s_raise, s_try, cat_next, cat_ret, cat_brk, cat_cnt, s_aug, augR_some, aug_add, aug_sub, set_nm, ofO_some, set_tp, t_nil, t_nm, sT_nm, sT_tp, b_add, b_sub, n_int, c_lt, c_le, c_gt, c_ge, c_eq, c_ne, c_eqs, c_nes, c_eqb, i_tup, l_tup, f_abs, f_max, f_min, at0, at1, at2, settle_self, List.map_cons, List.map_nil, List.length_cons, List.length_nil, List.cons_append, List.nil_append, List.append_nil, List.getElem?_cons_zero, List.getElem?_cons_succ, List.set_cons_zero, List.set_cons_succ, List.replicate, Nat.sub_self, Nat.zero_add, Nat.reduceAdd, Nat.reduceSub, b_mod hq, b_mod z0, hp, c1, decide_true, if_true, i_lst app_at, a1, a2, c2, c3, decide_false, Bool.false_eq_true, if_false]
    · refine ⟨xs, hx, ?_⟩
      simp only [lb_l_ring_1, bind_ok, bind_exc, thn_ok, thn_exc, seq_next, seq_ret, seq_brk, seq_cnt, seq_exc, done_ret, done_next, done_exc, tr_ok, tr_exc, getI_some, getO_some, x_k, x_loc, x_glb, x_bin, x_neg, x_cmp, x_chain, x_and, x_or, x_not, x_ite, mkTu_0, mkTu_1, mkTu_2, mkTu_3, mkTu_4, mkLi_0, mkLi_1, mkLi_2, mkLi_3, mkLi_4, x_tup, x_lst, x_dct0, x_dct1, x_ix, x_sl, x_rev, r_tup, x_rgs, x_call, x_blt, st_self, st_exc, st_excA, x_gc, st_new, st_int, st_bl, st_str, x_att, x_met, metR_some, x_new, x_iso, x_calls, starR_tup, ok_only, s_fld, xi_enum, enumR_tup, xi_zip, zipR_tup, q_ret, q_next, q_brk, q_cnt, List.isEmpty_cons, List.isEmpty_nil, x_isi, x_mth, xs_nil, xs_cons, xo_none, intR_int, xo_some, xi_val, xi_rng, walkR_tup, walkR_str, x_lc, ts_nil, tsR_bl, ts_cons, pick_bl, s_nil, s_cons, rest_eq, s_expr, s_ret, s_retN, s_pass, s_brk, s_cnt, s_set, s_par, s_par3, s_sub, s_cond, s_whil, s_for, s_raise, s_try, cat_next, cat_ret, cat_brk, cat_cnt, s_aug, augR_some, aug_add, aug_sub, set_nm, ofO_some, set_tp, t_nil, t_nm, sT_nm, sT_tp, b_add, b_sub, n_int, c_lt, c_le, c_gt, c_ge, c_eq, c_ne, c_eqs, c_nes, c_eqb, i_tup, l_tup, f_abs, f_max, f_min, at0, at1, at2, settle_self, List.map_cons, List.map_nil, List.length_cons, List.length_nil, List.cons_append, List.nil_append, List.append_nil, List.getElem?_cons_zero, List.getElem?_cons_succ, List.set_cons_zero, List.set_cons_succ, List.replicate, Nat.sub_self, Nat.zero_add, Nat.reduceAdd, Nat.reduceSub, b_mod hq, c1, decide_true, if_true, i_lst app_at, a1, c2, decide_false, Bool.false_eq_true, if_false]
  · refine ⟨xs, hx, ?_⟩
    simp only [lb_l_ring_1, bind_ok, bind_exc, thn_ok, thn_exc, seq_next, seq_ret, seq_brk, seq_cnt, seq_exc, done_ret, done_next, done_exc, tr_ok, tr_exc, getI_some, getO_some, x_k, x_loc, x_glb, x_bin, x_neg, x_cmp, x_chain, x_and, x_or, x_not, x_ite, mkTu_0, mkTu_1, mkTu_2, mkTu_3, mkTu_4, mkLi_0, mkLi_1, mkLi_2, mkLi_3, mkLi_4, x_tup, x_lst, x_dct0, x_dct1, x_ix, x_sl, x_rev, r_tup, x_rgs, x_call, x_blt, st_self, st_exc, st_excA, x_gc, st_new, st_int, st_bl, st_str, x_att, x_met, metR_some, x_new, x_iso, x_calls, starR_tup, ok_only, s_fld, xi_enum, enumR_tup, xi_zip, zipR_tup, q_ret, q_next, q_brk, q_cnt, List.isEmpty_cons, List.isEmpty_nil, x_isi, x_mth, xs_nil, xs_cons, xo_none, intR_int, xo_some, xi_val, xi_rng, walkR_tup, walkR_str, x_lc, ts_nil, tsR_bl, ts_cons, pick_bl, s_nil, s_cons, rest_eq, s_expr, s_ret, s_retN, s_pass, s_brk, s_cnt, s_set, s_par, s_par3, s_sub, s_cond, s_whil, s_for, s_raise, s_try, cat_next, cat_ret, cat_brk, cat_cnt, s_aug, augR_some, aug_add, aug_sub, set_nm, ofO_some, set_tp, t_nil, t_nm, sT_nm, sT_tp, b_add, b_sub, n_int, c_lt, c_le, c_gt, c_ge, c_eq, c_ne, c_eqs, c_nes, c_eqb, i_tup, l_tup, f_abs, f_max, f_min, at0, at1, at2, settle_self, List.map_cons, List.map_nil, List.length_cons, List.length_nil, List.cons_append, List.nil_append, List.append_nil, List.getElem?_cons_zero, List.getElem?_cons_succ, List.set_cons_zero, List.set_cons_succ, List.replicate, Nat.sub_self, Nat.zero_add, Nat.reduceAdd, Nat.reduceSub, b_mod hq, c1, decide_false, Bool.false_eq_true, if_false]
theorem ring_run (h : Has pr f d_l_ring) (hc : Has pr "_law_canonical" d_l_canonical) {z : Nat} {q kk : Int} (h1 : 1 ≤ z) (hz : z ≤ 12) (hq : q ≠ 0) : ∃ l, run pr (k + 2) f [.int z, .int q, .int kk] S = .ok (lV l) S ∧ Lab l ∧ l.length = z := by
  rw [run_eq h rfl]
  have r0 : (rngI z) = ((List.range z).map fun i : Nat => (i : Int)).map IV.int := by simp [rngI]
  have e1 : evE (gam pr (k + 1)) (.rgs false (.loc 0)) [some (.int z), some (.int q), some (.int kk), none, none] S = .ok (.ref S.length) (S ++ [.lst (rngI z)]) := by
    rw [x_rgs, loc_ok (v := .int (z : Nat)) rfl, bind_ok, rgs_l (by omega)]
  rw [r0] at e1
  obtain ⟨τ', S', e, ⟨xs, o, rfl, rfl, hx⟩⟩ := forGo_inv (body := evSs (gam pr (k + 1)) pr.sub lb_l_ring_1) (tg := .nm 4) (held := none)
    (fun j τ T => ∃ (xs : List Int) (o : Option IV), τ = [some (.int z), some (.int q), some (.int kk), some (.ref S.length), o] ∧ T = S ++ [.lst (xs.map .int)] ∧ xs.length = z)
    (rngI z) 0 [some (.int z), some (.int q), some (.int kk), some (.ref S.length), none] (S ++ [.lst (((List.range z).map fun i : Nat => (i : Int)).map .int)]) ⟨_, _, rfl, rfl, by simp⟩
    (fun j x τ T hj hx hI => by
      obtain ⟨xs, o, rfl, rfl, hl⟩ := hI
      rw [Nat.sub_zero] at hx
      obtain ⟨hjl, rfl⟩ := rng_item hx
      obtain ⟨xs', hl', e⟩ := ring_turn (Γ := gam pr (k + 1)) (sub := pr.sub) (S := S) (kk := kk) hl hjl hq
      exact ⟨rfl, _, rfl, _, _, e, ⟨xs', _, rfl, rfl, hl'⟩⟩)
    (fun _ _ _ => rfl)
  obtain ⟨hL, hl⟩ := can_lab (xs := xs) (fun z' => by rw [z'] at hx; simp at hx; omega) (by omega)
  have cr := canon_runL (pr := pr) (k := k) (S := S ++ [.lst (xs.map .int)]) (f := "_law_canonical") hc app_at (by omega)
  refine ⟨_, (done_of (v := lV (canF xs [] []).2) (S1 := S ++ [.lst (xs.map .int)]) ?_).trans (by rw [settle_append lV_lt]), hL, by omega⟩
  exact st_set e1 (st_for (it_rng (by simp only [bind_ok, bind_exc, thn_ok, thn_exc, seq_next, seq_ret, seq_brk, seq_cnt, seq_exc, done_ret, done_next, done_exc, tr_ok, tr_exc, getI_some, getO_some, x_k, x_loc, x_glb, x_bin, x_neg, x_cmp, x_chain, x_and, x_or, x_not, x_ite, mkTu_0, mkTu_1, mkTu_2, mkTu_3, mkTu_4, mkLi_0, mkLi_1, mkLi_2, mkLi_3, mkLi_4, x_tup, x_lst, x_dct0, x_dct1, x_ix, x_sl, x_rev, r_tup, x_rgs, x_call, x_blt, st_self, st_exc, st_excA, x_gc, st_new, st_int, st_bl, st_str, x_att, x_met, metR_some, x_new, x_iso, x_calls, starR_tup, ok_only, s_fld, xi_enum, enumR_tup, xi_zip, zipR_tup, q_ret, q_next, q_brk, q_cnt, List.isEmpty_cons, List.isEmpty_nil, x_isi, x_mth, xs_nil, xs_cons, xo_none, intR_int, xo_some, xi_val, xi_rng, walkR_tup, walkR_str, x_lc, ts_nil, tsR_bl, ts_cons, pick_bl, s_nil, s_cons, rest_eq, s_expr, s_ret, s_retN, s_pass, s_brk, s_cnt, s_set, s_par, s_par3, s_sub, s_cond, s_whil, s_for, s_raise, s_try, cat_next, cat_ret, cat_brk, cat_cnt, s_aug, augR_some, aug_add, aug_sub, set_nm, ofO_some, set_tp, t_nil, t_nm, sT_nm, sT_tp, b_add, b_sub, n_int, c_lt, c_le, c_gt, c_ge, c_eq, c_ne, c_eqs, c_nes, c_eqb, i_tup, l_tup, f_abs, f_max, f_min, at0, at1, at2, settle_self, List.map_cons, List.map_nil, List.length_cons, List.length_nil, List.cons_append, List.nil_append, List.append_nil, List.getElem?_cons_zero, List.getElem?_cons_succ, List.set_cons_zero, List.set_cons_succ, List.replicate, Nat.sub_self, Nat.zero_add, Nat.reduceAdd, Nat.reduceSub]) (by omega)) e (st_ret (call_one (loc_ok rfl) cr)))
end
end Wo
/-! WjR: rows of observers. -/
namespace Wo
open PySem L2 Wg
section
variable {pr : Prg} {k : Nat} {S S0 S1 S2 : Sto} {f : Str} {Γ : Gam} {τ : Sl} {v : IV} {n t t' : Nat}
/-! ### odds from weights, any maker of fractions -/
theorem odds_body2 {sub : Str → Str → Bool} {X : PX} {l ws : List Int} {i : Nat} {W : Int} {o4 : Option IV} {a : List IV} (hf : MkF pr "_law_fraction") (hi : i < ws.length) (ha : a.length ≤ 1000) (hW : 0 < W) (hW2 : W.natAbs < 2 ^ 8000)
    (hx : evE (gam pr (k + 2)) X [some (lV l), some (lV ws), some (.ref S.length), some (.int (i : Nat)), o4, none] (S ++ [.lst a]) = .ok (.int W) (S ++ [.lst a])) :
    evSs (gam pr (k + 2)) sub [.set (.nm 4) X, .expr (.mth "append" (.loc 2) [(.call "_law_fraction" [(.ix (.loc 1) (.loc 3)), (.loc 4)])])] [some (lV l), some (lV ws), some (.ref S.length), some (.int (i : Nat)), o4, none] (S ++ [.lst a]) =
      .next [some (lV l), some (lV ws), some (.ref S.length), some (.int (i : Nat)), some (.int W), none] (S ++ [.lst (a ++ [fr (Rat.divInt (dg ws i) W)])]) := by
  have a1 := ix_dg (ds := ws) hi
  have fq := hf k (S ++ [.lst a]) (dg ws i) W (by omega) hW2
  refine st_set hx ?_
  exact append_shape rfl ha (call_two (ix_ok (loc_ok rfl) (loc_ok rfl) a1) (loc_ok rfl) fq)
theorem odds_run2 (h : Has pr f d_l_odds) (hf : MkF pr "_law_fraction") {l ws : List Int} (hl : l.length ≤ 12) (hw : ws.length = l.length) (hb : ∀ w ∈ ws, 1 ≤ w ∧ w ≤ 1000) : run pr (k + 3) f [lV l, lV ws] S = .ok (oV (oddsF l ws)) S := by
  rw [run_eq h rfl]
  have it : evI (gam pr (k + 2)) (.rng [(.blt .len [(.loc 0)])]) [some (lV l), some (lV ws), some (.ref S.length), none, none, none] (S ++ [.lst []]) = .ok ⟨rngI l.length, none⟩ (S ++ [.lst []]) := it_rng (by simp only [bind_ok, bind_exc, thn_ok, thn_exc, seq_next, seq_ret, seq_brk, seq_cnt, seq_exc, done_ret, done_next, done_exc, tr_ok, tr_exc, getI_some, getO_some, x_k, x_loc, x_glb, x_bin, x_neg, x_cmp, x_chain, x_and, x_or, x_not, x_ite, mkTu_0, mkTu_1, mkTu_2, mkTu_3, mkTu_4, mkLi_0, mkLi_1, mkLi_2, mkLi_3, mkLi_4, x_tup, x_lst, x_dct0, x_dct1, x_ix, x_sl, x_rev, r_tup, x_rgs, x_call, x_blt, st_self, st_exc, st_excA, x_gc, st_new, st_int, st_bl, st_str, x_att, x_met, metR_some, x_new, x_iso, x_calls, starR_tup, ok_only, s_fld, xi_enum, enumR_tup, xi_zip, zipR_tup, q_ret, q_next, q_brk, q_cnt, List.isEmpty_cons, List.isEmpty_nil, x_isi, x_mth, xs_nil, xs_cons, xo_none, intR_int, xo_some, xi_val, xi_rng, walkR_tup, walkR_str, x_lc, ts_nil, tsR_bl, ts_cons, pick_bl, s_nil, s_cons, rest_eq, s_expr, s_ret, s_retN, s_pass, s_brk, s_cnt, s_set, s_par, s_par3, s_sub, s_cond, s_whil, s_for, s_raise, s_try, cat_next, cat_ret, cat_brk, cat_cnt, s_aug, augR_some, aug_add, aug_sub, set_nm, ofO_some, set_tp, t_nil, t_nm, sT_nm, sT_tp, b_add, b_sub, n_int, c_lt, c_le, c_gt, c_ge, c_eq, c_ne, c_eqs, c_nes, c_eqb, i_tup, l_tup, f_abs, f_max, f_min, at0, at1, at2, settle_self, List.map_cons, List.map_nil, List.length_cons, List.length_nil, List.cons_append, List.nil_append, List.append_nil, List.getElem?_cons_zero, List.getElem?_cons_succ, List.set_cons_zero, List.set_cons_succ, List.replicate, Nat.sub_self, Nat.zero_add, Nat.reduceAdd, Nat.reduceSub, lV, List.length_map]) (by omega)
  obtain ⟨ds, τ', l1, p1, ⟨o3', o4', rfl⟩, e⟩ := fill_go (S := S) (body := evSs (gam pr (k + 2)) pr.sub lb_l_odds_1) (tg := .nm 3) (held := none) (fun _ τ => ∃ (o3 o4 : Option IV), τ = [some (lV l), some (lV ws), some (.ref S.length), o3, o4, none])
    (fun j d => d = fr (Rat.divInt (dg ws j) (wsum ws (ptN l (dg l j))))) (fun a => rfl) (rngI l.length) 0 [] [some (lV l), some (lV ws), some (.ref S.length), none, none, none] ⟨_, _, rfl⟩ (by simp [rngI]; omega)
    (fun j x hx τ a ha hI => by
      obtain ⟨o3, o4, rfl⟩ := hI
      obtain ⟨hj, rfl⟩ := rng_item hx
      obtain ⟨w1, w2⟩ := W_bd hl hw hb hj
      refine ⟨_, _, _, rfl, odds_body2 hf (by omega) ha w1 (lt8000 (by omega)) (whole_lc (c := 0) (is := []) hl hw hj), ⟨_, _, rfl⟩, ?_⟩
      rw [Nat.zero_add])
  have z := ds_of_P (N := l.length) (by simpa [rngI] using l1) (fun j d hd => by have := p1 j d hd; rw [Nat.zero_add] at this; exact this)
  subst z
  rw [List.nil_append] at e
  have fin : IV.tup ((List.range l.length).map fun j => fr (Rat.divInt (dg ws j) (wsum ws (ptN l (dg l j))))) = oV (oddsF l ws) := by
    simp only [oV, oddsF, List.map_map]; rfl
  have flt : (oV (oddsF l ws)).lt S.length = true := by
    show ltAll _ _ = true
    rw [ltAll_iff]
    intro x hx
    obtain ⟨c, _, rfl⟩ := List.mem_map.mp hx
    rfl
  rw [← fin] at flt ⊢
  exact fill_shape (G := []) rfl it e rfl flt
theorem Lft.put (h : Lft n t S0 S) {m : Nat} {c : Cell} (hm : S0.length ≤ m) (hn : n < S0.length) : Lft n t S0 (S.set m c) := by
  refine ⟨⟨by simpa using h.ext.len, fun i hi hne => ?_⟩, ?_⟩
  · rw [List.getElem?_set_ne (by omega)]; exact h.ext.old i hi hne
  · obtain ⟨a, b, d, q, r⟩ := h.sup
    exact ⟨a, b, d, by rw [List.getElem?_set_ne (by omega)]; exact q, r⟩
/-- the row of an observer -/
def RowOk (z : Nat) (r : IV) : Prop := ∃ l ws, r = .tup [lV l, oV (oddsF l ws)] ∧ Lab l ∧ l.length = z ∧ ws.length = z ∧ ∀ w ∈ ws, 1 ≤ w ∧ w ≤ 1000
structure RLib (pr : Prg) : Prop where
  draw : Has pr "_law_draw" d_l_draw
  choose : Has pr "_law_choose" d_l_choose
  labels : Has pr "_law_labels" Wg.d_l_labels
  canon : Has pr "_law_canonical" d_l_canonical
  weights : Has pr "_law_weights" d_l_weights
  ring : Has pr "_law_ring" d_l_ring
  odds : Has pr "_law_odds" d_l_odds
  frac : MkF pr "_law_fraction"
def lb_l_rows_1 : List Sm := [
      .set (.nm 10) (.call "_law_labels" [(.loc 0), (.loc 1), (.call "_law_choose" [(.loc 0), (.lst [(.loc 1), (.loc 1), (.k (.int 2)), (.k (.int 3))])])]),
      .cond (.cmp .eq (.loc 3) (.k (.int 1))) [
        .set (.nm 10) (.gc (.call "_law_canonical" [(.lc [11] (.nm 11) (.rng [(.loc 1)]) [] (.blt .min [(.loc 11), (.call "_law_draw" [(.loc 0), (.loc 1)])]))]))] [],
      .cond (.cmp .eq (.loc 3) (.k (.int 2))) [
        .set (.nm 10) (.call "_law_ring" [(.loc 1), (.blt .max [(.k (.int 2)), (.loc 5)]), (.loc 9)])] [],
      .set (.nm 12) (.loc 6),
      .cond (.or (.and (.cmp .eq (.loc 4) (.k (.int 1))) (.cmp .eq (.loc 9) (.bin .sub (.loc 5) (.k (.int 1))))) (.and (.cmp .eq (.loc 4) (.k (.int 2))) (.cmp .eq (.call "_law_draw" [(.loc 0), (.k (.int 2))]) (.k (.int 1))))) [
        .set (.nm 12) (.loc 7)] [],
      .cond (.cmp .eq (.loc 4) (.k (.int 3))) [
        .set (.nm 12) (.call "_law_weights" [(.loc 0), (.loc 1)])] [],
      .expr (.mth "append" (.loc 8) [(.tup [(.loc 10), (.call "_law_odds" [(.loc 10), (.loc 12)])])])]
def d_l_rows : PD := ⟨3, 13, [
    .par3 3 4 5 (.call "_law_draw" [(.loc 0), (.k (.int 4))]) (.call "_law_draw" [(.loc 0), (.k (.int 5))]) (.bin .add (.k (.int 1)) (.call "_law_draw" [(.loc 0), (.loc 2)])),
    .par3 6 7 8 (.call "_law_weights" [(.loc 0), (.loc 1)]) (.call "_law_weights" [(.loc 0), (.loc 1)]) (.lst []),
    .for (.nm 9) (.rng [(.loc 5)]) lb_l_rows_1,
    .ret (.loc 8)]⟩
def RT (n z : Nat) (most shape way many : Int) (w1 w2 : List Int) (m : Nat) (o9 o10 o11 o12 : Option IV) : Sl := [some (.ref n), some (.int z), some (.int most), some (.int shape), some (.int way), some (.int many), some (lV w1), some (lV w2), some (.ref m), o9, o10, o11, o12]
/-- a row of weights -/
def WOk (z : Nat) (ws : List Int) : Prop := ws.length = z ∧ ∀ w ∈ ws, 1 ≤ w ∧ w ≤ 1000
def LOk (z : Nat) (l : List Int) : Prop := Lab l ∧ l.length = z
theorem lab_of_labs {z : Nat} {l : List Int} (h : Labs z l) (h1 : 1 ≤ z) (h2 : z ≤ 12) : LOk z l := ⟨⟨fun e => by have := h.len; rw [e] at this; simp at this; omega, by rw [h.len]; exact h2, h.good⟩, h.len⟩
theorem st_any {sub : Str → Str → Bool} {s : Sm} {ss : List Sm} {r : Rz} {τ1 : Sl} (h : evS Γ sub s τ S = .next τ1 S1) (c : evSs Γ sub ss τ1 S1 = r) : evSs Γ sub (s :: ss) τ S = r := by
  simp only [s_cons, h, seq_next, rest_eq, c]
theorem call_3s {A B C : PX} {x y z : IV} {g : Str} {S2 : Sto} (e1 : evE (gam pr k) A τ S = .ok x S) (e2 : evE (gam pr k) B τ S = .ok y S) (e3 : evE (gam pr k) C τ S = .ok z S1) (h : run pr k g [x, y, z] S1 = .ok v S2) : evE (gam pr k) (.call g [A, B, C]) τ S = .ok v S2 := by
  simp only [x_call, xs_cons, xs_nil, e1, e2, e3, bind_ok, h]
theorem tup_two {A B : PX} {x y : IV} (e1 : evE Γ A τ S = .ok x S) (e2 : evE Γ B τ S = .ok y S1) : evE Γ (.tup [A, B]) τ S = .ok (.tup [x, y]) S1 := by
  simp only [x_tup, xs_cons, xs_nil, e1, e2, bind_ok, mkTu_2]
theorem append_any {i m : Nat} {X : PX} {xs : List IV} (hi : τ[i]? = some (some (.ref m))) (g : S[m]? = some (.lst xs)) (hl : xs.length < 1000000) (e : evE Γ X τ S = .ok v S) : evE Γ (.mth "append" (.loc i) [X]) τ S = .ok .non (S.set m (.lst (xs ++ [v]))) := by
  simp only [x_mth, loc_ok hi, bind_ok, rcv_lst g, if_true, xs_cons, xs_nil, e, app_lst g hl]
theorem row_labels (R : RLib pr) {z : Nat} (hs : Sup n t S) (ht : t + 200 ≤ 1000000000) (h1 : 1 ≤ z) (hz : z ≤ 12) (h0 : τ[0]? = some (some (.ref n))) (hz1 : τ[1]? = some (some (.int (z : Nat)))) :
    ∃ l S', evE (gam pr (k + 2)) (.call "_law_labels" [(.loc 0), (.loc 1), (.call "_law_choose" [(.loc 0), (.lst [(.loc 1), (.loc 1), (.k (.int 2)), (.k (.int 3))])])]) τ S = .ok (lV l) S' ∧ LOk z l ∧ Lft n (t + 13) S S' := by
  obtain ⟨v, S1, e1, hv, L1⟩ := choose_x (pr := pr) (k := k) (S := S) (τ := τ) (i := 0) (es := [(.loc 1), (.loc 1), (.k (.int 2)), (.k (.int 3))]) (xs := [.int z, .int z, .int 2, .int 3]) R.choose R.draw hs (by omega) h0 (by simp only [xs_cons, xs_nil, loc_ok hz1, x_k, bind_ok]) (by simp) (by simp)
  obtain ⟨M, rfl, m1, m2⟩ : ∃ M : Int, v = .int M ∧ 1 ≤ M ∧ M ≤ 100 := by
    simp only [List.mem_cons, List.not_mem_nil, or_false] at hv
    rcases hv with rfl | rfl | rfl | rfl
    · exact ⟨z, rfl, by omega, by omega⟩
    · exact ⟨z, rfl, by omega, by omega⟩
    · exact ⟨2, rfl, by decide, by decide⟩
    · exact ⟨3, rfl, by decide, by decide⟩
  obtain ⟨l, S2, e2, hl, _, x2, s2⟩ := l_labels_run (pr := pr) (k := k) (S := S1) (f := "_law_labels") R.labels R.draw h1 (by omega) m1 m2 L1.sup (by omega)
  refine ⟨l, S2, ?_, lab_of_labs hl h1 hz, (L1.trans ⟨x2, s2⟩).mono (by omega)⟩
  exact call_3s (loc_ok h0) (loc_ok hz1) e1 e2
theorem row_canon (R : RLib pr) {z : Nat} {most shape way many : Int} {w1 w2 : List Int} {m : Nat} {o9 o10 o11 o12 : Option IV} (hs : Sup n t S) (ht : t + 200 ≤ 1000000000) (h1 : 1 ≤ z) (hz : z ≤ 12) :
    ∃ l S', evE (gam pr (k + 2)) (.gc (.call "_law_canonical" [(.lc [11] (.nm 11) (.rng [(.loc 1)]) [] (.blt .min [(.loc 11), (.call "_law_draw" [(.loc 0), (.loc 1)])]))])) (RT n z most shape way many w1 w2 m o9 o10 o11 o12) S = .ok (lV l) S' ∧ LOk z l ∧ Lft n (t + 12) S S' := by
  have hr : (rngI z).length = z := by simp [rngI]
  obtain ⟨ys, S2, e, l2, p2, i2⟩ := lcGo_inv (one := lcOne (gam pr (k + 2)) [11] (.nm 11) [] (.blt .min [(.loc 11), (.call "_law_draw" [(.loc 0), (.loc 1)])]) (RT n z most shape way many w1 w2 m o9 o10 o11 o12)) (fun j T => Lft n (t + j) S T) (fun y => ∃ i : Int, y = .int i ∧ (-1000000) ≤ i ∧ i < 1000000) z (rngI z) 0 [] S (Lft.rfl' hs) (by omega) (by simp [rngI]; omega)
    (fun x hx j T hj hI => by
      obtain ⟨q, hq⟩ := List.mem_iff_getElem?.mp hx
      obtain ⟨hqz, rfl⟩ := rng_item hq
      obtain ⟨r, T', e, r0, r1, L, _⟩ := draw_x (pr := pr) (k := k + 1) (S := T) (τ := RT n z most shape way many w1 w2 m o9 o10 (some (.int (q : Nat))) o12) (i := 0) (M := .loc 1) R.draw hI.sup (by omega) rfl (loc_ok rfl) (m := (z : Int)) (by omega) (by omega)
      refine ⟨.int (min (q : Int) r), T', ?_, ⟨_, rfl, by omega, by omega⟩, hI.trans L⟩
      have e' : evE (gam pr (k + 2)) (.blt .min [(.loc 11), (.call "_law_draw" [(.loc 0), (.loc 1)])]) (RT n z most shape way many w1 w2 m o9 o10 (some (.int (q : Nat))) o12) T = .ok (.int (min (q : Int) r)) (Wg.settle T (.int (min (q : Int) r)) T') := by
        rw [x_blt, xs_cons, loc_ok (v := .int (q : Nat)) rfl, bind_ok, xs_cons, e, bind_ok, xs_nil, bind_ok, bind_ok, bind_ok, f_min]
        rfl
      have st : Wg.settle T (.int (min (q : Int) r)) T' = T' := settle_len (by omega)
      rw [st] at e'
      have e'' : lcOne (gam pr (k + 2)) [11] (.nm 11) [] (.blt .min [(.loc 11), (.call "_law_draw" [(.loc 0), (.loc 1)])]) (RT n z most shape way many w1 w2 m o9 o10 o11 o12) (.int (q : Nat)) T = (evE (gam pr (k + 2)) (.blt .min [(.loc 11), (.call "_law_draw" [(.loc 0), (.loc 1)])]) (RT n z most shape way many w1 w2 m o9 o10 (some (.int (q : Nat))) o12) T).bind fun y S4 => .ok (some y) S4 := rfl
      rw [e'', e', bind_ok])
  obtain ⟨xs, rfl, hx⟩ := ints_bd p2
  rw [List.nil_append] at e
  have lx : xs.length = z := by simpa [hr] using l2
  obtain ⟨hL, hl⟩ := can_lab (xs := xs) (fun z' => by rw [z'] at lx; simp at lx; omega) (by omega)
  have cr := canon_runL (pr := pr) (k := k + 1) (S := S2 ++ [.lst (xs.map .int)]) (f := "_law_canonical") R.canon app_at (by omega)
  have lc : evE (gam pr (k + 2)) (.lc [11] (.nm 11) (.rng [(.loc 1)]) [] (.blt .min [(.loc 11), (.call "_law_draw" [(.loc 0), (.loc 1)])])) (RT n z most shape way many w1 w2 m o9 o10 o11 o12) S = .ok (.ref S2.length) (S2 ++ [.lst (xs.map .int)]) := by
    rw [x_lc, it_rng (K := z) (S' := S) (by rw [xs_cons, loc_ok (v := .int (z : Nat)) rfl, bind_ok, xs_nil, bind_ok]) (by omega), bind_ok, e, bind_ok]
    first | rfl | skip
  refine ⟨_, _, gc_call lc cr, ⟨hL, by omega⟩, ?_⟩
  rw [hr, Nat.zero_add] at i2
  exact Lft.settle _ ((i2.mono (by omega)).app) hs.lt
theorem RT_10 {z : Nat} {most shape way many : Int} {w1 w2 : List Int} {m : Nat} {o9 o10 o11 o12 : Option IV} : (RT n z most shape way many w1 w2 m o9 o10 o11 o12).set 10 (some v) = RT n z most shape way many w1 w2 m o9 (some v) o11 o12 := rfl
theorem RT_12 {z : Nat} {most shape way many : Int} {w1 w2 : List Int} {m : Nat} {o9 o10 o11 o12 : Option IV} : (RT n z most shape way many w1 w2 m o9 o10 o11 o12).set 12 (some v) = RT n z most shape way many w1 w2 m o9 o10 o11 (some v) := rfl
theorem eq_int {A : PX} {a b : Int} (h : evE Γ A τ S = .ok (.int a) S1) : evE Γ (.cmp .eq A (.k (.int b))) τ S = .ok (.bl (decide (a = b))) S1 := cmp_ok h x_k c_eq
/-- a guarded set, by either way -/
theorem st_if {sub : Str → Str → Bool} {C E : PX} {i : Nat} {ss : List Sm} {r : Rz} {b : Bool} {T1 T2 : Sto} {w : IV} (h : evE Γ C τ S = .ok (.bl b) T1) (h1 : b = true → evE Γ E τ T1 = .ok w T2) (c1 : b = true → evSs Γ sub ss (τ.set i (some w)) T2 = r) (c2 : b = false → evSs Γ sub ss τ T1 = r) : evSs Γ sub (.cond C [.set (.nm i) E] [] :: ss) τ S = r := by
  cases b with
  | true => exact st_yesN h (st_set (h1 rfl) s_nil) (c1 rfl)
  | false => exact st_no h (c2 rfl)
theorem rows_turn (R : RLib pr) {sub : Str → Str → Bool} {z j : Nat} {most shape way many : Int} {w1 w2 : List Int} {m : Nat} {o10 o11 o12 : Option IV} {rows : List IV} (hW1 : WOk z w1) (hW2 : WOk z w2) (hL0 : Lft n t S0 S) (ht : t + 1000 ≤ 1000000000) (hn : n < S0.length) (h1 : 1 ≤ z) (hz : z ≤ 12) (hm : S0.length ≤ m) (g : S[m]? = some (.lst rows)) (hr : rows.length ≤ 100) :
    ∃ row p10 p11 p12 S', evSs (gam pr (k + 3)) sub lb_l_rows_1 (RT n z most shape way many w1 w2 m (some (.int (j : Nat))) o10 o11 o12) S = .next (RT n z most shape way many w1 w2 m (some (.int (j : Nat))) p10 p11 p12) S' ∧ RowOk z row ∧ S'[m]? = some (.lst (rows ++ [row])) ∧ Lft n (t + 40) S0 S' := by
  have mn : m ≠ n := by omega
  obtain ⟨l1, T1, e1, k1, L1⟩ := row_labels (pr := pr) (k := k + 1) R (τ := RT n z most shape way many w1 w2 m (some (.int (j : Nat))) o10 o11 o12) hL0.sup (by omega) h1 hz rfl rfl
  -- the labels
  obtain ⟨l2, T2, e2, k2, L2⟩ := row_canon (pr := pr) (k := k + 1) (most := most) (shape := shape) (way := way) (many := many) (w1 := w1) (w2 := w2) (m := m) (o9 := some (.int (j : Nat))) (o10 := some (lV l1)) (o11 := o11) (o12 := o12) R L1.sup (by omega) h1 hz
  have s2 : ∃ l T, LOk z l ∧ Lft n (t + 25) S T ∧ ∀ ss r, evSs (gam pr (k + 3)) sub ss (RT n z most shape way many w1 w2 m (some (.int (j : Nat))) (some (lV l)) o11 o12) T = r →
      evSs (gam pr (k + 3)) sub (.cond (.cmp .eq (.loc 3) (.k (.int 1))) [.set (.nm 10) (.gc (.call "_law_canonical" [(.lc [11] (.nm 11) (.rng [(.loc 1)]) [] (.blt .min [(.loc 11), (.call "_law_draw" [(.loc 0), (.loc 1)])]))]))] [] :: ss) (RT n z most shape way many w1 w2 m (some (.int (j : Nat))) (some (lV l1)) o11 o12) T1 = r := by
    by_cases c : shape = 1
    · exact ⟨l2, T2, k2, (L1.trans L2).mono (by omega), fun ss r h => st_if (b := decide (shape = 1)) (eq_int (loc_ok rfl)) (fun _ => e2) (fun _ => h) (fun z => by simp [c] at z)⟩
    · exact ⟨l1, T1, k1, L1.mono (by omega), fun ss r h => st_if (b := decide (shape = 1)) (w := .non) (T2 := T1) (eq_int (loc_ok rfl)) (fun z => by simp [c] at z) (fun z => by simp [c] at z) (fun _ => h)⟩
  obtain ⟨la, Ta, ka, La, fa⟩ := s2
  have mq : max 2 many ≠ 0 := by omega
  obtain ⟨l3, e3, k3, k3'⟩ := ring_run (pr := pr) (k := k + 1) (S := Ta) (f := "_law_ring") R.ring R.canon (z := z) (q := max 2 many) (kk := (j : Int)) h1 hz mq
  have e3' : evE (gam pr (k + 3)) (.call "_law_ring" [(.loc 1), (.blt .max [(.k (.int 2)), (.loc 5)]), (.loc 9)]) (RT n z most shape way many w1 w2 m (some (.int (j : Nat))) (some (lV la)) o11 o12) Ta = .ok (lV l3) Ta := by
    refine call_three (loc_ok rfl) ?_ (loc_ok rfl) e3
    rw [x_blt, xs_cons, x_k, bind_ok, xs_cons, loc_ok (v := .int many) rfl, bind_ok, xs_nil, bind_ok, bind_ok, bind_ok, f_max, st_self]
  have s3 : ∃ l, LOk z l ∧ ∀ ss r, evSs (gam pr (k + 3)) sub ss (RT n z most shape way many w1 w2 m (some (.int (j : Nat))) (some (lV l)) o11 o12) Ta = r →
      evSs (gam pr (k + 3)) sub (.cond (.cmp .eq (.loc 3) (.k (.int 2))) [.set (.nm 10) (.call "_law_ring" [(.loc 1), (.blt .max [(.k (.int 2)), (.loc 5)]), (.loc 9)])] [] :: ss) (RT n z most shape way many w1 w2 m (some (.int (j : Nat))) (some (lV la)) o11 o12) Ta = r := by
    by_cases c : shape = 2
    · exact ⟨l3, ⟨k3, k3'⟩, fun ss r h => st_if (b := decide (shape = 2)) (eq_int (loc_ok rfl)) (fun _ => e3') (fun _ => h) (fun z => by simp [c] at z)⟩
    · exact ⟨la, ka, fun ss r h => st_if (b := decide (shape = 2)) (w := .non) (T2 := Ta) (eq_int (loc_ok rfl)) (fun z => by simp [c] at z) (fun z => by simp [c] at z) (fun _ => h)⟩
  obtain ⟨lb, kb, fb⟩ := s3
  -- the weights
  obtain ⟨rr, T4, e4, r0, r1, L4, _⟩ := draw_x (pr := pr) (k := k + 2) (S := Ta) (τ := RT n z most shape way many w1 w2 m (some (.int (j : Nat))) (some (lV lb)) o11 (some (lV w1))) (i := 0) (M := .k (.int 2)) R.draw La.sup (by omega) rfl x_k (by decide) (by decide)
  have s5 : ∃ (b : Bool) (T : Sto), Lft n (t + 26) S T ∧ evE (gam pr (k + 3)) (.or (.and (.cmp .eq (.loc 4) (.k (.int 1))) (.cmp .eq (.loc 9) (.bin .sub (.loc 5) (.k (.int 1))))) (.and (.cmp .eq (.loc 4) (.k (.int 2))) (.cmp .eq (.call "_law_draw" [(.loc 0), (.k (.int 2))]) (.k (.int 1))))) (RT n z most shape way many w1 w2 m (some (.int (j : Nat))) (some (lV lb)) o11 (some (lV w1))) Ta = .ok (.bl b) T := by
    have q1 : evE (gam pr (k + 3)) (.cmp .eq (.loc 4) (.k (.int 1))) (RT n z most shape way many w1 w2 m (some (.int (j : Nat))) (some (lV lb)) o11 (some (lV w1))) Ta = .ok (.bl (decide (way = 1))) Ta := eq_int (loc_ok rfl)
    have q2 : evE (gam pr (k + 3)) (.cmp .eq (.loc 9) (.bin .sub (.loc 5) (.k (.int 1)))) (RT n z most shape way many w1 w2 m (some (.int (j : Nat))) (some (lV lb)) o11 (some (lV w1))) Ta = .ok (.bl (decide ((j : Int) = many - 1))) Ta := cmp_ok (loc_ok rfl) (bin_ok (loc_ok rfl) x_k b_sub) c_eq
    have q3 : evE (gam pr (k + 3)) (.cmp .eq (.loc 4) (.k (.int 2))) (RT n z most shape way many w1 w2 m (some (.int (j : Nat))) (some (lV lb)) o11 (some (lV w1))) Ta = .ok (.bl (decide (way = 2))) Ta := eq_int (loc_ok rfl)
    have q4 : evE (gam pr (k + 3)) (.cmp .eq (.call "_law_draw" [(.loc 0), (.k (.int 2))]) (.k (.int 1))) (RT n z most shape way many w1 w2 m (some (.int (j : Nat))) (some (lV lb)) o11 (some (lV w1))) Ta = .ok (.bl (decide (rr = 1))) T4 := eq_int e4
    have La' : Lft n (t + 26) S Ta := La.mono (by omega)
    have second : ∃ (b : Bool) (T : Sto), Lft n (t + 26) S T ∧ evE (gam pr (k + 3)) (.and (.cmp .eq (.loc 4) (.k (.int 2))) (.cmp .eq (.call "_law_draw" [(.loc 0), (.k (.int 2))]) (.k (.int 1)))) (RT n z most shape way many w1 w2 m (some (.int (j : Nat))) (some (lV lb)) o11 (some (lV w1))) Ta = .ok (.bl b) T := by
      by_cases c : way = 2
      · rw [decide_eq_true c] at q3
        exact ⟨_, T4, (La.trans L4).mono (by omega), (and_yes q3).trans q4⟩
      · rw [decide_eq_false c] at q3
        exact ⟨false, Ta, La', and_no q3⟩
    obtain ⟨b2, T2', LL, e2'⟩ := second
    by_cases c : way = 1
    · rw [decide_eq_true c] at q1
      by_cases c' : (j : Int) = many - 1
      · rw [decide_eq_true c'] at q2
        exact ⟨true, Ta, La', or_yes ((and_yes q1).trans q2)⟩
      · rw [decide_eq_false c'] at q2
        exact ⟨b2, T2', LL, (or_no ((and_yes q1).trans q2)).trans e2'⟩
    · rw [decide_eq_false c] at q1
      exact ⟨b2, T2', LL, (or_no (and_no q1)).trans e2'⟩
  obtain ⟨b5, T5, L5, e5⟩ := s5
  have s6 : ∃ ws, WOk z ws ∧ ∀ ss r, evSs (gam pr (k + 3)) sub ss (RT n z most shape way many w1 w2 m (some (.int (j : Nat))) (some (lV lb)) o11 (some (lV ws))) T5 = r →
      evSs (gam pr (k + 3)) sub (.cond (.or (.and (.cmp .eq (.loc 4) (.k (.int 1))) (.cmp .eq (.loc 9) (.bin .sub (.loc 5) (.k (.int 1))))) (.and (.cmp .eq (.loc 4) (.k (.int 2))) (.cmp .eq (.call "_law_draw" [(.loc 0), (.k (.int 2))]) (.k (.int 1))))) [.set (.nm 12) (.loc 7)] [] :: ss) (RT n z most shape way many w1 w2 m (some (.int (j : Nat))) (some (lV lb)) o11 (some (lV w1))) Ta = r := by
    cases hb5 : b5 with
    | true =>
      rw [hb5] at e5
      exact ⟨w2, hW2, fun ss r h => st_if (b := true) (w := lV w2) (T2 := T5) e5 (fun _ => loc_ok rfl) (fun _ => h) (fun z => by cases z)⟩
    | false =>
      rw [hb5] at e5
      exact ⟨w1, hW1, fun ss r h => st_if (b := false) (w := .non) (T2 := T5) e5 (fun z => by cases z) (fun z => by cases z) (fun _ => h)⟩
  obtain ⟨wa, ha, f6⟩ := s6
  obtain ⟨w3, T7, e7, l7, b7, L7⟩ := weights_run (pr := pr) (k := k) (S := T5) (f := "_law_weights") R.weights R.choose R.draw L5.sup (by omega) (z := z) hz
  have s7 : ∃ ws T, WOk z ws ∧ Lft n (t + 39) S T ∧ ∀ ss r, evSs (gam pr (k + 3)) sub ss (RT n z most shape way many w1 w2 m (some (.int (j : Nat))) (some (lV lb)) o11 (some (lV ws))) T = r →
      evSs (gam pr (k + 3)) sub (.cond (.cmp .eq (.loc 4) (.k (.int 3))) [.set (.nm 12) (.call "_law_weights" [(.loc 0), (.loc 1)])] [] :: ss) (RT n z most shape way many w1 w2 m (some (.int (j : Nat))) (some (lV lb)) o11 (some (lV wa))) T5 = r := by
    by_cases c : way = 3
    · exact ⟨w3, T7, ⟨l7, b7⟩, (L5.trans L7).mono (by omega), fun ss r h => st_if (b := decide (way = 3)) (eq_int (loc_ok rfl)) (fun _ => call_two (loc_ok rfl) (loc_ok rfl) e7) (fun _ => h) (fun z => by simp [c] at z)⟩
    · exact ⟨wa, T5, ha, L5.mono (by omega), fun ss r h => st_if (b := decide (way = 3)) (w := .non) (T2 := T5) (eq_int (loc_ok rfl)) (fun z => by simp [c] at z) (fun z => by simp [c] at z) (fun _ => h)⟩
  obtain ⟨wc, Tc, hc, Lc, f7⟩ := s7
  have od := odds_run2 (pr := pr) (k := k) (S := Tc) (f := "_law_odds") (l := lb) (ws := wc) R.odds R.frac kb.1.len (by rw [hc.1, kb.2]) hc.2
  have gc : Tc[m]? = some (.lst rows) := Lc.get g mn
  have ap := app_lst (S := Tc) (n := m) (xs := rows) (y := .tup [lV lb, oV (oddsF lb wc)]) gc (by omega)
  refine ⟨.tup [lV lb, oV (oddsF lb wc)], some (lV lb), o11, some (lV wc), Tc.set m (.lst (rows ++ [.tup [lV lb, oV (oddsF lb wc)]])), ?_, ⟨lb, wc, rfl, kb.1, kb.2, hc.1, hc.2⟩, List.getElem?_set_self (get_lt gc), ?_⟩
  · refine st_set e1 ?_
    rw [RT_10]
    refine fa _ _ ?_
    refine fb _ _ ?_
    refine st_set (v := lV w1) (S1 := Ta) (loc_ok rfl) ?_
    rw [RT_12]
    refine f6 _ _ ?_
    refine f7 _ _ ?_
    refine st_expr (v := .non) (S1 := Tc.set m (.lst (rows ++ [.tup [lV lb, oV (oddsF lb wc)]]))) ?_ s_nil
    have tp : evE (gam pr (k + 3)) (.tup [(.loc 10), (.call "_law_odds" [(.loc 10), (.loc 12)])]) (RT n z most shape way many w1 w2 m (some (.int (j : Nat))) (some (lV lb)) o11 (some (lV wc))) Tc = .ok (.tup [lV lb, oV (oddsF lb wc)]) Tc := by
      exact tup_two (loc_ok rfl) (call_two (loc_ok rfl) (loc_ok rfl) od)
    exact append_any rfl gc (by omega) tp
  · exact Lft.put ((hL0.trans Lc).mono (by omega)) hm hn
theorem rows_run (h : Has pr f d_l_rows) (R : RLib pr) {z : Nat} {most : Nat} (hs : Sup n t S) (ht : t + 5000 ≤ 1000000000) (h1 : 1 ≤ z) (hz : z ≤ 12) (hm1 : 1 ≤ most) (hm : most ≤ 6) :
    ∃ m rows S', run pr (k + 4) f [.ref n, .int z, .int most] S = .ok (.ref m) S' ∧ S.length ≤ m ∧ S'[m]? = some (.lst rows) ∧ 1 ≤ rows.length ∧ rows.length ≤ most ∧ (∀ r ∈ rows, RowOk z r) ∧ Lft n (t + 300) S S' := by
  rw [run_eq h rfl]
  have nl := hs.lt
  obtain ⟨r1, T1, e1, a1, b1, L1, _⟩ := draw_x (pr := pr) (k := k + 2) (S := S) (τ := [some (.ref n), some (.int z), some (.int most), none, none, none, none, none, none, none, none, none, none]) (i := 0) (M := .k (.int 4)) R.draw hs (by omega) rfl x_k (by decide) (by decide)
  obtain ⟨r2, T2, e2, a2, b2, L2, _⟩ := draw_x (pr := pr) (k := k + 2) (S := T1) (τ := [some (.ref n), some (.int z), some (.int most), none, none, none, none, none, none, none, none, none, none]) (i := 0) (M := .k (.int 5)) R.draw L1.sup (by omega) rfl x_k (by decide) (by decide)
  obtain ⟨r3, T3, e3, a3, b3, L3, _⟩ := draw_x (pr := pr) (k := k + 2) (S := T2) (τ := [some (.ref n), some (.int z), some (.int most), none, none, none, none, none, none, none, none, none, none]) (i := 0) (M := .loc 2) R.draw L2.sup (by omega) rfl (loc_ok rfl) (m := (most : Int)) (by omega) (by omega)
  obtain ⟨c, rfl⟩ : ∃ c : Nat, r3 = (c : Int) := ⟨r3.toNat, by omega⟩
  obtain ⟨w1, T4, e4, l4, b4, L4⟩ := weights_run (pr := pr) (k := k) (S := T3) (f := "_law_weights") R.weights R.choose R.draw L3.sup (by omega) (z := z) hz
  obtain ⟨w2, T5, e5, l5, b5, L5⟩ := weights_run (pr := pr) (k := k) (S := T4) (f := "_law_weights") R.weights R.choose R.draw L4.sup (by omega) (z := z) hz
  have L05 : Lft n (t + 29) S T5 := (((L1.trans L2).trans L3).trans (L4.trans L5)).mono (by omega)
  have L06 : Lft n (t + 29) S (T5 ++ [.lst []]) := L05.app
  have g6 : (T5 ++ [Cell.lst []])[T5.length]? = some (.lst []) := app_at
  have m0 : S.length ≤ T5.length := L05.len
  obtain ⟨τ', S', e, ⟨rows, p9, p10, p11, p12, rfl, g', hr, hp, L'⟩⟩ := forGo_inv (body := evSs (gam pr (k + 3)) pr.sub lb_l_rows_1) (tg := .nm 9) (held := none)
    (fun j τ T => ∃ (rows : List IV) (p9 p10 p11 p12 : Option IV), τ = RT n z most r1 r2 (1 + (c : Int)) w1 w2 T5.length p9 p10 p11 p12 ∧ T[T5.length]? = some (.lst rows) ∧ rows.length = j ∧ (∀ r ∈ rows, RowOk z r) ∧ Lft n (t + 29 + 40 * j) S T)
    (rngI (1 + c)) 0 (RT n z most r1 r2 (1 + (c : Int)) w1 w2 T5.length none none none none) (T5 ++ [.lst []]) ⟨[], _, _, _, _, rfl, g6, rfl, by simp, by simpa using L06⟩
    (fun j x τ T hj hx hI => by
      obtain ⟨rows, p9, p10, p11, p12, rfl, g', hr, hp, L'⟩ := hI
      rw [Nat.sub_zero] at hx
      obtain ⟨hjl, rfl⟩ := rng_item hx
      obtain ⟨row, q10, q11, q12, T', e, k1, k2, k3⟩ := rows_turn (pr := pr) (k := k) (S0 := S) (S := T) R (sub := pr.sub) (j := j) (most := most) (shape := r1) (way := r2) (many := 1 + (c : Int)) (o10 := p10) (o11 := p11) (o12 := p12) ⟨l4, b4⟩ ⟨l5, b5⟩ L' (by omega) nl h1 hz m0 g' (by omega)
      refine ⟨rfl, _, rfl, _, T', e, ⟨rows ++ [row], _, _, _, _, rfl, k2, by simp [hr], ?_, k3.mono (by omega)⟩⟩
      intro r hr'
      rcases List.mem_append.mp hr' with h | h
      · exact hp r h
      · simp only [List.mem_cons, List.not_mem_nil, or_false] at h
        rw [h]; exact k1)
    (fun _ _ _ => rfl)
  have hlen : (rngI (1 + c)).length = 1 + c := by simp [rngI]
  rw [hlen, Nat.zero_add] at hr
  rw [hlen, Nat.zero_add] at L'
  refine ⟨T5.length, rows, S', (done_of (v := .ref T5.length) (S1 := S') ?_).trans (by rw [keep_ref m0]), m0, g', by omega, by omega, hp, L'.mono (by omega)⟩
  have s1 : evS (gam pr (k + 3)) pr.sub (.par3 3 4 5 (.call "_law_draw" [(.loc 0), (.k (.int 4))]) (.call "_law_draw" [(.loc 0), (.k (.int 5))]) (.bin .add (.k (.int 1)) (.call "_law_draw" [(.loc 0), (.loc 2)]))) [some (.ref n), some (.int z), some (.int most), none, none, none, none, none, none, none, none, none, none] S = .next [some (.ref n), some (.int z), some (.int most), some (.int r1), some (.int r2), some (.int (1 + (c : Int))), none, none, none, none, none, none, none] T3 := by
    rw [s_par3, e1, thn_ok, e2, thn_ok, bin_ok2 x_k e3 b_add, thn_ok]
    rfl
  have s2 : evS (gam pr (k + 3)) pr.sub (.par3 6 7 8 (.call "_law_weights" [(.loc 0), (.loc 1)]) (.call "_law_weights" [(.loc 0), (.loc 1)]) (.lst [])) [some (.ref n), some (.int z), some (.int most), some (.int r1), some (.int r2), some (.int (1 + (c : Int))), none, none, none, none, none, none, none] T3 = .next (RT n z most r1 r2 (1 + (c : Int)) w1 w2 T5.length none none none none) (T5 ++ [.lst []]) := by
    rw [s_par3, call_two (loc_ok rfl) (loc_ok rfl) e4, thn_ok, call_two (loc_ok rfl) (loc_ok rfl) e5, thn_ok, x_lst, xs_nil, bind_ok, mkLi_0, thn_ok]
    rfl
  refine st_any s1 (st_any s2 ?_)
  exact st_for (it_rng (K := 1 + c) (by rw [xs_cons, loc_ok (v := .int (1 + (c : Int))) rfl, bind_ok, xs_nil, bind_ok]; simp) (by omega)) e (st_ret (loc_ok rfl))
end
end Wo
/-! WjS: rooms. -/
namespace Wo
open PySem L2 Wg
def obsC (l : List Int) (o : List Rat) : Cell := .ins "Observer" [("own_labels", lV l), ("own_parts", partsV l), ("own_odds", oV o)]
def prsC (a b : IV) : Cell := .ins "Presence" [("kept", a), ("before", b)]
def roomC (ws : List IV) (z p : Nat) : Cell := .ins "Room" [("watchers", .tup ws), ("size", .int z), ("presence", .ref p)]
def d_pinit : PD := ⟨2, 2, [
    .fld (.loc 0) "kept" (.loc 1),
    .fld (.loc 0) "before" (.loc 1)]⟩
def lb_rinit_2 : List Sm := [
      .cond (.cmp .ne (.blt .len [(.att "labels" (.loc 2))]) (.loc 3)) [
        .raise "InvalidRoomError"] []]
def lb_rinit_1 : List Sm := [
      .cond (.not (.iso (.loc 2) "Observer")) [
        .raise "InvalidRoomError"] []]
def d_rinit : PD := ⟨1001, 4, [
    .cond (.not (.chain .le .le (.k (.int 1)) (.blt .len [(.loc 1)]) (.att "MOST_OBSERVERS" (.loc 0)))) [
      .raise "InvalidRoomError"] [],
    .for (.nm 2) (.val (.loc 1)) lb_rinit_1,
    .set (.nm 3) (.blt .len [(.att "labels" (.ix (.loc 1) (.k (.int 0))))]),
    .for (.nm 2) (.val (.loc 1)) lb_rinit_2,
    .fld (.loc 0) "watchers" (.loc 1),
    .fld (.loc 0) "size" (.loc 3),
    .fld (.loc 0) "presence" (.new (.k (.cls "Presence")) [(.rgs true (.loc 3))])]⟩
structure RmLib (pr : Prg) : Prop where
  lib : OLib pr
  oinit : pr.att "Observer" "__init__" = some (.meth "Observer.__init__")
  oinitD : Has pr "Observer.__init__" d_init
  oasg : pr.att "Observer" "assign_odds" = some (.meth "Observer.assign_odds")
  oasgD : Has pr "Observer.assign_odds" d_assign
  o1 : pr.att "Observer" "own_labels" = none
  o2 : pr.att "Observer" "own_parts" = none
  o3 : pr.att "Observer" "own_odds" = none
  olab : ∃ s, pr.att "Observer" "labels" = some (.prop "Observer.labels" s)
  olabD : Has pr "Observer.labels" (d_get "own_labels")
  oodd : ∃ s, pr.att "Observer" "odds" = some (.prop "Observer.odds" s)
  ooddD : Has pr "Observer.odds" (d_get "own_odds")
  oiso : pr.isub "Observer" "Observer" = true
  pinit : pr.att "Presence" "__init__" = some (.meth "Presence.__init__")
  pinitD : Has pr "Presence.__init__" d_pinit
  p1 : pr.att "Presence" "kept" = none
  p2 : pr.att "Presence" "before" = none
  rinit : pr.att "Room" "__init__" = some (.meth "Room.__init__")
  rinitD : Has pr "Room.__init__" d_rinit
  rmost : pr.att "Room" "MOST_OBSERVERS" = some (.con (.int 6))
  r1 : pr.att "Room" "watchers" = none
  r2 : pr.att "Room" "size" = none
  r3 : pr.att "Room" "presence" = none
section
variable {pr : Prg} {k : Nat} {S S0 S1 S2 : Sto} {f : Str} {Γ : Gam} {τ : Sl} {v : IV} {n t t' : Nat}
theorem look_lab {l : List Int} {o : List Rat} : ([("own_labels", lV l), ("own_parts", partsV l), ("own_odds", oV o)] : List (Str × IV)).lookup (Str.ofString "own_labels") = some (lV l) := fld1 (a := lV l) (b := partsV l) (c := oV o)
theorem look_odd {l : List Int} {o : List Rat} : ([("own_labels", lV l), ("own_parts", partsV l), ("own_odds", oV o)] : List (Str × IV)).lookup (Str.ofString "own_odds") = some (oV o) := fld3 (a := lV l) (b := partsV l) (c := oV o)
theorem RmLib.labels (M : RmLib pr) {m : Nat} {l : List Int} {o : List Rat} (h : S[m]? = some (obsC l o)) : attI (gam pr (k + 1)) "labels" (.ref m) S = .ok (lV l) S := by
  obtain ⟨s, hs⟩ := M.olab
  exact prop_att h hs M.olabD (att_fld h M.o1 look_lab)
theorem RmLib.odds (M : RmLib pr) {m : Nat} {l : List Int} {o : List Rat} (h : S[m]? = some (obsC l o)) : attI (gam pr (k + 1)) "odds" (.ref m) S = .ok (oV o) S := by
  obtain ⟨s, hs⟩ := M.oodd
  exact prop_att h hs M.ooddD (att_fld h M.o3 look_odd)
/-- an observer of so many cases -/
def IsOb (S : Sto) (z m : Nat) : Prop := ∃ l o, S[m]? = some (obsC l o) ∧ l.length = z
theorem IsOb.app {z m : Nat} {G : Sto} (h : IsOb S z m) : IsOb (S ++ G) z m := by
  obtain ⟨l, o, h1, h2⟩ := h
  exact ⟨l, o, get_appL h1, h2⟩
end
end Wo
/-! WjT: rooms of rows; present cases; events drawn. -/
namespace Wo
open PySem L2 Wg
section
variable {pr : Prg} {k : Nat} {S S0 S1 S2 : Sto} {f : Str} {Γ : Gam} {τ : Sl} {v : IV} {n t t' : Nat}
/-! ### the present cases -/
structure RoomAt (S : Sto) (m p z : Nat) (ws : List IV) (a b : IV) : Prop where
  room : S[m]? = some (roomC ws z p)
  prs : S[p]? = some (prsC a b)
variable {m p z : Nat} {ws : List IV} {a b : IV}
theorem RoomAt.size (M : RmLib pr) (h : RoomAt S m p z ws a b) : attI (gam pr k) "size" (.ref m) S = .ok (.int z) S := att_fld h.room M.r2 (by kernel_rfl)
theorem RoomAt.kept (M : RmLib pr) (h : RoomAt S m p z ws a b) : attI (gam pr k) "kept" (.ref p) S = .ok a S := att_fld h.prs M.p1 (by kernel_rfl)
end
end Wo
/-! WjU: events drawn and asked about; equal values. -/
namespace Wo
open PySem L2 Wg
end Wo
/-! WjV: present odds. -/
namespace Wo
open PySem L2 Wg
section
variable {pr : Prg} {k : Nat} {S S0 S1 S2 : Sto} {f g : Str} {Γ : Gam} {τ : Sl} {v : IV} {n t t' : Nat}
/-! ### present odds by weights -/
def mts (l : List Int) (is : List Nat) (i : Nat) : List Nat := is.filter fun y => decide (dg l y = dg l i)
variable {l ws : List Int} {is : List Nat}
variable {m p z : Nat} {wr : List IV} {a b : IV}
end
end Wo
/-! WjW: present odds, both sides. -/
namespace Wo
open PySem L2 Wg
section
variable {pr : Prg} {k : Nat} {S S0 S1 S2 : Sto} {f g : Str} {Γ : Gam} {τ : Sl} {v : IV} {n t t' : Nat} {l ws : List Int} {is : List Nat}
theorem item_ev {j : Nat} {x : IV} (hx : (is.map fun i : Nat => IV.int (i : Int))[j]? = some x) : ∃ i, is[j]? = some i ∧ x = .int (i : Nat) := by
  rw [List.getElem?_map] at hx
  cases e : is[j]? with
  | none => rw [e] at hx; cases hx
  | some i => rw [e] at hx; cases hx; exact ⟨i, rfl, rfl⟩
/-! ### the law's side -/
/-! ### the program's side -/
variable {m p z : Nat} {wr : List IV} {b : IV}
end
end Wo
/-! WjX: partitions joined. -/
namespace Wo
open PySem L2 Wg
/-! ### canonical labels see the pattern alone -/
/-! ### links -/
/-- cases linked by partitions -/
inductive Lk (z : Nat) (ps : List (List Int)) (i : Nat) : Nat → Prop
  | rfl' : Lk z ps i i
  | step {j k : Nat} {p : List Int} : Lk z ps i j → p ∈ ps → dg p j = dg p k → k < z → Lk z ps i k
section
variable {z : Nat} {ps : List (List Int)} {i j k : Nat}
theorem Lk.lt (h : Lk z ps i j) (hi : i < z) : j < z := by
  cases h with
  | rfl' => exact hi
  | step _ _ _ h => exact h
theorem Lk.trans (h : Lk z ps i j) (h' : Lk z ps j k) : Lk z ps i k := by
  induction h' with
  | rfl' => exact h
  | step _ h1 h2 h3 ih => exact .step ih h1 h2 h3
theorem Lk.symm (h : Lk z ps i j) (hi : i < z) : Lk z ps j i := by
  induction h with
  | rfl' => exact .rfl'
  | @step a b p h h1 h2 h3 ih => exact Lk.trans (.step .rfl' h1 h2.symm (h.lt hi)) ih
theorem Lk.mono {qs : List (List Int)} (h : Lk z ps i j) (hs : ∀ p ∈ ps, p ∈ qs) : Lk z qs i j := by
  induction h with
  | rfl' => exact .rfl'
  | step _ h1 h2 h3 ih => exact .step ih (hs _ h1) h2 h3
end
/-! ### merging -/
def mrg (to fr : Int) (cur : List Int) : List Int := cur.map fun x => if x = fr then to else x
theorem dg_mrg {to fr : Int} {cur : List Int} {i : Nat} (h : i < cur.length) : dg (mrg to fr cur) i = if dg cur i = fr then to else dg cur i := by
  simp [dg, mrg, h]
/-- what holds of the labels while they are merged -/
structure Jn (z : Nat) (ps : List (List Int)) (cur : List Int) : Prop where
  len : cur.length = z
  snd : ∀ i j, i < z → j < z → dg cur i = dg cur j → Lk z ps i j
/-- equal labels stay equal -/
def Kp (z : Nat) (c c' : List Int) : Prop := ∀ i j, i < z → j < z → dg c i = dg c j → dg c' i = dg c' j
theorem Kp.rfl' {z : Nat} {c : List Int} : Kp z c c := fun _ _ _ _ h => h
theorem Kp.trans {z : Nat} {c d e : List Int} (h : Kp z c d) (h' : Kp z d e) : Kp z c e := fun i j hi hj q => h' i j hi hj (h i j hi hj q)
section
variable {z : Nat} {ps : List (List Int)} {cur : List Int} {a b : Nat}
theorem Jn.mrg (h : Jn z ps cur) (ha : a < z) (hb : b < z) (l : Lk z ps a b) : Jn z ps (mrg (dg cur a) (dg cur b) cur) := by
  have hl := h.len
  refine ⟨by simp [Wo.mrg, h.len], fun i j hi hj e => ?_⟩
  rw [dg_mrg (by omega), dg_mrg (by omega)] at e
  by_cases e1 : dg cur i = dg cur b
  · by_cases e2 : dg cur j = dg cur b
    · exact h.snd i j hi hj (e1.trans e2.symm)
    · rw [if_pos e1, if_neg e2] at e
      exact ((h.snd i b hi hb e1).trans (l.symm ha)).trans (h.snd a j ha hj e)
  · by_cases e2 : dg cur j = dg cur b
    · rw [if_neg e1, if_pos e2] at e
      exact (h.snd i a hi ha e).trans (l.trans (h.snd b j hb hj e2.symm))
    · rw [if_neg e1, if_neg e2] at e
      exact h.snd i j hi hj e
theorem kp_mrg {to fr : Int} (hl : cur.length = z) : Kp z cur (mrg to fr cur) := fun i j hi hj e => by
  rw [dg_mrg (by omega), dg_mrg (by omega), e]
end
/-! ### the program -/
def lb_relabelled_1 : List Sm := lb_l_canonical_1
def lb_check_partitions_2 : List Sm := [
      .cond (.cmp .ne (.blt .len [(.loc 1)]) (.blt .len [(.ix (.loc 0) (.k (.int 0)))])) [
        .raise "MismatchError"] []]
def lb_check_partitions_1 : List Sm := [
      .expr (.call "check_labels" [(.loc 1)])]
def d_check_partitions : PD := ⟨1, 2, [
    .for (.nm 1) (.val (.loc 0)) lb_check_partitions_1,
    .cond (.cmp .eq (.blt .len [(.loc 0)]) (.k (.int 0))) [
      .raise "MismatchError"] [],
    .for (.nm 1) (.val (.loc 0)) lb_check_partitions_2]⟩
def mrgX : PX := .lc [7] (.nm 7) (.val (.loc 1)) [] (.ite (.cmp .eq (.loc 7) (.loc 6)) (.loc 4) (.loc 7))
def lb_joined_3 : List Sm := [
          .set (.nm 6) (.ix (.loc 1) (.loc 5)),
          .set (.nm 1) mrgX]
def lb_joined_2 : List Sm := [
        .set (.nm 4) (.ix (.loc 1) (.ix (.loc 3) (.k (.int 0)))),
        .for (.nm 5) (.val (.loc 3)) lb_joined_3]
def lb_joined_1 : List Sm := [
      .for (.nm 3) (.val (.call "grouped" [(.loc 2)])) lb_joined_2]
def d_joined : PD := ⟨1000, 8, [
    .expr (.call "check_partitions" [(.loc 0)]),
    .set (.nm 1) (.rgs false (.blt .len [(.ix (.loc 0) (.k (.int 0)))])),
    .for (.nm 2) (.val (.loc 0)) lb_joined_1,
    .ret (.call "relabelled" [(.loc 1)])]⟩
structure JLib (pr : Prg) : Prop where
  check : Has pr "check_labels" d_check_labels
  labels : Has pr "is_valid_labels" d_is_valid_labels
  integer : Has pr "is_integer" d_is_integer
  most : pr.glob.lookup (Str.ofString "MOST_CASES") = some (IV.int 12)
  parts : Has pr "check_partitions" d_check_partitions
  relab : Has pr "relabelled" d_l_labels
def JT (a : IV) (r : Nat) (o2 o3 o4 o5 o6 : Option IV) : Sl := [some a, some (.ref r), o2, o3, o4, o5, o6, none]
section
variable {pr : Prg} {k : Nat} {S U : Sto} {f : Str} {Γ : Gam} {z : Nat} {ps : List (List Int)} {cur : List Int} {a : IV} {r : Nat} {o2 o3 o4 o5 o6 : Option IV}
theorem check_parts (J : JLib pr) (h0 : ps ≠ []) (hp : ∀ p ∈ ps, Lab p ∧ p.length = z) : run pr (k + 4) "check_partitions" [.tup (ps.map lV)] S = .ok .non S := by
  rw [run_eq J.parts rfl]
  obtain ⟨p0, qs, rfl⟩ : ∃ p0 qs, ps = p0 :: qs := by cases ps with | nil => exact absurd rfl h0 | cons a b => exact ⟨a, b, rfl⟩
  have item : ∀ {j : Nat} {x : IV}, ((p0 :: qs).map lV)[j]? = some x → ∃ p, p ∈ p0 :: qs ∧ x = lV p := fun {j x} hx => by
    obtain ⟨p, h1, h2⟩ := List.mem_map.mp (List.mem_of_getElem? hx)
    exact ⟨p, h1, h2.symm⟩
  obtain ⟨τ1, U1, e1, ⟨hU1, o1, rfl⟩⟩ := forGo_inv (body := evSs (gam pr (k + 3)) pr.sub lb_check_partitions_1) (tg := .nm 1) (held := none)
    (fun i τ U => U = S ∧ ∃ (o1 : Option IV), τ = [some (.tup ((p0 :: qs).map lV)), o1]) ((p0 :: qs).map lV) 0 [some (.tup ((p0 :: qs).map lV)), none] S ⟨rfl, _, rfl⟩
    (fun i x τ U hi hx hI => by
      obtain ⟨rfl, o1, rfl⟩ := hI
      obtain ⟨p, hm, rfl⟩ := item hx
      have c := check_lab (pr := pr) (k := k) (S := U) (f := "check_labels") J.check J.labels J.integer J.most (v := lV p) (dat_ints p)
      rw [show validLab (lV p) = true from (hp p hm).1.valid, if_pos rfl] at c
      exact ⟨rfl, _, rfl, _, _, st_expr (call_one (loc_ok rfl) c) s_nil, rfl, _, rfl⟩)
    (fun _ _ _ => rfl)
  rw [hU1] at e1
  obtain ⟨τ2, U2, e2, ⟨hU2, o2, rfl⟩⟩ := forGo_inv (body := evSs (gam pr (k + 3)) pr.sub lb_check_partitions_2) (tg := .nm 1) (held := none)
    (fun i τ U => U = S ∧ ∃ (o1 : Option IV), τ = [some (.tup ((p0 :: qs).map lV)), o1]) ((p0 :: qs).map lV) 0 [some (.tup ((p0 :: qs).map lV)), o1] S ⟨rfl, _, rfl⟩
    (fun i x τ U hi hx hI => by
      obtain ⟨rfl, o1, rfl⟩ := hI
      obtain ⟨p, hm, rfl⟩ := item hx
      have c1 : evE (gam pr (k + 3)) (.blt .len [(.loc 1)]) [some (.tup ((p0 :: qs).map lV)), some (lV p)] U = .ok (.int (z : Nat)) U := by
        refine blt1 (loc_ok rfl) (l_tup.trans ?_)
        rw [List.length_map, (hp p hm).2]
      have c2 : evE (gam pr (k + 3)) (.blt .len [(.ix (.loc 0) (.k (.int 0)))]) [some (.tup ((p0 :: qs).map lV)), some (lV p)] U = .ok (.int (z : Nat)) U := by
        refine blt1 (ix_ok (loc_ok rfl) x_k (v := lV p0) (by rw [List.map_cons, at0])) (l_tup.trans ?_)
        rw [List.length_map, (hp p0 (by simp)).2]
      have c3 : evE (gam pr (k + 3)) (.cmp .ne (.blt .len [(.loc 1)]) (.blt .len [(.ix (.loc 0) (.k (.int 0)))])) [some (.tup ((p0 :: qs).map lV)), some (lV p)] U = .ok (.bl false) U := (cmp_ok c1 c2 c_ne).trans (by simp)
      exact ⟨rfl, _, rfl, _, _, st_no c3 s_nil, rfl, _, rfl⟩)
    (fun _ _ _ => rfl)
  rw [hU2] at e2
  show (evSs (gam pr (k + 3)) pr.sub d_check_partitions.body [some (.tup ((p0 :: qs).map lV)), none] S).done S = _
  have : evSs (gam pr (k + 3)) pr.sub d_check_partitions.body [some (.tup ((p0 :: qs).map lV)), none] S = .next [some (.tup ((p0 :: qs).map lV)), o2] S := by
    refine st_for (it_tup (loc_ok rfl)) e1 ?_
    refine st_no (S1 := S) ((eq_int (blt1 (loc_ok rfl) l_tup)).trans ?_) ?_
    · simp; omega
    · exact st_for (it_tup (loc_ok rfl)) e2 s_nil
  rw [this, done_next, settle_self]
theorem mrg_ints {to fr : Int} : (mrg to fr cur).map IV.int = (cur.map IV.int).filterMap fun x => match x with | .int i => some (.int (if i = fr then to else i)) | _ => none := by
  rw [List.filterMap_map, mrg, List.map_map]
  rw [show ((fun x : IV => match x with | .int i => some (.int (if i = fr then to else i)) | _ => none) ∘ IV.int) = fun i => some ((IV.int ∘ fun x => if x = fr then to else x) i) from rfl, fm_map]
/-- a case takes the label of its part -/
theorem turn3 {i : Nat} {to : Int} (g : U[r]? = some (.lst (cur.map .int))) (hi : i < cur.length) (hl : cur.length ≤ 1000) {sub : Str → Str → Bool} : evSs Γ sub lb_joined_3 (JT a r o2 o3 (some (.int to)) (some (.int (i : Nat))) o6) U = .next (JT a U.length o2 o3 (some (.int to)) (some (.int (i : Nat))) (some (.int (dg cur i)))) (U ++ [.lst ((mrg to (dg cur i) cur).map .int)]) := by
  have e1 : evE Γ (.ix (.loc 1) (.loc 5)) (JT a r o2 o3 (some (.int to)) (some (.int (i : Nat))) o6) U = .ok (.int (dg cur i)) U := by
    rw [x_ix, loc_ok (v := .ref r) rfl, bind_ok, loc_ok (v := .int (i : Nat)) rfl, bind_ok, i_lst g, ix_dg hi, getO_some]
  refine st_set e1 ?_
  have e2 : evE Γ mrgX (JT a r o2 o3 (some (.int to)) (some (.int (i : Nat))) (some (.int (dg cur i)))) U = .ok (.ref U.length) (U ++ [.lst ((mrg to (dg cur i) cur).map .int)]) := by
    rw [mrg_ints]
    refine lc_pure (held := some (r, .lst (cur.map .int))) _ (it_lst (loc_ok rfl) g) (holds_lst g) (by simp; omega) ?_
    intro x hx
    obtain ⟨y, hy, rfl⟩ := List.mem_map.mp hx
    have e : lcOne Γ [7] (.nm 7) [] (.ite (.cmp .eq (.loc 7) (.loc 6)) (.loc 4) (.loc 7)) (JT a r o2 o3 (some (.int to)) (some (.int (i : Nat))) (some (.int (dg cur i)))) (.int y) U = (evE Γ (.ite (.cmp .eq (.loc 7) (.loc 6)) (.loc 4) (.loc 7)) [some a, some (.ref r), o2, o3, some (.int to), some (.int (i : Nat)), some (.int (dg cur i)), some (.int y)] U).bind fun y S4 => .ok (some y) S4 := rfl
    rw [e, x_ite, cmp_ok (loc_ok (v := .int y) rfl) (loc_ok (v := .int (dg cur i)) rfl) c_eq, tr_ok]
    by_cases q : y = dg cur i
    · simp only [q, decide_true, if_true]
      rw [loc_ok (v := .int to) rfl, bind_ok]
    · simp only [q, decide_false, Bool.false_eq_true, if_false]
      rw [loc_ok (v := .int y) rfl, bind_ok]
  refine (st_set (τ := JT a r o2 o3 (some (.int to)) (some (.int (i : Nat))) (some (.int (dg cur i)))) e2 ?_)
  rw [s_nil]; rfl
/-- the state of the merging -/
structure JS (S : Sto) (z : Nat) (ps : List (List Int)) (c0 : List Int) (U : Sto) (r : Nat) (cur : List Int) : Prop where
  ext : ∃ G, U = S ++ G
  low : S.length ≤ r
  at_ : U[r]? = some (.lst (cur.map .int))
  jn : Jn z ps cur
  kp : Kp z c0 cur
theorem part_go {l : List Int} {c : Int} {sub : Str → Str → Bool} {c0 : List Int} (hz : z ≤ 12) (hl : l.length = z) (hm : l ∈ ps) (h : JS S z ps c0 U r cur) (hne : ptN l c ≠ []) :
    ∃ r' cur' q4 q5 q6 U', evSs Γ sub lb_joined_2 (JT a r o2 (some (ptV l c)) o4 o5 o6) U = .next (JT a r' o2 (some (ptV l c)) q4 q5 q6) U' ∧ JS S z ps c0 U' r' cur' ∧ Kp z cur cur' ∧ ∀ i ∈ ptN l c, ∀ j ∈ ptN l c, dg cur' i = dg cur' j := by
  obtain ⟨a0, as, e0⟩ : ∃ a0 as, ptN l c = a0 :: as := by cases h : ptN l c with | nil => exact absurd h hne | cons a b => exact ⟨a, b, rfl⟩
  have ha0 : a0 ∈ ptN l c := by rw [e0]; simp
  have ha : a0 < z := hl ▸ ptN_lt ha0
  have clen := h.jn.len
  have pv : ptV l c = .tup ((ptN l c).map fun i : Nat => IV.int (i : Int)) := ptV_eq l c
  have e1 : evE Γ (.ix (.loc 1) (.ix (.loc 3) (.k (.int 0)))) (JT a r o2 (some (ptV l c)) o4 o5 o6) U = .ok (.int (dg cur a0)) U := by
    have : evE Γ (.ix (.loc 3) (.k (.int 0))) (JT a r o2 (some (ptV l c)) o4 o5 o6) U = .ok (.int (a0 : Nat)) U := by
      rw [pv, e0]
      exact ix_ok (loc_ok rfl) x_k (by rw [List.map_cons, at0])
    rw [x_ix, loc_ok (v := .ref r) rfl, bind_ok, this, bind_ok, i_lst h.at_, ix_dg (by omega), getO_some]
  obtain ⟨τ', U', e2, ⟨r', cur', q5, q6, rfl, hJ, hk, hto, hall⟩⟩ := forGo_inv (body := evSs Γ sub lb_joined_3) (tg := .nm 5) (held := none)
    (fun j τ V => ∃ (r' : Nat) (cur' : List Int) (q5 q6 : Option IV), τ = JT a r' o2 (some (ptV l c)) (some (.int (dg cur a0))) q5 q6 ∧ JS S z ps c0 V r' cur' ∧ Kp z cur cur' ∧ dg cur' a0 = dg cur a0 ∧ ∀ b ∈ (ptN l c).take j, dg cur' b = dg cur a0)
    ((ptN l c).map fun i : Nat => IV.int (i : Int)) 0 (JT a r o2 (some (ptV l c)) (some (.int (dg cur a0))) o5 o6) U ⟨r, cur, _, _, rfl, h, .rfl', rfl, by simp⟩
    (fun j x τ V hj hx hI => by
      obtain ⟨r', cur', q5, q6, rfl, hJ, hk, hto, hall⟩ := hI
      rw [Nat.sub_zero] at hx
      obtain ⟨b, hb, rfl⟩ := item_ev hx
      have hbm : b ∈ ptN l c := List.mem_of_getElem? hb
      have hbz : b < z := hl ▸ ptN_lt hbm
      have clen' := hJ.jn.len
      have lk : Lk z ps a0 b := .step .rfl' hm ((pt_dg ha0).trans (pt_dg hbm).symm) hbz
      have jn := hJ.jn.mrg ha hbz lk
      rw [hto] at jn
      obtain ⟨G, hG⟩ := hJ.ext
      refine ⟨rfl, _, rfl, _, _, turn3 hJ.at_ (by omega) (by omega), V.length, mrg (dg cur a0) (dg cur' b) cur', _, _, rfl, ⟨⟨G ++ [.lst ((mrg (dg cur a0) (dg cur' b) cur').map .int)], by rw [hG]; simp⟩, by rw [hG]; simp, app_at, jn, hJ.kp.trans (kp_mrg clen')⟩, hk.trans (kp_mrg clen'), ?_, ?_⟩
      · rw [dg_mrg (by omega), hto]; split <;> rfl
      · intro b' hb'
        rw [List.take_add_one, hb] at hb'
        rcases List.mem_append.mp hb' with q | q
        · have hz' : b' < z := hl ▸ ptN_lt (List.mem_of_mem_take q)
          rw [dg_mrg (by omega), hall b' q]; split <;> rfl
        · simp at q
          subst q
          rw [dg_mrg (by omega), if_pos rfl])
    (fun _ _ _ => rfl)
  rw [List.length_map, Nat.zero_add, List.take_length] at hall
  refine ⟨r', cur', some (.int (dg cur a0)), q5, q6, U', st_set e1 ?_, hJ, hk, fun i hi j hj => (hall i hi).trans (hall j hj).symm⟩
  refine st_for (τ := JT a r o2 (some (ptV l c)) (some (.int (dg cur a0))) o5 o6) (items := (ptN l c).map fun i : Nat => IV.int (i : Int)) (it_tup (loc_ok (by rw [← pv]; rfl))) e2 s_nil
theorem parts_go {l : List Int} {sub : Str → Str → Bool} {c0 : List Int} (hg : Has pr "grouped" d_grouped) (hz : z ≤ 12) (hL : Lab l) (hl : l.length = z) (hm : l ∈ ps) (h : JS S z ps c0 U r cur) :
    ∃ r' cur' q3 q4 q5 q6 U', evSs (gam pr (k + 1)) sub lb_joined_1 (JT a r (some (lV l)) o3 o4 o5 o6) U = .next (JT a r' (some (lV l)) q3 q4 q5 q6) U' ∧ JS S z ps c0 U' r' cur' ∧ Kp z cur cur' ∧ ∀ i j, i < z → j < z → dg l i = dg l j → dg cur' i = dg cur' j := by
  have m0 := hL.mx0
  have gr := grouped_run (pr := pr) (k := k) (S := U) (f := "grouped") hg (l := l) hL.ne (by omega) m0.1 (by omega)
  obtain ⟨τ', U', e, ⟨r', cur', q3, q4, q5, q6, rfl, hJ, hk, hall⟩⟩ := forGo_inv (body := evSs (gam pr (k + 1)) sub lb_joined_2) (tg := .nm 3) (held := none)
    (fun j τ V => ∃ (r' : Nat) (cur' : List Int) (q3 q4 q5 q6 : Option IV), τ = JT a r' (some (lV l)) q3 q4 q5 q6 ∧ JS S z ps c0 V r' cur' ∧ Kp z cur cur' ∧ ∀ c : Nat, c < j → ∀ i ∈ ptN l c, ∀ j ∈ ptN l c, dg cur' i = dg cur' j)
    ((upto (mx l + 1).toNat).map fun c => ptV l c) 0 (JT a r (some (lV l)) o3 o4 o5 o6) U ⟨r, cur, _, _, _, _, rfl, h, .rfl', by simp⟩
    (fun j x τ V hj hx hI => by
      obtain ⟨r', cur', q3, q4, q5, q6, rfl, hJ, hk, hall⟩ := hI
      rw [Nat.sub_zero] at hx
      obtain ⟨hjk, rfl⟩ : j < K l ∧ x = ptV l (j : Nat) := by
        have lt : j < (mx l + 1).toNat := by
          have := (List.getElem?_eq_some_iff.mp hx).1
          simpa only [List.length_map, upto, List.length_range] using this
        rw [List.getElem?_map, upto, List.getElem?_map, List.getElem?_range lt] at hx
        simp only [Option.map_some, Option.some.injEq] at hx
        exact ⟨lt, hx.symm⟩
      obtain ⟨w, hw⟩ := lab_mem hL hjk
      obtain ⟨r2, cur2, s4, s5, s6, V', e2, h2, k2, all2⟩ := part_go (Γ := gam pr (k + 1)) (a := a) (o2 := some (lV l)) (o4 := q4) (o5 := q5) (o6 := q6) (sub := sub) (c := (j : Nat)) hz hl hm hJ (fun e => by rw [e] at hw; simp at hw)
      refine ⟨rfl, _, rfl, _, _, e2, r2, cur2, _, _, _, _, rfl, h2, hk.trans k2, fun c hc i hi j' hj' => ?_⟩
      by_cases q : c = j
      · subst q; exact all2 i hi j' hj'
      · exact k2 i j' (hl ▸ ptN_lt hi) (hl ▸ ptN_lt hj') (hall c (by omega) i hi j' hj'))
    (fun _ _ _ => rfl)
  rw [Nat.zero_add] at hall
  refine ⟨r', cur', q3, q4, q5, q6, U', st_for (it_tup (call_one (loc_ok rfl) gr)) e s_nil, hJ, hk, fun i j hi hj q => ?_⟩
  have hb := hL.bd (dg l i) (by rw [show dg l i = l[i] by simp [dg, show i < l.length by omega]]; exact List.getElem_mem _)
  have hmx : dg l i ≤ mx l := by
    have : dg l i ∈ l := by rw [show dg l i = l[i] by simp [dg, show i < l.length by omega]]; exact List.getElem_mem _
    exact le_mx this
  have p1 := self_pt (l := l) (i := i) (by omega)
  have p2 := self_pt (l := l) (i := j) (by omega)
  rw [← q] at p2
  have ci : dg l i = ((dg l i).toNat : Int) := by omega
  rw [ci] at p1 p2
  exact hall _ (by simp [upto]; omega) i p1 j p2
theorem joined_run (J : JLib pr) (hj : Has pr f d_joined) (hgr : Has pr "grouped" d_grouped) (h0 : ps ≠ []) (hp : ∀ p ∈ ps, Lab p ∧ p.length = z) (hlen : ps.length ≤ 1000) :
    ∃ cur : List Int, cur.length = z ∧ (∀ i j, i < z → j < z → (dg cur i = dg cur j ↔ Lk z ps i j)) ∧ run pr (k + 5) f (ps.map lV) S = .ok (lV (canF cur [] []).2) S := by
  have hz : z ≤ 12 := by
    obtain ⟨p0, qs, rfl⟩ : ∃ p0 qs, ps = p0 :: qs := by cases ps with | nil => exact absurd rfl h0 | cons a b => exact ⟨a, b, rfl⟩
    have := hp p0 (by simp)
    have := this.1.len
    omega
  have cp := check_parts (k := k) (S := S) J h0 hp
  have start : JS S z ps (upto z) (S ++ [.lst ((upto z).map .int)]) S.length (upto z) := ⟨⟨_, rfl⟩, Nat.le_refl _, app_at, ⟨by simp [upto], fun i j hi hj e => by
    have : dg (upto z) i = i := by simp [dg, upto, hi]
    have : dg (upto z) j = j := by simp [dg, upto, hj]
    have : i = j := by omega
    subst this; exact .rfl'⟩, .rfl'⟩
  obtain ⟨τ', U', e, ⟨r, cur, q2, q3, q4, q5, q6, rfl, hJ, hall⟩⟩ := forGo_inv (body := evSs (gam pr (k + 4)) pr.sub lb_joined_1) (tg := .nm 2) (held := none)
    (fun j τ V => ∃ (r' : Nat) (cur' : List Int) (q2 q3 q4 q5 q6 : Option IV), τ = JT (.tup (ps.map lV)) r' q2 q3 q4 q5 q6 ∧ JS S z ps (upto z) V r' cur' ∧ ∀ p ∈ ps.take j, ∀ i j, i < z → j < z → dg p i = dg p j → dg cur' i = dg cur' j)
    (ps.map lV) 0 (JT (.tup (ps.map lV)) S.length none none none none none) (S ++ [.lst ((upto z).map .int)]) ⟨_, _, _, _, _, _, _, rfl, start, by simp⟩
    (fun j x τ V hj hx hI => by
      obtain ⟨r', cur', q2, q3, q4, q5, q6, rfl, hJ, hall⟩ := hI
      rw [Nat.sub_zero, List.getElem?_map] at hx
      cases ej : ps[j]? with
      | none => rw [ej] at hx; cases hx
      | some l =>
        rw [ej] at hx; cases hx
        have hm := List.mem_of_getElem? ej
        obtain ⟨hL, hl⟩ := hp l hm
        obtain ⟨r2, cur2, s3, s4, s5, s6, V', e2, h2, k2, all2⟩ := parts_go (pr := pr) (k := k + 3) (a := .tup (ps.map lV)) (o3 := q3) (o4 := q4) (o5 := q5) (o6 := q6) (sub := pr.sub) hgr hz hL hl hm hJ
        refine ⟨rfl, _, rfl, _, _, e2, r2, cur2, _, _, _, _, _, rfl, h2, fun p hp' i j' hi hj' q => ?_⟩
        rw [List.take_add_one, ej] at hp'
        rcases List.mem_append.mp hp' with w | w
        · exact k2 i j' hi hj' (hall p w i j' hi hj' q)
        · simp at w
          subst w
          exact all2 i j' hi hj' q)
    (fun _ _ _ => rfl)
  rw [List.length_map, Nat.zero_add, List.take_length] at hall
  have comp : ∀ i j, i < z → Lk z ps i j → dg cur i = dg cur j := fun i j hi h => by
    induction h with
    | rfl' => rfl
    | @step a b p h h1 h2 h3 ih => exact ih.trans (hall p h1 a b (h.lt hi) h3 h2)
  refine ⟨cur, hJ.jn.len, fun i j hi hj => ⟨hJ.jn.snd i j hi hj, comp i j hi⟩, ?_⟩
  obtain ⟨G, hG⟩ := hJ.ext
  have clen := hJ.jn.len
  have rl := labels_run2 (pr := pr) (k := k + 3) (S := U') (f := "relabelled") J.relab hJ.at_ (by omega)
  rw [run_star hj (by decide) (by simp [d_joined]) (by simp [szOk]; omega)]
  have st0 : startI d_joined (pack (d_joined.np - 1000) (ps.map lV)) = [some (.tup (ps.map lV)), none, none, none, none, none, none, none] := by
    simp [startI, pack, d_joined]
  rw [st0]
  have body : evSs (gam pr (k + 4)) pr.sub d_joined.body [some (.tup (ps.map lV)), none, none, none, none, none, none, none] S = .ret (lV (canF cur [] []).2) U' := by
    refine st_expr (call_one (loc_ok rfl) cp) ?_
    have ln : evE (gam pr (k + 4)) (.rgs false (.blt .len [(.ix (.loc 0) (.k (.int 0)))])) [some (.tup (ps.map lV)), none, none, none, none, none, none, none] S = .ok (.ref S.length) (S ++ [.lst ((upto z).map .int)]) := by
      obtain ⟨p0, qs, rfl⟩ : ∃ p0 qs, ps = p0 :: qs := by cases ps with | nil => exact absurd rfl h0 | cons a b => exact ⟨a, b, rfl⟩
      have l1 : evE (gam pr (k + 4)) (.blt .len [(.ix (.loc 0) (.k (.int 0)))]) [some (.tup ((p0 :: qs).map lV)), none, none, none, none, none, none, none] S = .ok (.int (z : Nat)) S := by
        refine blt1 (ix_ok (loc_ok rfl) x_k (v := lV p0) (by rw [List.map_cons, at0])) (l_tup.trans ?_)
        rw [List.length_map, (hp p0 (by simp)).2]
      rw [x_rgs, l1, bind_ok, rgs_l (by omega)]
      simp [upto, rngI]
    refine st_set ln ?_
    refine st_for (it_tup (loc_ok rfl)) e ?_
    have c : evE (gam pr (k + 4)) (.call "relabelled" [(.loc 1)]) (JT (.tup (ps.map lV)) r q2 q3 q4 q5 q6) U' = .ok (lV (canF cur [] []).2) U' := call_one (loc_ok rfl) rl
    rw [s_cons, s_ret, c, thn_ok, seq_ret]
  rw [body, done_ret, hG, settle_append (show (lV (canF cur [] []).2).lt S.length = true from lt_ints _ _)]
end
end Wo
/-! WjY: regions. -/
namespace Wo
open PySem L2 Wg
/-! ### canonical labels keep the pattern -/
theorem idx_ltW {x : Int} {l : List Int} (h : x ∈ l) : idxI x l < l.length := List.findIdx_lt_length_of_exists ⟨x, h, by simp⟩
theorem idx_at {x : Int} {l : List Int} (h : x ∈ l) : l[idxI x l]'(idx_ltW h) = x := by
  have := List.findIdx_getElem (xs := l) (p := fun z => decide (z = x)) (w := idx_lt h)
  exact of_decide_eq_true this
theorem idx_app {x : Int} {l m : List Int} (h : x ∈ l) : idxI x (l ++ m) = idxI x l := by
  have := idx_ltW h
  unfold idxI at *
  rw [List.findIdx_append, if_pos this]
theorem canF_fin : ∀ (xs seen found : List Int), ∃ ext, (canF xs seen found).1 = seen ++ ext ∧ (∀ x ∈ xs, x ∈ (canF xs seen found).1) ∧ (canF xs seen found).2 = found ++ xs.map (fun x => ((idxI x (canF xs seen found).1 : Nat) : Int))
  | [], seen, found => ⟨[], by simp [canF], by simp, by simp [canF]⟩
  | x :: xs, seen, found => by
    obtain ⟨ext, e1, e2, e3⟩ := canF_fin xs (seenF seen x) (found ++ [((idxI x (seenF seen x) : Nat) : Int)])
    have hx : x ∈ seenF seen x := seen_mem seen x
    obtain ⟨e0, h0⟩ : ∃ e0, seenF seen x = seen ++ e0 := by
      unfold seenF
      split
      · exact ⟨[], by simp⟩
      · exact ⟨[x], rfl⟩
    refine ⟨e0 ++ ext, ?_, ?_, ?_⟩
    · show (canF xs (seenF seen x) _).1 = _
      rw [e1, h0]; simp
    · intro y hy
      show y ∈ (canF xs (seenF seen x) _).1
      rcases List.mem_cons.mp hy with q | q
      · rw [e1, q]; exact List.mem_append_left _ hx
      · exact e2 y q
    · show (canF xs (seenF seen x) _).2 = found ++ ((idxI x (canF xs (seenF seen x) _).1 : Nat) : Int) :: xs.map (fun y => ((idxI y (canF xs (seenF seen x) _).1 : Nat) : Int))
      rw [e3, show idxI x (canF xs (seenF seen x) (found ++ [((idxI x (seenF seen x) : Nat) : Int)])).1 = idxI x (seenF seen x) by rw [e1]; exact idx_app hx]
      simp
theorem can_keep {xs : List Int} {i j : Nat} (hi : i < xs.length) (hj : j < xs.length) : dg (canF xs [] []).2 i = dg (canF xs [] []).2 j ↔ dg xs i = dg xs j := by
  obtain ⟨ext, e1, e2, e3⟩ := canF_fin xs [] []
  rw [List.nil_append] at e3
  generalize (canF xs [] []).1 = fin at *
  have a : ∀ i, i < xs.length → dg (canF xs [] []).2 i = ((idxI (dg xs i) fin : Nat) : Int) ∧ dg xs i ∈ fin := fun i hi => by
    rw [e3]
    have : dg xs i = xs[i] := by simp [dg, hi]
    rw [this]
    exact ⟨by simp [dg, hi], e2 _ (List.getElem_mem hi)⟩
  obtain ⟨a1, a2⟩ := a i hi
  obtain ⟨b1, b2⟩ := a j hj
  rw [a1, b1]
  constructor
  · intro q
    have q : idxI (dg xs i) fin = idxI (dg xs j) fin := by omega
    have h1 := idx_at a2
    have h2 := idx_at b2
    rw [← h1]
    simp only [q]
    exact h2
  · intro q; rw [q]
theorem nodup_len : ∀ {xs ys : List Nat}, xs.Nodup → (∀ x ∈ xs, x ∈ ys) → xs.length ≤ ys.length
  | [], ys, _, _ => by simp
  | x :: xs, ys, h, hs => by
    have hx := hs x (by simp)
    rw [List.nodup_cons] at h
    have := nodup_len (xs := xs) (ys := ys.erase x) h.2 fun y hy => (List.mem_erase_of_ne (fun e : y = x => h.1 (e ▸ hy))).mpr (hs y (by simp [hy]))
    rw [List.length_erase_of_mem hx] at this
    have : 0 < ys.length := List.length_pos_of_mem hx
    simp only [List.length_cons]
    omega
/-! ### the labels of the present cases -/
def nAt (is : List Nat) (i : Nat) : Nat := is.getD i 0
def subL (is : List Nat) (l : List Int) : List Int := is.map fun y => dg l y
def qsOf (is : List Nat) (ls : List (List Int)) : List (List Int) := ls.map fun l => (canF (subL is l) [] []).2
theorem dg_sub {is : List Nat} {l : List Int} {i : Nat} (h : i < is.length) : dg (subL is l) i = dg l (nAt is i) := by simp [dg, subL, nAt, h]
theorem qs_link {is : List Nat} {l : List Int} {i j : Nat} (hi : i < is.length) (hj : j < is.length) : dg (canF (subL is l) [] []).2 i = dg (canF (subL is l) [] []).2 j ↔ dg l (nAt is i) = dg l (nAt is j) := by
  rw [can_keep (by simpa [subL] using hi) (by simpa [subL] using hj), dg_sub hi, dg_sub hj]
/-- what is found from a case -/
structure FS (is : List Nat) (ls : List (List Int)) (i0 : Nat) (fnd : List Nat) : Prop where
  nodup : fnd.Nodup
  snd : ∀ y ∈ fnd, ∃ j, j < is.length ∧ nAt is j = y ∧ Lk is.length (qsOf is ls) i0 j
def Cl (is : List Nat) (fnd : List Nat) (x : Nat) (l : List Int) : Prop := ∀ y ∈ is, dg l y = dg l x → y ∈ fnd
section
variable {is : List Nat} {ls : List (List Int)} {g : List Int} {i0 : Nat} {fnd : List Nat}
theorem nAt_mem {j : Nat} (h : j < is.length) : nAt is j ∈ is := by rw [show nAt is j = is[j] by simp [nAt, h]]; exact List.getElem_mem h
theorem mem_nAt {y : Nat} (h : y ∈ is) : ∃ j, j < is.length ∧ nAt is j = y := by
  obtain ⟨j, hj, e⟩ := List.getElem_of_mem h
  exact ⟨j, hj, by simp [nAt, hj, e]⟩
theorem FS.sub (h : FS is ls i0 fnd) : ∀ y ∈ fnd, y ∈ is := fun y hy => by
  obtain ⟨j, hj, rfl, _⟩ := h.snd y hy
  exact nAt_mem hj
theorem FS.len (h : FS is ls i0 fnd) : fnd.length ≤ is.length := nodup_len h.nodup h.sub
/-- new cases -/
def newF (is : List Nat) (fnd : List Nat) (l : List Int) (x : Nat) : List Nat := (mts l is x).filter fun y => !decide (y ∈ fnd)
theorem FS.ext (h : FS is ls i0 fnd) (hn : is.Nodup) {l : List Int} (hl : l ∈ ls) {x : Nat} (hx : x ∈ fnd) : FS is ls i0 (fnd ++ newF is fnd l x) := by
  refine ⟨?_, fun y hy => ?_⟩
  · refine List.nodup_append.mpr ⟨h.nodup, (hn.filter _).filter _, fun a ha b hb e => ?_⟩
    subst e
    have := (List.mem_filter.mp hb).2
    simp [ha] at this
  · rcases List.mem_append.mp hy with q | q
    · exact h.snd y q
    · have hy2 := List.mem_filter.mp (List.mem_filter.mp q).1
      obtain ⟨j, hj, rfl⟩ := mem_nAt hy2.1
      obtain ⟨jx, hjx, ex, lk⟩ := h.snd x hx
      refine ⟨j, hj, rfl, .step lk (List.mem_map.mpr ⟨l, hl, rfl⟩) ?_ hj⟩
      rw [qs_link hjx hj, ex]
      exact (of_decide_eq_true hy2.2).symm
theorem Cl.mono {x : Nat} {l : List Int} {fnd' : List Nat} (h : Cl is fnd x l) (hs : ∀ y ∈ fnd, y ∈ fnd') : Cl is fnd' x l := fun y hy e => hs y (h y hy e)
/-- a closed set holds the whole region -/
theorem FS.all (h : FS is ls i0 fnd) (h0 : nAt is i0 ∈ fnd) (hi : i0 < is.length) (hc : ∀ x ∈ fnd, ∀ l ∈ ls, Cl is fnd x l) {j : Nat} (hj : Lk is.length (qsOf is ls) i0 j) : nAt is j ∈ fnd := by
  induction hj with
  | rfl' => exact h0
  | @step a b p h1 h2 h3 h4 ih =>
    obtain ⟨l, hl, rfl⟩ := List.mem_map.mp h2
    rw [qs_link (h1.lt hi) h4] at h3
    exact hc _ ih l hl _ (nAt_mem h4) h3.symm
/-! ### the cases left -/
end
end Wo
/-! WjZ: regions, both sides. -/
namespace Wo
open PySem L2 Wg
end Wo
/-! WoA: canonical labels of rows of numbers; partitions refined. -/
namespace Wo
open PySem L2 Wg
/-! ### rows as numbers -/
def zz : Int → Nat
  | .ofNat n => 2 * n
  | .negSucc n => 2 * n + 1
theorem zz_inj : ∀ {a b : Int}, zz a = zz b → a = b
  | .ofNat a, .ofNat b, h => by simp only [zz] at h; have : a = b := by omega
                                rw [this]
  | .negSucc a, .negSucc b, h => by simp only [zz] at h; have : a = b := by omega
                                    rw [this]
  | .ofNat a, .negSucc b, h => by simp only [zz] at h; omega
  | .negSucc a, .ofNat b, h => by simp only [zz] at h; omega
theorem pw_inj : ∀ {a c b d : Nat}, 2 ^ a * (2 * b + 1) = 2 ^ c * (2 * d + 1) → a = c ∧ b = d
  | 0, 0, b, d, h => by simp at h; omega
  | 0, c + 1, b, d, h => by rw [Nat.pow_succ, Nat.mul_comm (2 ^ c) 2, Nat.mul_assoc, Nat.pow_zero, Nat.one_mul] at h; omega
  | a + 1, 0, b, d, h => by rw [Nat.pow_succ, Nat.mul_comm (2 ^ a) 2, Nat.mul_assoc, Nat.pow_zero, Nat.one_mul] at h; omega
  | a + 1, c + 1, b, d, h => by
    rw [Nat.pow_succ, Nat.pow_succ, Nat.mul_comm (2 ^ a) 2, Nat.mul_comm (2 ^ c) 2, Nat.mul_assoc, Nat.mul_assoc] at h
    obtain ⟨h1, h2⟩ := pw_inj (a := a) (c := c) (b := b) (d := d) (by omega)
    exact ⟨by omega, h2⟩
def code : List Int → Nat
  | [] => 0
  | x :: xs => 2 ^ zz x * (2 * code xs + 1)
theorem code_inj : ∀ {a b : List Int}, code a = code b → a = b
  | [], [], _ => rfl
  | [], x :: xs, h => by
    have : 0 < 2 ^ zz x * (2 * code xs + 1) := Nat.mul_pos (Nat.two_pow_pos _) (by omega)
    simp only [code] at h; omega
  | x :: xs, [], h => by
    have : 0 < 2 ^ zz x * (2 * code xs + 1) := Nat.mul_pos (Nat.two_pow_pos _) (by omega)
    simp only [code] at h; omega
  | x :: xs, y :: ys, h => by
    simp only [code] at h
    obtain ⟨h1, h2⟩ := pw_inj h
    rw [zz_inj h1, code_inj h2]
def cod (l : List Int) : Int := (code l : Int)
theorem cod_inj {a b : List Int} : cod a = cod b ↔ a = b := ⟨fun h => code_inj (by unfold cod at h; omega), fun h => by rw [h]⟩
theorem mem_cod {x : List Int} {l : List (List Int)} : cod x ∈ l.map cod ↔ x ∈ l := by
  rw [List.mem_map]
  exact ⟨fun ⟨y, h, e⟩ => by rw [← cod_inj.mp e]; exact h, fun h => ⟨x, h, rfl⟩⟩
def seenR (seen : List (List Int)) (x : List Int) : List (List Int) := if x ∈ seen then seen else seen ++ [x]
theorem seen_cod (seen : List (List Int)) (x : List Int) : (seenR seen x).map cod = seenF (seen.map cod) (cod x) := by
  unfold seenR seenF
  by_cases h : x ∈ seen
  · rw [if_pos h, if_pos (mem_cod.mpr h)]
  · rw [if_neg h, if_neg (fun z => h (mem_cod.mp z))]; simp
def idxR (x : List Int) (l : List (List Int)) : Nat := l.findIdx fun z => decide (z = x)
theorem idx_cod (x : List Int) (l : List (List Int)) : idxI (cod x) (l.map cod) = idxR x l := by
  unfold idxI idxR
  rw [List.findIdx_map]
  congr 1
  funext z
  simp [cod_inj]
theorem seenR_len (seen : List (List Int)) (x : List Int) : (seenR seen x).length ≤ seen.length + 1 := by unfold seenR; split <;> simp
theorem seenR_mem (seen : List (List Int)) (x : List Int) : x ∈ seenR seen x := by
  unfold seenR
  split
  · assumption
  · simp
/-! ### rows as data -/
section
variable {pr : Prg} {k : Nat} {S : Sto} {f : Str} {Γ : Gam}
def tD (l : List Int) : PyData := .tuple (l.map .int)
theorem go_ints (r : Nat → Option PyData) : ∀ l : List Int, goDs r (l.map .int) = some (l.map .int)
  | [] => rfl
  | x :: l => by simp only [List.map_cons, goDs, goD, go_ints r l]
theorem go_rows (r : Nat → Option PyData) : ∀ ls : List (List Int), goDs r (ls.map lV) = some (ls.map tD)
  | [] => rfl
  | l :: ls => by
    have e : goD r (lV l) = some (tD l) := by
      show goD r (.tup (l.map .int)) = _
      simp only [goD, go_ints]; rfl
    simp only [List.map_cons, goDs, e, go_rows r ls]
theorem dat_rows {n : Nat} {ls : List (List Int)} (h : S[n]? = some (.lst (ls.map lV))) : toD S (.ref n) = some (.list (ls.map tD)) := by
  show refD (goD (refs 5 S)) (goDs (refs 5 S)) S n = _
  simp only [refD, h, go_rows]
theorem lay_rows : ∀ ls : List (List Int), PyData.canLayAll0 (ls.map tD) = true
  | [] => rfl
  | l :: ls => by
    have e : PyData.canLay0 (tD l) = true := lay_ints l
    simp only [List.map_cons, PyData.canLayAll0, e, lay_rows ls, Bool.and_self]
theorem eqv_rows (a b : List Int) : PyData.eqv (tD a) (tD b) = decide (a = b) := by
  show PyData.eqv (.tuple (a.map .int)) (.tuple (b.map .int)) = _
  simp only [PyData.eqv, eqv_ints]
theorem flat_row (x : List Int) : flatI (lV x) = false := rfl
theorem notin_rows {n : Nat} {ls : List (List Int)} {x : List Int} (h : S[n]? = some (.lst (ls.map lV))) : cmpI .notin (lV x) (.ref n) S = .ok (.bl (!decide (x ∈ ls))) S := by
  have e : ∀ ls : List (List Int), ((ls.map tD).any fun z => PyData.eqv z (tD x)) = decide (x ∈ ls) := by
    intro ls
    induction ls with
    | nil => rfl
    | cons y ls ih =>
      rw [List.map_cons, List.any_cons, ih, eqv_rows]
      by_cases e : y = x
      · subst e; simp
      · have e2 : ¬ x = y := fun z => e z.symm
        simp [e, e2]
  have i : itemsI (.ref n) S = some (ls.map lV) := by simp only [itemsI, h]
  have dx : toD S (lV x) = some (tD x) := dat_ints x
  have sh : SeqAt.shaped (tD x) = true := shaped_ints x
  simp only [cmpI, inI, i, flat_row, Bool.false_and, Bool.false_eq_true, if_false, dat_rows h, dx, seqD, sh, lay_rows, Bool.and_self, if_true, e, boolN]
theorem idx_rows {n : Nat} {ls : List (List Int)} {x : List Int} (h : S[n]? = some (.lst (ls.map lV))) (hx : x ∈ ls) : mthI "index" (.ref n) [lV x] S = .ok (.int (idxR x ls : Nat)) S := by
  have e : (ls.map tD).findIdx? (fun z => PyData.eqv z (tD x)) = some (idxR x ls) := by
    rw [List.findIdx?_map]
    have q : ((fun z => PyData.eqv z (tD x)) ∘ tD) = fun z => decide (z = x) := by funext z; exact eqv_rows z x
    rw [q]
    exact List.findIdx?_eq_some_of_exists ⟨x, hx, by simp⟩
  have n1 : ¬ (Str.ofString "index" = Str.ofString "append") := by decide
  have dx : toD S (lV x) = some (tD x) := dat_ints x
  have sh : SeqAt.shaped (tD x) = true := shaped_ints x
  simp only [mthI, h, n1, if_false, if_true, flat_row, Bool.false_and, Bool.false_eq_true, dat_rows h, dx, seqD, sh, lay_rows, Bool.and_self, e]
/-! ### the loop -/
def seenL : List (List Int) → List (List Int) → List (List Int)
  | [], seen => seen
  | x :: xs, seen => seenL xs (seenR seen x)
theorem can_loopR {held : Option (Nat × Cell)} (hh : ∀ a b : Cell, holds held (S ++ [a, b]) = true) : ∀ (xs seen : List (List Int)) (found : List Int) (v0 : Option IV) (o3 : Option IV), seen.length + xs.length ≤ 1000 → found.length + xs.length ≤ 1000 → ∃ o3', forGo (evSs (gam pr k) pr.sub lb_l_canonical_1) (.nm 3) held (xs.map lV) [v0, some (.ref S.length), some (.ref (S.length + 1)), o3] (S ++ [.lst (seen.map lV), .lst (found.map .int)]) =
    .next [v0, some (.ref S.length), some (.ref (S.length + 1)), o3'] (S ++ [.lst ((seenL xs seen).map lV), .lst ((canF (xs.map cod) (seen.map cod) found).2.map .int)])
  | [], seen, found, v0, o3, _, _ => ⟨o3, by simp [forGo, hh, canF, seenL]⟩
  | x :: xs, seen, found, v0, o3, h1, h2 => by
    simp only [List.length_cons] at h1 h2
    have hl := seenR_len seen x
    obtain ⟨o3', e⟩ := can_loopR hh xs (seenR seen x) (found ++ [((idxR x (seenR seen x) : Nat) : Int)]) v0 (some (lV x)) (by omega) (by simp; omega)
    refine ⟨o3', ?_⟩
    have g0 : (S ++ [Cell.lst (seen.map lV), Cell.lst (found.map .int)])[S.length]? = some (.lst (seen.map lV)) := get_app0
    have g1 : (S ++ [Cell.lst ((seenR seen x).map lV), Cell.lst (found.map .int)])[S.length]? = some (.lst ((seenR seen x).map lV)) := get_app0
    have g2 : (S ++ [Cell.lst ((seenR seen x).map lV), Cell.lst (found.map .int)])[S.length + 1]? = some (.lst (found.map .int)) := get_app
    have tail : evE (gam pr k) (.mth "append" (.loc 2) [(.mth "index" (.loc 1) [(.loc 3)])]) [v0, some (.ref S.length), some (.ref (S.length + 1)), some (lV x)] (S ++ [.lst ((seenR seen x).map lV), .lst (found.map .int)]) =
        .ok .non (S ++ [.lst ((seenR seen x).map lV), .lst ((found ++ [((idxR x (seenR seen x) : Nat) : Int)]).map .int)]) := by
      have ix : evE (gam pr k) (.mth "index" (.loc 1) [(.loc 3)]) [v0, some (.ref S.length), some (.ref (S.length + 1)), some (lV x)] (S ++ [.lst ((seenR seen x).map lV), .lst (found.map .int)]) = .ok (.int ((idxR x (seenR seen x) : Nat) : Int)) (S ++ [.lst ((seenR seen x).map lV), .lst (found.map .int)]) := by
        rw [x_mth, loc_ok (v := .ref S.length) rfl, bind_ok, rcv_lst g1, if_pos rfl, xs_cons, loc_ok (v := lV x) rfl, bind_ok, xs_nil, bind_ok, bind_ok, idx_rows g1 (seenR_mem seen x)]
      rw [x_mth, loc_ok (v := .ref (S.length + 1)) rfl, bind_ok, rcv_lst g2, if_pos rfl, xs_cons, ix, bind_ok, xs_nil, bind_ok, bind_ok, app_lst g2 (by simp; omega), set_app1]
      simp
    have body : evSs (gam pr k) pr.sub lb_l_canonical_1 [v0, some (.ref S.length), some (.ref (S.length + 1)), some (lV x)] (S ++ [.lst (seen.map lV), .lst (found.map .int)]) =
        .next [v0, some (.ref S.length), some (.ref (S.length + 1)), some (lV x)] (S ++ [.lst ((seenR seen x).map lV), .lst ((found ++ [((idxR x (seenR seen x) : Nat) : Int)]).map .int)]) := by
      have c : evE (gam pr k) (.cmp .notin (.loc 3) (.loc 1)) [v0, some (.ref S.length), some (.ref (S.length + 1)), some (lV x)] (S ++ [.lst (seen.map lV), .lst (found.map .int)]) = .ok (.bl (!decide (x ∈ seen))) (S ++ [.lst (seen.map lV), .lst (found.map .int)]) := cmp_ok (loc_ok rfl) (loc_ok rfl) (notin_rows g0)
      by_cases hm : x ∈ seen
      · have hs : seenR seen x = seen := if_pos hm
        rw [decide_eq_true hm] at c
        rw [hs] at tail ⊢
        exact st_no c (st_expr tail s_nil)
      · have hs : seenR seen x = seen ++ [x] := if_neg hm
        rw [decide_eq_false hm] at c
        have ap : evE (gam pr k) (.mth "append" (.loc 1) [(.loc 3)]) [v0, some (.ref S.length), some (.ref (S.length + 1)), some (lV x)] (S ++ [.lst (seen.map lV), .lst (found.map .int)]) = .ok .non (S ++ [.lst ((seenR seen x).map lV), .lst (found.map .int)]) := by
          rw [x_mth, loc_ok (v := .ref S.length) rfl, bind_ok, rcv_lst g0, if_pos rfl, xs_cons, loc_ok (v := lV x) rfl, bind_ok, xs_nil, bind_ok, bind_ok, app_lst g0 (by simp; omega), set_app0, hs]
          simp
        exact st_yesN c (st_expr ap s_nil) (st_expr tail s_nil)
    simp only [List.map_cons, forGo, hh, if_true, sT_nm, List.set_cons_zero, List.set_cons_succ, body, canF, seenL]
    rw [seen_cod] at e
    rw [← seen_cod, idx_cod, seen_cod]
    exact e
theorem labels_runR (h : Has pr f d_l_labels) {r : Nat} {xs : List (List Int)} (g : S[r]? = some (.lst (xs.map lV))) (hl : xs.length ≤ 900) : run pr (k + 1) f [.ref r] S = .ok (lV (canF (xs.map cod) [] []).2) S := by
  rw [run_eq h rfl]
  obtain ⟨o3', e⟩ := can_loopR (pr := pr) (k := k) (S := S) (held := some (r, .lst (xs.map lV))) (fun a b => holds_app g) xs [] [] (some (.ref r)) none (by simp; omega) (by simp; omega)
  simp only [List.map_nil] at e
  have g1 : (S ++ [Cell.lst ((seenL xs []).map lV), Cell.lst ((canF (xs.map cod) [] []).2.map .int)])[S.length + 1]? = some (.lst ((canF (xs.map cod) [] []).2.map .int)) := get_app
  have g2 : (S ++ [Cell.lst [], Cell.lst []])[r]? = some (.lst (xs.map lV)) := get_appL g
  have body : evSs (gam pr k) pr.sub d_l_labels.body [some (.ref r), none, none, none] S = .ret (lV (canF (xs.map cod) [] []).2) (S ++ [Cell.lst ((seenL xs []).map lV), Cell.lst ((canF (xs.map cod) [] []).2.map .int)]) := by
    refine st_set (v := .ref S.length) (S1 := S ++ [.lst []]) (by rw [x_lst, xs_nil, bind_ok, mkLi_0]) ?_
    refine st_set (v := .ref (S.length + 1)) (S1 := S ++ [.lst [], .lst []]) (by rw [x_lst, xs_nil, bind_ok, mkLi_0]; simp) ?_
    refine st_for (it_lst (loc_ok rfl) g2) e ?_
    exact st_ret (blt1 (loc_ok rfl) (t_lst g1))
  show (evSs (gam pr k) pr.sub d_l_labels.body [some (.ref r), none, none, none] S).done S = _
  rw [body, done_ret, settle_append (show (lV (canF (xs.map cod) [] []).2).lt S.length = true from lt_ints _ _)]
/-! ### partitions refined -/
def d_refined : PD := ⟨1000, 2, [
    .expr (.call "check_partitions" [(.loc 0)]),
    .ret (.gc (.call "relabelled" [(.lc [1] (.nm 1) (.zips (.loc 0)) [] (.loc 1))]))]⟩
def cols (ps : List (List Int)) (z : Nat) : List (List Int) := (List.range z).map fun i => ps.map fun p => dg p i
theorem tups_all : ∀ ps : List (List Int), optAll tupsOf (ps.map lV) = some (ps.map fun p => p.map IV.int)
  | [] => rfl
  | p :: ps => by
    have e : tupsOf (lV p) = some (p.map IV.int) := rfl
    simp only [List.map_cons, optAll, e, tups_all ps]
theorem rows_cols {ps : List (List Int)} {z : Nat} (hp : ∀ p ∈ ps, p.length = z) : rowsI (ps.map fun p => p.map IV.int) z = (cols ps z).map lV := by
  unfold rowsI cols
  rw [List.map_map]
  refine List.map_congr_left fun i hi => ?_
  have hi : i < z := by simpa using hi
  show IV.tup _ = IV.tup _
  rw [List.map_map, List.map_map]
  congr 1
  refine List.map_congr_left fun p hm => ?_
  have hl : i < p.length := by rw [hp p hm]; exact hi
  show (p.map IV.int).getD i .non = .int (dg p i)
  simp [List.getD, dg, hl]
theorem it_zips {e : PX} {τ : Sl} {ps : List (List Int)} {z : Nat} (h : evE Γ e τ S = .ok (.tup (ps.map lV)) S) (h1 : 1 ≤ ps.length) (h6 : ps.length ≤ 6) (hp : ∀ p ∈ ps, p.length = z) : evI Γ (.zips e) τ S = .ok ⟨(cols ps z).map lV, none⟩ S := by
  have hd : (ps.map fun p => p.map IV.int).headD [] = ((ps.map fun p => p.map IV.int).headD []) := rfl
  have hz : ((ps.map fun p => p.map IV.int).headD []).length = z := by
    cases ps with
    | nil => simp at h1
    | cons p ps => simpa using hp p (by simp)
  have sl : sameL (ps.map fun p => p.map IV.int) = true := by
    unfold sameL
    rw [hz]
    simp only [List.length_map, Bool.and_eq_true, decide_eq_true_eq, List.all_eq_true, beq_iff_eq]
    refine ⟨⟨h1, h6⟩, fun xs hx => ?_⟩
    obtain ⟨p, hm, rfl⟩ := List.mem_map.mp hx
    simpa using hp p hm
  have zv : zipsV (.tup (ps.map lV)) = some ⟨(cols ps z).map lV, none⟩ := by
    simp only [zipsV, tups_all, sl, if_true, hz, rows_cols hp]
  rw [xi_zips, h, bind_ok]
  simp only [zipsR, zv]
theorem refined_run (J : JLib pr) (hj : Has pr f d_refined) {ps : List (List Int)} {z : Nat} (h0 : ps ≠ []) (h6 : ps.length ≤ 6) (hp : ∀ p ∈ ps, Lab p ∧ p.length = z) :
    run pr (k + 5) f (ps.map lV) S = .ok (lV (canF ((cols ps z).map cod) [] []).2) S := by
  have h1 : 1 ≤ ps.length := by cases ps with | nil => exact absurd rfl h0 | cons a b => simp
  have hz : z ≤ 12 := by
    obtain ⟨p0, qs, rfl⟩ : ∃ p0 qs, ps = p0 :: qs := by cases ps with | nil => exact absurd rfl h0 | cons a b => exact ⟨a, b, rfl⟩
    have := hp p0 (by simp)
    have := this.1.len
    omega
  have cp := check_parts (k := k) (S := S) J h0 hp
  have cl : (cols ps z).length = z := by simp [cols]
  rw [run_star hj (by decide) (by simp [d_refined]) (by simp [szOk]; omega)]
  have st0 : startI d_refined (pack (d_refined.np - 1000) (ps.map lV)) = [some (.tup (ps.map lV)), none] := by
    simp [startI, pack, d_refined]
  rw [st0]
  have lc : evE (gam pr (k + 4)) (.lc [1] (.nm 1) (.zips (.loc 0)) [] (.loc 1)) [some (.tup (ps.map lV)), none] S = .ok (.ref S.length) (S ++ [.lst ((cols ps z).map lV)]) := by
    have key : ((cols ps z).map lV).filterMap (fun x => some x) = (cols ps z).map lV := by
      have := fm_map (f := fun x : IV => x) ((cols ps z).map lV)
      simpa using this
    have z := lc_pure (Γ := gam pr (k + 4)) (own := [1]) (tg := .nm 1) (ifs := []) (elt := .loc 1) (τ := [some (.tup (ps.map lV)), none]) (S := S) (held := none) (fun x => some x) (it_zips (e := .loc 0) (loc_ok rfl) h1 h6 fun p hm => (hp p hm).2) rfl (by simp; omega) (fun x hx => rfl)
    rw [key] at z
    exact z
  have rl := labels_runR (pr := pr) (k := k + 3) (S := S ++ [.lst ((cols ps z).map lV)]) (f := "relabelled") J.relab (r := S.length) app_at (by omega)
  have body : evSs (gam pr (k + 4)) pr.sub d_refined.body [some (.tup (ps.map lV)), none] S = .ret (lV (canF ((cols ps z).map cod) [] []).2) S := by
    refine st_expr (call_one (loc_ok rfl) cp) ?_
    refine st_ret ?_
    rw [x_gc, x_call, xs_cons, lc, bind_ok, xs_nil, bind_ok, bind_ok]
    have e2 : (gam pr (k + 4)).call "relabelled" [.ref S.length] (S ++ [.lst ((cols ps z).map lV)]) = .ok (lV (canF ((cols ps z).map cod) [] []).2) (S ++ [.lst ((cols ps z).map lV)]) := rl
    rw [e2]
    simp only [Rs.settle]
    rw [settle_append (show (lV (canF ((cols ps z).map cod) [] []).2).lt _ = true from lt_ints _ _)]
  rw [body, done_ret, settle_self]
end
end Wo
/-! WoB: partitions refused. -/
namespace Wo
open PySem L2 Wg
section
variable {pr : Prg} {k : Nat} {S : Sto} {f : Str} {Γ : Gam} {τ : Sl} {sub : Str → Str → Bool} {ss : List Sm}
/-! ### raises -/
theorem call_exc {A : PX} {x : IV} {g c : Str} {S1 : Sto} (e1 : evE (gam pr k) A τ S = .ok x S) (h : run pr k g [x] S = .exc c S1) : evE (gam pr k) (.call g [A]) τ S = .exc c S1 := by
  simp only [x_call, xs_cons, xs_nil, e1, bind_ok, h]
theorem ex_expr {e : PX} {c : Str} {S1 : Sto} (h : evE Γ e τ S = .exc c S1) : evSs Γ sub (.expr e :: ss) τ S = .exc c τ S1 := by
  rw [s_cons, s_expr, h, thn_exc, seq_exc]
theorem ex_for {tg : Tg} {it : PIt} {B : List Sm} {items : List IV} {held : Option (Nat × Cell)} {τ' : Sl} {c : Str} {S1 S2 : Sto} (h : evI Γ it τ S = .ok ⟨items, held⟩ S1) (hf : forGo (evSs Γ sub B) tg held items τ S1 = .exc c τ' S2) : evSs Γ sub (.for tg it B :: ss) τ S = .exc c τ' S2 := by
  rw [s_cons, s_for, h, thn_ok, hf, seq_exc]
theorem ex_yes {c : PX} {d : Str} (h : evE Γ c τ S = .ok (.bl true) S) : evSs Γ sub (.cond c [.raise d] [] :: ss) τ S = .exc d τ S := by
  refine st_yes h ?_
  rw [s_cons, s_raise, seq_exc, seq_exc]
theorem run_exc {d : PD} {c : Str} {vs : List IV} (h : Has pr f d) (hl : vs.length = d.np) (hn : d.np < 1000) {τ' : Sl} (e : evSs (gam pr k) pr.sub d.body (vs.map some ++ List.replicate (d.ns - vs.length) none) S = .exc c τ' S) : run pr (k + 1) f vs S = .exc c S := by
  rw [run_eq h hl hn, e, done_exc, settle_self]
/-! ### what is due -/
inductive Due : List IV → IV → Prop
  | bad {xs : List IV} (h : xs.all validLab = false) : Due xs (.str "labels")
  | mis {ps : List (List Int)} (h1 : ∀ p ∈ ps, Lab p) (h2 : ps = [] ∨ ∃ p ∈ ps, p.length ≠ (ps.headD []).length) : Due (ps.map lV) (.str "mismatch")
  | ok {ps : List (List Int)} {z : Nat} (h0 : ps ≠ []) (h1 : ∀ p ∈ ps, Lab p ∧ p.length = z) : Due (ps.map lV) (.int (z : Nat))
theorem labs_of : ∀ {xs : List IV}, xs.all validLab = true → ∃ ps : List (List Int), xs = ps.map lV ∧ ∀ p ∈ ps, Lab p
  | [], _ => ⟨[], rfl, by simp⟩
  | x :: xs, h => by
    simp only [List.all_cons, Bool.and_eq_true] at h
    obtain ⟨p, rfl, hp⟩ := lab_of h.1
    obtain ⟨ps, rfl, hps⟩ := labs_of h.2
    exact ⟨p :: ps, rfl, fun q hq => by
      rcases List.mem_cons.mp hq with rfl | hq
      · exact hp
      · exact hps q hq⟩
theorem due_ex (xs : List IV) : ∃ v, Due xs v := by
  cases h : xs.all validLab with
  | false => exact ⟨_, .bad h⟩
  | true =>
    obtain ⟨ps, rfl, hp⟩ := labs_of h
    by_cases h2 : ps = [] ∨ ∃ p ∈ ps, p.length ≠ (ps.headD []).length
    · exact ⟨_, .mis hp h2⟩
    · refine ⟨_, .ok (z := (ps.headD []).length) (fun e => h2 (.inl e)) fun p hm => ⟨hp p hm, ?_⟩⟩
      by_cases e : p.length = (ps.headD []).length
      · exact e
      · exact absurd (.inr ⟨p, hm, e⟩) h2
theorem valid_labs {ps : List (List Int)} (h : ∀ p ∈ ps, Lab p) : (ps.map lV).all validLab = true := by
  rw [List.all_eq_true]
  intro x hx
  obtain ⟨p, hp, rfl⟩ := List.mem_map.mp hx
  exact (h p hp).valid
def dued (z : Nat) : Bool := shownOk (.list [.int (z : Nat), .int (z : Nat)])
theorem dued_ok : (List.range 13).all dued = true := by kernel_rfl
theorem due_show {xs : List IV} {v : IV} (h : Due xs v) : okV v = true ∧ v.lt 0 = true ∧ shownOk (.list [dV v, dV v]) = true := by
  cases h with
  | bad h => exact ⟨by kernel_rfl, rfl, by kernel_rfl⟩
  | mis h1 h2 => exact ⟨by kernel_rfl, rfl, by kernel_rfl⟩
  | @ok ps z h0 h1 =>
    have hz : z < 13 := by
      cases ps with
      | nil => exact absurd rfl h0
      | cons p ps =>
        have := h1 p (by simp)
        have := this.1.len
        omega
    refine ⟨?_, rfl, List.all_eq_true.mp dued_ok z (by simpa using hz)⟩
    have : ∀ z ∈ List.range 13, okV (.int (z : Nat)) = true := List.all_eq_true.mp (by kernel_rfl : (List.range 13).all (fun z => okV (.int (z : Nat))) = true)
    exact this z (by simpa using hz)
/-! ### the check -/
theorem lab_check (J : JLib pr) {xs : List IV} (hd : ∀ x ∈ xs, ∃ d, toD S x = some d) :
    ∃ o', forGo (evSs (gam pr (k + 3)) pr.sub lb_check_partitions_1) (.nm 1) none xs [some (.tup xs), none] S = if xs.all validLab = true then .next [some (.tup xs), o'] S else .exc "InvalidLabelsError" [some (.tup xs), o'] S := by
  refine check_loop (Γ := gam pr (k + 3)) (sub := pr.sub) (body := lb_check_partitions_1) (tg := .nm 1) (c := "InvalidLabelsError") validLab (fun o => [some (.tup xs), o]) (fun _ _ => rfl) xs none fun v hv => ?_
  obtain ⟨d, hdv⟩ := hd v hv
  have c := check_lab (pr := pr) (k := k) (S := S) (f := "check_labels") J.check J.labels J.integer J.most (v := v) hdv
  cases e : validLab v with
  | true =>
    rw [e, if_pos rfl] at c
    rw [if_pos rfl]
    exact st_expr (call_one (loc_ok rfl) c) s_nil
  | false =>
    rw [e, if_neg (by decide)] at c
    rw [if_neg (by decide)]
    exact ex_expr (call_exc (loc_ok rfl) c)
theorem cp_bad (J : JLib pr) {xs : List IV} (hd : ∀ x ∈ xs, ∃ d, toD S x = some d) (hb : xs.all validLab = false) : run pr (k + 4) "check_partitions" [.tup xs] S = .exc "InvalidLabelsError" S := by
  obtain ⟨o', e⟩ := lab_check (k := k) J hd
  rw [hb, if_neg (by decide)] at e
  exact run_exc J.parts rfl (by decide) (ex_for (it_tup (loc_ok rfl)) e)
def lenIs (z : Nat) : IV → Bool
  | .tup xs => decide (xs.length = z)
  | _ => false
theorem cp_mis (J : JLib pr) {ps : List (List Int)} (hp : ∀ p ∈ ps, Lab p) (h2 : ps = [] ∨ ∃ p ∈ ps, p.length ≠ (ps.headD []).length) : run pr (k + 4) "check_partitions" [.tup (ps.map lV)] S = .exc "MismatchError" S := by
  have hd : ∀ x ∈ ps.map lV, ∃ d, toD S x = some d := fun x hx => by
    obtain ⟨p, _, rfl⟩ := List.mem_map.mp hx
    exact ⟨_, dat_ints p⟩
  obtain ⟨o', e⟩ := lab_check (k := k) J hd
  rw [valid_labs hp, if_pos rfl] at e
  have l0 : evE (gam pr (k + 3)) (.blt .len [(.loc 0)]) [some (.tup (ps.map lV)), o'] S = .ok (.int (ps.length : Nat)) S := (blt1 (loc_ok rfl) l_tup).trans (by simp)
  cases ps with
  | nil => exact run_exc J.parts rfl (by decide) (st_for (it_tup (loc_ok rfl)) e (ex_yes ((eq_int l0).trans (by simp))))
  | cons p0 qs =>
    have h3 : ∃ p ∈ p0 :: qs, p.length ≠ p0.length := by
      rcases h2 with h2 | h2
      · cases h2
      · simpa using h2
    obtain ⟨o2, e2⟩ := check_loop (Γ := gam pr (k + 3)) (S := S) (sub := pr.sub) (body := lb_check_partitions_2) (tg := .nm 1) (c := "MismatchError") (lenIs p0.length) (fun o => [some (.tup ((p0 :: qs).map lV)), o]) (fun _ _ => rfl) ((p0 :: qs).map lV) o' (fun v hv => by
      obtain ⟨p, hm, rfl⟩ := List.mem_map.mp hv
      have c1 : evE (gam pr (k + 3)) (.blt .len [(.loc 1)]) [some (.tup ((p0 :: qs).map lV)), some (lV p)] S = .ok (.int (p.length : Nat)) S := (blt1 (loc_ok rfl) l_tup).trans (by simp)
      have c2 : evE (gam pr (k + 3)) (.blt .len [(.ix (.loc 0) (.k (.int 0)))]) [some (.tup ((p0 :: qs).map lV)), some (lV p)] S = .ok (.int (p0.length : Nat)) S := by
        refine blt1 (ix_ok (loc_ok rfl) x_k (v := lV p0) (by rw [List.map_cons, at0])) (l_tup.trans (by simp))
      have c3 : evE (gam pr (k + 3)) (.cmp .ne (.blt .len [(.loc 1)]) (.blt .len [(.ix (.loc 0) (.k (.int 0)))])) [some (.tup ((p0 :: qs).map lV)), some (lV p)] S = .ok (.bl (!decide ((p.length : Int) = (p0.length : Nat)))) S := cmp_ok c1 c2 c_ne
      by_cases q : p.length = p0.length
      · have t : lenIs p0.length (lV p) = true := by simp [lenIs, lV, q]
        rw [t, if_pos rfl]
        exact st_no (c3.trans (by simp [q])) s_nil
      · have t : lenIs p0.length (lV p) = false := by simp [lenIs, lV, q]
        rw [t, if_neg (by decide)]
        exact ex_yes (c3.trans (by simp; omega)))
    have al : ((p0 :: qs).map lV).all (lenIs p0.length) = false := by
      cases q : ((p0 :: qs).map lV).all (lenIs p0.length) with
      | false => rfl
      | true =>
        obtain ⟨p, hm, hne⟩ := h3
        have := List.all_eq_true.mp q (lV p) (List.mem_map.mpr ⟨p, hm, rfl⟩)
        simp [lenIs, lV] at this
        exact absurd this hne
    rw [al, if_neg (by decide)] at e2
    refine run_exc J.parts rfl (by decide) (st_for (it_tup (loc_ok rfl)) e (st_no ((eq_int l0).trans (by simp; omega)) (ex_for (it_tup (loc_ok rfl)) e2)))
/-- refined and joined: what they raise, what they give -/
def PartOf (pr : Prg) (g : Str) (k : Nat) (xs : List IV) (v : IV) (S : Sto) : Prop :=
  (v = .str "labels" ∧ run pr k g xs S = .exc "InvalidLabelsError" S) ∨ (v = .str "mismatch" ∧ run pr k g xs S = .exc "MismatchError" S) ∨ ∃ l : List Int, v = .int (l.length : Nat) ∧ run pr k g xs S = .ok (lV l) S
theorem part_exc {d : PD} {c : Str} {xs : List IV} (hj : Has pr f d) (hn : d.np = 1000) (hl : xs.length ≤ 100) (hb : ∃ ss, d.body = .expr (.call "check_partitions" [(.loc 0)]) :: ss) (hs : 1 ≤ d.ns) (cp : run pr (k + 4) "check_partitions" [.tup xs] S = .exc c S) : run pr (k + 5) f xs S = .exc c S := by
  rw [run_star hj (by omega) (by omega) (by simp [szOk]; omega)]
  have st0 : startI d (pack (d.np - 1000) xs) = some (.tup xs) :: List.replicate (d.ns - 1) none := by
    rw [hn]
    simp [startI, pack]
  obtain ⟨ss, e⟩ := hb
  rw [st0, e, ex_expr (call_exc (loc_ok rfl) cp), done_exc, settle_self]
theorem part_due {d : PD} {xs : List IV} {v : IV} (J : JLib pr) (hj : Has pr f d) (hn : d.np = 1000) (hl : xs.length ≤ 100) (hb : ∃ ss, d.body = .expr (.call "check_partitions" [(.loc 0)]) :: ss) (hs : 1 ≤ d.ns) (hd : ∀ x ∈ xs, ∃ d, toD S x = some d) (D : Due xs v)
    (hok : ∀ (ps : List (List Int)) (z : Nat), xs = ps.map lV → ps ≠ [] → (∀ p ∈ ps, Lab p ∧ p.length = z) → ∃ l : List Int, l.length = z ∧ run pr (k + 5) f xs S = .ok (lV l) S) : PartOf pr f (k + 5) xs v S := by
  cases D with
  | bad h => exact .inl ⟨rfl, part_exc hj hn hl hb hs (cp_bad J hd h)⟩
  | mis h1 h2 => exact .inr (.inl ⟨rfl, part_exc hj hn hl hb hs (cp_mis J h1 h2)⟩)
  | @ok ps z h0 h1 =>
    obtain ⟨l, e1, e2⟩ := hok ps z rfl h0 h1
    exact .inr (.inr ⟨l, by rw [e1], e2⟩)
/-! ### the law's side -/
def lb_lawp (g : Str) : List Sm := [
      .cond (.cmp .eq (.blt .len [(.loc 0)]) (.k (.int 0))) [
        .ret (.blt .len [(.call g [])])] [],
      .cond (.cmp .eq (.blt .len [(.loc 0)]) (.k (.int 1))) [
        .ret (.blt .len [(.call g [(.ix (.loc 0) (.k (.int 0)))])])] [],
      .cond (.cmp .eq (.blt .len [(.loc 0)]) (.k (.int 2))) [
        .ret (.blt .len [(.call g [(.ix (.loc 0) (.k (.int 0))), (.ix (.loc 0) (.k (.int 1)))])])] [],
      .ret (.blt .len [(.call g [(.ix (.loc 0) (.k (.int 0))), (.ix (.loc 0) (.k (.int 1))), (.ix (.loc 0) (.k (.int 2)))])])]
def d_lawp (g : Str) : PD := ⟨1, 1, [
    .tryx (lb_lawp g) [("InvalidLabelsError", [
      .ret (.k (.str "labels"))]), ("MismatchError", [
      .ret (.k (.str "mismatch"))])]]⟩
theorem lawp_body {g : Str} {r : Nat} {xs : List IV} {R : Rs IV} (hg : S[r]? = some (.lst xs)) (hl : xs.length ≤ 3) (e : ∀ A : PX, evE (gam pr k) A [some (.ref r)] S = run pr k g xs S → evE (gam pr k) (.blt .len [A]) [some (.ref r)] S = R) :
    evSs (gam pr k) sub (lb_lawp g) [some (.ref r)] S = R.thn [some (.ref r)] fun v S1 => .ret v S1 := by
  have ix : ∀ (j : Nat) (x : IV), xs[j]? = some x → evE (gam pr k) (.ix (.loc 0) (.k (.int (j : Nat)))) [some (.ref r)] S = .ok x S := fun j x hx => by
    rw [x_ix, loc_ok (v := .ref r) rfl, bind_ok, x_k, bind_ok, i_lst hg, atI_nat hx, getO_some]
  have ln : ∀ c : Int, evE (gam pr k) (.cmp .eq (.blt .len [(.loc 0)]) (.k (.int c))) [some (.ref r)] S = .ok (.bl (decide ((xs.length : Int) = c))) S := fun c => (eq_int (blt1 (loc_ok rfl) (l_lst hg))).trans (by simp)
  have fin : ∀ {A : PX} {ss : List Sm}, evE (gam pr k) (.blt .len [A]) [some (.ref r)] S = R → evSs (gam pr k) sub (.ret (.blt .len [A]) :: ss) [some (.ref r)] S = R.thn [some (.ref r)] fun v S1 => .ret v S1 := fun h => by
    rw [s_cons, s_ret, h]
    cases R <;> rfl
  have sq : ∀ {F : Sl → Sto → Rz}, (R.thn [some (.ref r)] fun v S1 => .ret v S1).seq F = R.thn [some (.ref r)] fun v S1 => .ret v S1 := by
    intro F
    cases R <;> rfl
  have i0 : ∀ x : IV, xs[0]? = some x → evE (gam pr k) (.ix (.loc 0) (.k (.int 0))) [some (.ref r)] S = .ok x S := fun x hx => ix 0 x hx
  have i1 : ∀ x : IV, xs[1]? = some x → evE (gam pr k) (.ix (.loc 0) (.k (.int 1))) [some (.ref r)] S = .ok x S := fun x hx => ix 1 x hx
  have i2 : ∀ x : IV, xs[2]? = some x → evE (gam pr k) (.ix (.loc 0) (.k (.int 2))) [some (.ref r)] S = .ok x S := fun x hx => ix 2 x hx
  clear ix
  unfold lb_lawp
  match xs, hl, i0, i1, i2, ln, e with
  | [], _, i0, i1, i2, ln, e =>
    exact st_yes (ln 0) (by rw [fin (e _ (by rw [x_call, xs_nil, bind_ok])), sq])
  | [a], _, i0, i1, i2, ln, e =>
    refine st_no (ln 0) (st_yes (ln 1) (by rw [fin (e _ (by rw [x_call, xs_cons, i0 a rfl, bind_ok, xs_nil, bind_ok, bind_ok])), sq]))
  | [a, b], _, i0, i1, i2, ln, e =>
    refine st_no (ln 0) (st_no (ln 1) (st_yes (ln 2) (by rw [fin (e _ (by rw [x_call, xs_cons, i0 a rfl, bind_ok, xs_cons, i1 b rfl, bind_ok, xs_nil, bind_ok, bind_ok, bind_ok])), sq])))
  | [a, b, c], _, i0, i1, i2, ln, e =>
    refine st_no (ln 0) (st_no (ln 1) (st_no (ln 2) (fin (e _ (by rw [x_call, xs_cons, i0 a rfl, bind_ok, xs_cons, i1 b rfl, bind_ok, xs_cons, i2 c rfl, bind_ok, xs_nil, bind_ok, bind_ok, bind_ok, bind_ok])))))
  | _ :: _ :: _ :: _ :: _, hl, _, _, _, _, _ => simp at hl
theorem lawp_run {g : Str} {r : Nat} {xs : List IV} {v : IV} (h : Has pr f (d_lawp g)) (hg : S[r]? = some (.lst xs)) (hl : xs.length ≤ 3) (s1 : pr.sub "InvalidLabelsError" "InvalidLabelsError" = true) (s2 : pr.sub "MismatchError" "InvalidLabelsError" = false) (s3 : pr.sub "MismatchError" "MismatchError" = true)
    (P : PartOf pr g k xs v S) : run pr (k + 1) f [.ref r] S = .ok v S := by
  rw [run_eq h rfl (show 1 < 1000 by decide)]
  have fin : ∀ R : Rs IV, (∀ A : PX, evE (gam pr k) A [some (.ref r)] S = run pr k g xs S → evE (gam pr k) (.blt .len [A]) [some (.ref r)] S = R) → evSs (gam pr k) pr.sub (d_lawp g).body [some (.ref r)] S = (catR (gam pr k) pr.sub [("InvalidLabelsError", [.ret (.k (.str "labels"))]), ("MismatchError", [.ret (.k (.str "mismatch"))])] (R.thn [some (.ref r)] fun v S1 => .ret v S1)).seq (evSs (gam pr k) pr.sub []) := fun R hR => by
    show evSs _ _ (.tryx (lb_lawp g) _ :: []) _ _ = _
    rw [s_cons, s_try, lawp_body hg hl hR]
    rfl
  show (evSs (gam pr k) pr.sub (d_lawp g).body [some (.ref r)] S).done S = _
  rcases P with ⟨rfl, e⟩ | ⟨rfl, e⟩ | ⟨l, rfl, e⟩
  · rw [fin (.exc "InvalidLabelsError" S) (fun A hA => by rw [x_blt, xs_cons, hA, e, bind_exc, bind_exc, st_exc]), thn_exc, cat_hit s1, s_cons, s_ret, x_k, thn_ok, seq_ret, q_ret, seq_ret, done_ret, settle_self]
  · rw [fin (.exc "MismatchError" S) (fun A hA => by rw [x_blt, xs_cons, hA, e, bind_exc, bind_exc, st_exc]), thn_exc, cat_miss s2, cat_hit s3, s_cons, s_ret, x_k, thn_ok, seq_ret, q_ret, seq_ret, done_ret, settle_self]
  · rw [fin (.ok (.int (l.length : Nat)) S) (fun A hA => (blt1 (hA.trans e) l_tup).trans (by simp)), thn_ok, cat_ret, seq_ret, done_ret, settle_self]
end
end Wo
/-! WoC: what is due, by the law; a law's frame with a tail. -/
namespace Wo
open PySem L2 Wg
section
variable {pr : Prg} {k : Nat} {S : Sto} {f : Str} {Γ : Gam} {τ : Sl} {sub : Str → Str → Bool} {ss : List Sm}
theorem dep_rows : ∀ ps : List (List Int), PyData.depthAll (ps.map tD) ≤ 2
  | [] => by simp [PyData.depthAll]
  | p :: ps => by
    have h1 := dep_ints p
    have h2 := dep_rows ps
    have e : (tD p).depth = PyData.depthAll (p.map .int) + 1 := by simp only [tD, PyData.depth]
    simp only [List.map_cons, PyData.depthAll, e]
    omega
theorem shaped_rows (ps : List (List Int)) : SeqAt.shaped (.list (ps.map tD)) = true := by
  have h := dep_rows ps
  have q : (PyData.list (ps.map tD)).depth ≤ 64 := by
    simp only [PyData.depth]; omega
  simp only [SeqAt.shaped, PyData.canLay0, lay_rows, Bool.true_and, decide_eq_true_eq]
  exact q
theorem nil_rows {a b : Nat} {ps : List (List Int)} (ha : S[a]? = some (.lst (ps.map lV))) (hb : S[b]? = some (.lst [])) : eqI (.ref a) (.ref b) S = some (decide (ps = [])) := by
  have e : PyData.eqv (.list (ps.map tD)) (.list (([] : List (List Int)).map tD)) = decide (ps = []) := by
    cases ps <;> simp [PyData.eqv, PyData.eqvAll]
  have db := dat_rows (S := S) (n := b) (ls := []) hb
  simp only [eqI, eqS, dat_rows ha, db, shaped_rows, Bool.and_self, if_true, e]
theorem ne_nil {A : PX} {a : Nat} {ps : List (List Int)} (h : evE Γ A τ S = .ok (.ref a) S) (ha : S[a]? = some (.lst (ps.map lV))) : evE Γ (.cmp .ne A (.lst [])) τ S = .ok (.bl (!decide (ps = []))) (S ++ [.lst []]) := by
  have ha' : (S ++ [Cell.lst []])[a]? = some (.lst (ps.map lV)) := get_appL ha
  have hb : (S ++ [Cell.lst []])[S.length]? = some (.lst []) := app_at
  rw [x_cmp, h, bind_ok, x_lst, xs_nil, bind_ok, mkLi_0, bind_ok]
  simp only [cmpI, nil_rows ha' hb, neT, boolN]
theorem eq_nil {A : PX} {a : Nat} {ps : List (List Int)} (h : evE Γ A τ S = .ok (.ref a) S) (ha : S[a]? = some (.lst (ps.map lV))) : evE Γ (.cmp .eq A (.lst [])) τ S = .ok (.bl (decide (ps = []))) (S ++ [.lst []]) := by
  have ha' : (S ++ [Cell.lst []])[a]? = some (.lst (ps.map lV)) := get_appL ha
  have hb : (S ++ [Cell.lst []])[S.length]? = some (.lst []) := app_at
  rw [x_cmp, h, bind_ok, x_lst, xs_nil, bind_ok, mkLi_0, bind_ok, c_eq0, nil_rows ha' hb, eqT_some]
  rfl
def labsX : PX := .blt .all [(.lc [1] (.nm 1) (.val (.loc 0)) [] (.call "_law_is_labels" [(.loc 1)]))]
def otherX : PX := .lc [1] (.nm 1) (.val (.loc 0)) [(.cmp .ne (.blt .len [(.loc 1)]) (.blt .len [(.ix (.loc 0) (.k (.int 0)))]))] (.loc 1)
def d_l_due : PD := ⟨1, 2, [
    .cond (.not labsX) [
      .ret (.k (.str "labels"))] [],
    .cond (.or (.cmp .eq (.loc 0) (.lst [])) (.gc (.cmp .ne otherX (.lst [])))) [
      .ret (.k (.str "mismatch"))] [],
    .ret (.blt .len [(.ix (.loc 0) (.k (.int 0)))])]⟩
theorem labs_run (hl : Has pr "_law_is_labels" d_l_is_labels) (hi : Has pr "_law_is_integer" d_is_integer) (hc : Has pr "_law_canonical" d_l_canonical) {q : Nat} {xs : List IV} {o1 : Option IV} (g : S[q]? = some (.lst xs)) (hd : ∀ x ∈ xs, ∃ d, toD S x = some d) (hn : xs.length ≤ 100) :
    evE (gam pr (k + 2)) labsX [some (.ref q), o1] S = .ok (.bl (xs.all validLab)) S := by
  have key : xs.filterMap (fun x => some (IV.bl (validLab x))) = xs.map fun x => .bl (validLab x) := fm_map (f := fun x => IV.bl (validLab x)) xs
  have lc := lc_pure (Γ := gam pr (k + 2)) (own := [1]) (tg := .nm 1) (ifs := []) (elt := .call "_law_is_labels" [(.loc 1)]) (τ := [some (.ref q), o1]) (S := S) (held := some (q, .lst xs)) (it := .val (.loc 0)) (items := xs) (fun x => some (IV.bl (validLab x))) (it_lst (loc_ok rfl) g) (holds_lst g) (by omega) (fun x hx => by
    obtain ⟨d, hdx⟩ := hd x hx
    have e : lcOne (gam pr (k + 2)) [1] (.nm 1) [] (.call "_law_is_labels" [(.loc 1)]) [some (.ref q), o1] x S = (evE (gam pr (k + 2)) (.call "_law_is_labels" [(.loc 1)]) [some (.ref q), some x] S).bind fun z S4 => .ok (some z) S4 := rfl
    rw [e, call_one (loc_ok rfl) (l_labels_ok (pr := pr) (k := k) (S := S) (f := "_law_is_labels") hl hi hc hdx), bind_ok])
  rw [key] at lc
  exact blt_lc lc (all_bls app_at) rfl
theorem other_run {q : Nat} {p0 : List Int} {qs : List (List Int)} {o1 : Option IV} (g : S[q]? = some (.lst ((p0 :: qs).map lV))) (hn : (p0 :: qs).length ≤ 100) :
    evE Γ otherX [some (.ref q), o1] S = .ok (.ref S.length) (S ++ [.lst (((p0 :: qs).filter fun p => !decide (p.length = p0.length)).map lV)]) := by
  have key : ((p0 :: qs).map lV).filterMap (fun x => if !lenIs p0.length x then some x else none) = ((p0 :: qs).filter fun p => !decide (p.length = p0.length)).map lV := by
    rw [List.filterMap_map, ← fm_filter]
    refine congrFun (congrArg _ ?_) _
    funext p
    simp [lenIs, lV]
  rw [← key]
  refine lc_pure (held := some (q, .lst ((p0 :: qs).map lV))) _ (it_lst (loc_ok rfl) g) (holds_lst g) (by simp at hn ⊢; omega) fun x hx => ?_
  obtain ⟨p, hm, rfl⟩ := List.mem_map.mp hx
  have c1 : evE Γ (.blt .len [(.loc 1)]) [some (.ref q), some (lV p)] S = .ok (.int (p.length : Nat)) S := (blt1 (loc_ok rfl) l_tup).trans (by simp)
  have ix : evE Γ (.ix (.loc 0) (.k (.int 0))) [some (.ref q), some (lV p)] S = .ok (lV p0) S := by
    rw [x_ix, loc_ok (v := .ref q) rfl, bind_ok, x_k, bind_ok, i_lst g, List.map_cons, at0, getO_some]
  have c2 : evE Γ (.blt .len [(.ix (.loc 0) (.k (.int 0)))]) [some (.ref q), some (lV p)] S = .ok (.int (p0.length : Nat)) S := (blt1 ix l_tup).trans (by simp)
  have c3 : evE Γ (.cmp .ne (.blt .len [(.loc 1)]) (.blt .len [(.ix (.loc 0) (.k (.int 0)))])) [some (.ref q), some (lV p)] S = .ok (.bl (!decide ((p.length : Int) = (p0.length : Nat)))) S := cmp_ok c1 c2 c_ne
  have e : lcOne Γ [1] (.nm 1) [(.cmp .ne (.blt .len [(.loc 1)]) (.blt .len [(.ix (.loc 0) (.k (.int 0)))]))] (.loc 1) [some (.ref q), o1] (lV p) S = (evTs Γ [(.cmp .ne (.blt .len [(.loc 1)]) (.blt .len [(.ix (.loc 0) (.k (.int 0)))]))] [some (.ref q), some (lV p)] S).bind fun k S3 => if k then (evE Γ (.loc 1) [some (.ref q), some (lV p)] S3).bind fun y S4 => .ok (some y) S4 else .ok none S3 := rfl
  rw [e, ts_cons, c3, bind_ok, tsR_bl, ts_nil]
  by_cases q' : p.length = p0.length
  · have t : lenIs p0.length (lV p) = true := by simp [lenIs, lV, q']
    simp [t, q', Rs.bind]
  · have t : lenIs p0.length (lV p) = false := by simp [lenIs, lV, q']
    have t2 : ¬ (p.length : Int) = (p0.length : Nat) := by omega
    simp only [t2, decide_false, Bool.not_false, if_true, bind_ok, t]
    rw [loc_ok (v := lV p) rfl, bind_ok]
theorem due_run (h : Has pr f d_l_due) (hl : Has pr "_law_is_labels" d_l_is_labels) (hi : Has pr "_law_is_integer" d_is_integer) (hc : Has pr "_law_canonical" d_l_canonical) {q : Nat} {xs : List IV} {v : IV} (g : S[q]? = some (.lst xs)) (hd : ∀ x ∈ xs, ∃ d, toD S x = some d) (hn : xs.length ≤ 100) (D : Due xs v) : run pr (k + 3) f [.ref q] S = .ok v S := by
  rw [run_eq h rfl]
  have lr := labs_run (k := k) (o1 := none) hl hi hc g hd hn
  show (evSs (gam pr (k + 2)) pr.sub d_l_due.body [some (.ref q), none] S).done S = _
  cases D with
  | bad hb =>
    rw [hb] at lr
    have body : evSs (gam pr (k + 2)) pr.sub d_l_due.body [some (.ref q), none] S = .ret (.str "labels") S := st_yes (not_ok lr) (by rw [s_cons, s_ret, x_k, thn_ok, seq_ret, seq_ret])
    rw [body, done_ret, settle_self]
  | @mis ps h1 h2 =>
    rw [valid_labs h1] at lr
    have ev : ∃ G, evE (gam pr (k + 2)) (.or (.cmp .eq (.loc 0) (.lst [])) (.gc (.cmp .ne otherX (.lst [])))) [some (.ref q), none] S = .ok (.bl true) (S ++ G) := by
      have e1 := eq_nil (Γ := gam pr (k + 2)) (τ := [some (.ref q), none]) (S := S) (A := .loc 0) (loc_ok rfl) g
      cases ps with
      | nil =>
        exact ⟨[.lst []], or_yes (e1.trans (by simp))⟩
      | cons p0 qs =>
        have h3 : ∃ p ∈ p0 :: qs, p.length ≠ p0.length := by
          rcases h2 with h2 | h2
          · cases h2
          · simpa using h2
        have e1 : evE (gam pr (k + 2)) (.cmp .eq (.loc 0) (.lst [])) [some (.ref q), none] S = .ok (.bl false) (S ++ [.lst []]) := e1.trans (by simp)
        have g' : (S ++ [Cell.lst []])[q]? = some (.lst ((p0 :: qs).map lV)) := get_appL g
        have e2 := other_run (Γ := gam pr (k + 2)) (o1 := none) g' (by simpa using hn)
        generalize hF : ((p0 :: qs).filter fun p => !decide (p.length = p0.length)) = F at e2
        have hF0 : F ≠ [] := fun e => by
          obtain ⟨p, hm, hne⟩ := h3
          have : p ∈ F := by rw [← hF]; exact List.mem_filter.mpr ⟨hm, by simp [hne]⟩
          rw [e] at this
          simp at this
        have gF : (S ++ [Cell.lst []] ++ [.lst (F.map lV)])[(S ++ [Cell.lst []]).length]? = some (.lst (F.map lV)) := app_at
        have gF' : (S ++ [Cell.lst []] ++ [.lst (F.map lV)] ++ [.lst []])[(S ++ [Cell.lst []]).length]? = some (.lst (F.map lV)) := get_appL gF
        have gN : (S ++ [Cell.lst []] ++ [.lst (F.map lV)] ++ [.lst []])[(S ++ [Cell.lst []] ++ [Cell.lst (F.map lV)]).length]? = some (.lst []) := app_at
        have e3 : evE (gam pr (k + 2)) (.gc (.cmp .ne otherX (.lst []))) [some (.ref q), none] (S ++ [.lst []]) = .ok (.bl true) (S ++ [.lst []]) := by
          rw [x_gc, x_cmp, e2, bind_ok, x_lst, xs_nil, bind_ok, mkLi_0, bind_ok]
          have c : cmpI .ne (.ref (S ++ [Cell.lst []]).length) (.ref (S ++ [Cell.lst []] ++ [Cell.lst (F.map lV)]).length) (S ++ [Cell.lst []] ++ [.lst (F.map lV)] ++ [.lst []]) = .ok (.bl true) (S ++ [Cell.lst []] ++ [.lst (F.map lV)] ++ [.lst []]) := by
            simp only [cmpI, nil_rows gF' gN, neT, boolN, hF0, decide_false, Bool.not_false]
          rw [c, List.append_assoc (S ++ [Cell.lst []]), st_bl]
        exact ⟨_, (or_no e1).trans e3⟩
    obtain ⟨G, ev⟩ := ev
    have body : evSs (gam pr (k + 2)) pr.sub d_l_due.body [some (.ref q), none] S = .ret (.str "mismatch") (S ++ G) := st_no (not_ok lr) (st_yes ev (by rw [s_cons, s_ret, x_k, thn_ok, seq_ret, seq_ret]))
    rw [body, done_ret, settle_append rfl]
  | @ok ps z h0 h1 =>
    rw [valid_labs fun p hp => (h1 p hp).1] at lr
    obtain ⟨p0, qs, rfl⟩ : ∃ p0 qs, ps = p0 :: qs := by cases ps with | nil => exact absurd rfl h0 | cons a b => exact ⟨a, b, rfl⟩
    have ev : evE (gam pr (k + 2)) (.or (.cmp .eq (.loc 0) (.lst [])) (.gc (.cmp .ne otherX (.lst [])))) [some (.ref q), none] S = .ok (.bl false) (S ++ [.lst []]) := by
      have e1 : evE (gam pr (k + 2)) (.cmp .eq (.loc 0) (.lst [])) [some (.ref q), none] S = .ok (.bl false) (S ++ [.lst []]) := (eq_nil (Γ := gam pr (k + 2)) (τ := [some (.ref q), none]) (S := S) (A := .loc 0) (loc_ok rfl) g).trans (by simp)
      have g' : (S ++ [Cell.lst []])[q]? = some (.lst ((p0 :: qs).map lV)) := get_appL g
      have e2 := other_run (Γ := gam pr (k + 2)) (o1 := none) g' (by simpa using hn)
      have hF : ((p0 :: qs).filter fun p => !decide (p.length = p0.length)) = [] := List.filter_eq_nil_iff.mpr fun p hp => by
        rw [(h1 p hp).2, (h1 p0 (by simp)).2]; simp
      rw [hF] at e2
      have gF' : (S ++ [Cell.lst []] ++ [.lst (([] : List (List Int)).map lV)] ++ [.lst []])[(S ++ [Cell.lst []]).length]? = some (.lst (([] : List (List Int)).map lV)) := get_appL app_at
      have gN : (S ++ [Cell.lst []] ++ [.lst (([] : List (List Int)).map lV)] ++ [.lst []])[(S ++ [Cell.lst []] ++ [Cell.lst (([] : List (List Int)).map lV)]).length]? = some (.lst []) := app_at
      have e3 : evE (gam pr (k + 2)) (.gc (.cmp .ne otherX (.lst []))) [some (.ref q), none] (S ++ [.lst []]) = .ok (.bl false) (S ++ [.lst []]) := by
        rw [x_gc, x_cmp, e2, bind_ok, x_lst, xs_nil, bind_ok, mkLi_0, bind_ok]
        have c : cmpI .ne (.ref (S ++ [Cell.lst []]).length) (.ref (S ++ [Cell.lst []] ++ [Cell.lst (([] : List (List Int)).map lV)]).length) (S ++ [Cell.lst []] ++ [.lst (([] : List (List Int)).map lV)] ++ [.lst []]) = .ok (.bl false) (S ++ [Cell.lst []] ++ [.lst (([] : List (List Int)).map lV)] ++ [.lst []]) := by
          simp only [cmpI, nil_rows gF' gN, neT, boolN, decide_true, Bool.not_true]
        rw [c, List.append_assoc (S ++ [Cell.lst []]), st_bl]
      exact (or_no e1).trans e3
    have g' : (S ++ [Cell.lst []])[q]? = some (.lst ((p0 :: qs).map lV)) := get_appL g
    have ix : evE (gam pr (k + 2)) (.ix (.loc 0) (.k (.int 0))) [some (.ref q), none] (S ++ [.lst []]) = .ok (lV p0) (S ++ [.lst []]) := by
      rw [x_ix, loc_ok (v := .ref q) rfl, bind_ok, x_k, bind_ok, i_lst g', List.map_cons, at0, getO_some]
    have ln : evE (gam pr (k + 2)) (.blt .len [(.ix (.loc 0) (.k (.int 0)))]) [some (.ref q), none] (S ++ [.lst []]) = .ok (.int (z : Nat)) (S ++ [.lst []]) := (blt1 ix l_tup).trans (by rw [List.length_map, (h1 p0 (by simp)).2])
    have body : evSs (gam pr (k + 2)) pr.sub d_l_due.body [some (.ref q), none] S = .ret (.int (z : Nat)) (S ++ [.lst []]) := st_no (not_ok lr) (st_no ev (st_ret ln))
    rw [body, done_ret, settle_append rfl]
/-! ### a frame with a tail -/
def lawHeadR (N : Nat) (it : PIt) (inner tail : List Sm) : PD := ⟨1, N, [.for (.nm 1) (.rng [.blt .max [.k (.int 1), .blt .min [.blt .len [.loc 0], .k (.int 3)]]]) (.set (.nm 2) (.call "_law_source" [.call "_law_cell" [.loc 0, .loc 1]]) :: .for (.nm 3) it inner :: tail), .ret (.k (.bl true))]⟩
theorem frameR (hc : Has pr "_law_cell" d_l_cell) (hs : Has pr "_law_source" d_l_source) {N : Nat} {it : PIt} {inner tail : List Sm} {xs : List IV} (K : Nat) (hl : Has pr f (lawHeadR N it inner tail)) (hN : 4 ≤ N)
    (hit : ∀ (τ : Sl) (S : Sto), evI (gam pr (k + 1)) it τ S = .ok ⟨xs, none⟩ S) {ns : List Int}
    (step : ∀ (n t j : Nat) (x : IV) (τ : Sl) (S : Sto), xs[j]? = some x → τ.length = N → τ[0]? = some (some (.ref 0)) → τ[2]? = some (some (.ref n)) → n ≠ 0 → Sup n t S → t ≤ j * K → S[0]? = some (.frz (ns.map .int)) →
      ∃ τ' S', evSs (gam pr (k + 1)) pr.sub inner (τ.set 3 (some x)) S = .next τ' S' ∧ τ'.length = N ∧ τ'[0]? = some (some (.ref 0)) ∧ τ'[2]? = some (some (.ref n)) ∧ Sup n (t + K) S' ∧ Ext n S S')
    (last : ∀ (n t : Nat) (τ : Sl) (S : Sto), τ.length = N → τ[0]? = some (some (.ref 0)) → τ[2]? = some (some (.ref n)) → n ≠ 0 → Sup n t S → t ≤ xs.length * K → S[0]? = some (.frz (ns.map .int)) →
      ∃ τ' S', evSs (gam pr (k + 1)) pr.sub tail τ S = .next τ' S' ∧ τ'.length = N ∧ τ'[0]? = some (some (.ref 0)) ∧ Ext n S S') :
    ∃ S', run pr (k + 2) f [.ref 0] [.frz (ns.map .int)] = .ok (.bl true) S' := by
  rw [run_eq hl rfl (show 1 < 1000 by decide)]
  have hS : ([Cell.frz (ns.map .int)] : Sto)[0]? = some (.frz (ns.map .int)) := rfl
  obtain ⟨M, hM, hM2⟩ : ∃ M : Nat, max (1 : Int) (min (ns.length : Int) 3) = (M : Int) ∧ M ≤ 3 := ⟨(max (1 : Int) (min (ns.length : Int) 3)).toNat, by omega, by omega⟩
  have outer := forGo_items (body := evSs (gam pr (k + 1)) pr.sub (.set (.nm 2) (.call "_law_source" [.call "_law_cell" [.loc 0, .loc 1]]) :: .for (.nm 3) it inner :: tail)) 1
    (fun _ τ S => τ.length = N ∧ τ[0]? = some (some (.ref 0)) ∧ S[0]? = some (.frz (ns.map .int))) (rngI M) 0 (some (.ref 0) :: List.replicate (N - 1) none) [.frz (ns.map .int)]
    ⟨by simp; omega, rfl, hS⟩ ?_
  · obtain ⟨τ', S', e, _⟩ := outer
    have l0 : evE (gam pr (k + 1)) (.blt .len [.loc 0]) (some (.ref 0) :: List.replicate (N - 1) none) [.frz (ns.map .int)] = .ok (.int (ns.length : Nat)) [.frz (ns.map .int)] := (blt1 (loc_ok rfl) (l_frz hS)).trans (by simp)
    have l1 : evE (gam pr (k + 1)) (.blt .min [.blt .len [.loc 0], .k (.int 3)]) (some (.ref 0) :: List.replicate (N - 1) none) [.frz (ns.map .int)] = .ok (.int (min (ns.length : Int) 3)) [.frz (ns.map .int)] := by
      rw [x_blt, xs_cons, l0, bind_ok, xs_cons, x_k, bind_ok, xs_nil, bind_ok, bind_ok, bind_ok, f_min, st_self]
    have l2 : evE (gam pr (k + 1)) (.blt .max [.k (.int 1), .blt .min [.blt .len [.loc 0], .k (.int 3)]]) (some (.ref 0) :: List.replicate (N - 1) none) [.frz (ns.map .int)] = .ok (.int (M : Nat)) [.frz (ns.map .int)] := by
      rw [x_blt, xs_cons, x_k, bind_ok, xs_cons, l1, bind_ok, xs_nil, bind_ok, bind_ok, bind_ok, f_max, st_self, hM]
    have l3 : evEs (gam pr (k + 1)) [.blt .max [.k (.int 1), .blt .min [.blt .len [.loc 0], .k (.int 3)]]] (some (.ref 0) :: List.replicate (N - 1) none) [.frz (ns.map .int)] = .ok [.int (M : Nat)] [.frz (ns.map .int)] := by rw [xs_cons, l2, bind_ok, xs_nil, bind_ok]
    exact done_true (st_for (it_rng (K := M) l3 (by omega)) e (st_ret x_k))
  · rintro j x τ S hj ⟨h1, h2, h3⟩
    obtain ⟨i, rfl⟩ : ∃ i : Nat, x = .int (i : Nat) := by
      simp only [rngI, List.getElem?_map, Option.map_eq_some_iff] at hj
      obtain ⟨a, _, e⟩ := hj
      exact ⟨a, e.symm⟩
    obtain ⟨c, e1, su, _⟩ := l_source_run (k := k) (S := S) hs (cellAt ns i)
    have g0 : (τ.set 1 (some (.int (i : Nat))))[0]? = some (some (.ref 0)) := by rw [get_set_ne (by decide)]; exact h2
    have g1 : (τ.set 1 (some (.int (i : Nat))))[1]? = some (some (.int (i : Nat))) := get_set_eq (by omega)
    have h0 : 0 < S.length := get_lt h3
    have sc : evE (gam pr (k + 1)) (.call "_law_source" [.call "_law_cell" [.loc 0, .loc 1]]) (τ.set 1 (some (.int (i : Nat)))) S = .ok (.ref S.length) (S ++ [c]) := call_one (call_two (loc_ok g0) (loc_ok g1) (l_cell_run hc h3 i)) e1
    obtain ⟨τ', S', e, q1, q2, q3, q4⟩ := forGo_items (body := evSs (gam pr (k + 1)) pr.sub inner) 3
      (fun j τ S' => τ.length = N ∧ τ[0]? = some (some (.ref 0)) ∧ τ[2]? = some (some (.ref S.length)) ∧ Sup S.length (j * K) S' ∧ S'[0]? = some (.frz (ns.map .int))) xs 0 ((τ.set 1 (some (.int (i : Nat)))).set 2 (some (.ref S.length))) (S ++ [c])
      ⟨by simpa using h1, by rw [get_set_ne (by decide)]; exact g0, get_set_eq (by simp; omega), by simpa using su, by rw [List.getElem?_append_left h0]; exact h3⟩ (by
        rintro j x τ S' hj ⟨p1, p2, p3, p4, p5⟩
        rw [Nat.zero_add] at p4 ⊢
        obtain ⟨τ', S'', e, r1, r2, r3, r4, r5⟩ := step S.length (j * K) j x τ S' hj p1 p2 p3 (by omega) p4 (Nat.le_refl _) p5
        exact ⟨τ', S'', e, r1, r2, r3, by rw [Nat.add_mul, Nat.one_mul]; exact r4, r5.get p5 (by omega)⟩)
    rw [Nat.zero_add] at q4
    obtain ⟨τ2, S2, e2, w1, w2, w3⟩ := last S.length (xs.length * K) τ' S' q1 q2 q3 (by omega) q4.1 (Nat.le_refl _) q4.2
    exact ⟨τ2, S2, st_set sc (st_for (hit _ _) e e2), w1, w2, w3.get q4.2 (by omega)⟩
end
end Wo
namespace Lw
open PySem L2 Wg Wo
section
variable {k : Nat} {S S0 U : Sto} {n t : Nat} {v : IV} {q z : Nat} {τ : Sl}
theorem J : JLib pr := ⟨lk_check_labels, lk_is_valid_labels, lk_is_integer, by kernel_rfl, lk_check_partitions, lk_relabelled⟩
theorem B : BentLib pr := ⟨lk_l_is_integer, lk_l_draw, lk_l_choose, lk_l_odd, lk_l_bent⟩
/-! ### both functions -/
theorem refined_due {r : Nat} {xs : List IV} (g : S[r]? = some (.lst xs)) (hl : xs.length ≤ 3) (hd : ∀ x ∈ xs, ∃ d, toD S x = some d) (D : Due xs v) : run pr 19 "_law_refined" [.ref r] S = .ok v S := by
  refine lawp_run (k := 18) (g := "refined") lk_l_refined g hl (by kernel_rfl) (by kernel_rfl) (by kernel_rfl) (part_due (k := 13) J lk_refined rfl (by omega) ⟨_, rfl⟩ (by decide) hd D fun ps z e h0 h1 => ?_)
  subst e
  have c1 : ((cols ps z).map cod).length = z := by simp [cols]
  have z1 : 1 ≤ z ∧ z ≤ 12 := by
    obtain ⟨p0, qs, rfl⟩ : ∃ p0 qs, ps = p0 :: qs := by cases ps with | nil => exact absurd rfl h0 | cons a b => exact ⟨a, b, rfl⟩
    have w := h1 p0 (by simp)
    have w1 := w.1.len
    have w2 : p0.length ≠ 0 := fun e => w.1.ne (List.length_eq_zero_iff.mp e)
    omega
  obtain ⟨_, gn⟩ := can_lab (xs := (cols ps z).map cod) (by intro e; rw [e] at c1; simp at c1; omega) (by omega)
  exact ⟨_, gn.trans c1, refined_run J lk_refined h0 (by simp at hl; omega) h1⟩
theorem joined_due {r : Nat} {xs : List IV} (g : S[r]? = some (.lst xs)) (hl : xs.length ≤ 3) (hd : ∀ x ∈ xs, ∃ d, toD S x = some d) (D : Due xs v) : run pr 19 "_law_joined" [.ref r] S = .ok v S := by
  refine lawp_run (k := 18) (g := "joined") lk_l_joined g hl (by kernel_rfl) (by kernel_rfl) (by kernel_rfl) (part_due (k := 13) J lk_joined rfl (by omega) ⟨_, rfl⟩ (by decide) hd D fun ps z e h0 h1 => ?_)
  subst e
  have z1 : 1 ≤ z ∧ z ≤ 12 := by
    obtain ⟨p0, qs, rfl⟩ : ∃ p0 qs, ps = p0 :: qs := by cases ps with | nil => exact absurd rfl h0 | cons a b => exact ⟨a, b, rfl⟩
    have w := h1 p0 (by simp)
    have w1 := w.1.len
    have w2 : p0.length ≠ 0 := fun e => w.1.ne (List.length_eq_zero_iff.mp e)
    omega
  obtain ⟨cur, c1, _, jr⟩ := joined_run (pr := pr) (k := 13) (S := S) (f := "joined") J lk_joined lk_grouped h0 h1 (by simp at hl; omega)
  obtain ⟨_, gn⟩ := can_lab (xs := cur) (by intro e; rw [e] at c1; simp at c1; omega) (by omega)
  exact ⟨_, gn.trans c1, jr⟩
theorem due_at {r : Nat} {xs : List IV} (g : S[r]? = some (.lst xs)) (hl : xs.length ≤ 3) (hd : ∀ x ∈ xs, ∃ d, toD S x = some d) (D : Due xs v) : run pr 19 "_law_due" [.ref r] S = .ok v S :=
  due_run (k := 16) lk_l_due lk_l_is_labels lk_l_is_integer lk_l_canonical g hd (by omega) D
/-! ### the comparison -/
theorem two_data {r : Nat} (g : S[r]? = some (.lst [v, v])) (hv : okV v = true) : toD S (.ref r) = some (.list [dV v, dV v]) := by
  have e : ∀ R : Nat → Option PyData, goDs R [v, v] = some [dV v, dV v] := fun R => by
    have : goD R v = some (dV v) := goD_flat _ _ (flatV_ok v hv)
    simp only [goDs, this]
  show refD (goD (refs 5 S)) (goDs (refs 5 S)) S r = _
  simp only [refD, g, e]
theorem two_lst {A C : PX} {x y : IV} {Γ : Gam} (h1 : evE Γ A τ S = .ok x S) (h2 : evE Γ C τ S = .ok y S) : evE Γ (.lst [A, C]) τ S = .ok (.ref S.length) (S ++ [.lst [x, y]]) := by
  rw [x_lst, xs_cons, h1, bind_ok, xs_cons, h2, bind_ok, xs_nil, bind_ok, bind_ok, bind_ok, mkLi_2]
theorem same_two {r1 r2 : Nat} (hv : okV v = true) (hs : shownOk (.list [dV v, dV v]) = true) (g1 : S[r1]? = some (.lst [v, v])) (g2 : S[r2]? = some (.lst [v, v])) : run pr 19 "_law_is_equal" [.ref r1, .ref r2] S = .ok (.bl true) S :=
  equal_run (k := 18) lk_l_is_equal (two_data g1 hv) (two_data g2 hv) hs
def pairX : PX := .lst [(.call "_law_refined" [(.loc 5)]), (.call "_law_joined" [(.loc 5)])]
theorem pair_run {xs : List IV} (h5 : τ[5]? = some (some (.ref q))) (g : S[q]? = some (.lst xs)) (hl : xs.length ≤ 3) (hd : ∀ x ∈ xs, ∃ d, toD S x = some d) (D : Due xs v) : evE (gam pr 19) pairX τ S = .ok (.ref S.length) (S ++ [.lst [v, v]]) :=
  two_lst (call_one (loc_ok h5) (refined_due g hl hd D)) (call_one (loc_ok h5) (joined_due g hl hd D))
theorem keep_app {G : Sto} {xs : List IV} (hd : ∀ x ∈ xs, ∃ d, toD S x = some d) : ∀ x ∈ xs, ∃ d, toD (S ++ G) x = some d := fun x hx => by
  obtain ⟨d, e⟩ := hd x hx
  exact ⟨d, toD_mono (fun i c hc _ => get_appL hc) e⟩
/-! ### a value that may be none -/
def pickX (A : PX) : PX := .call "_law_choose" [(.loc 2), (.lst [(.call "_law_bent" [(.loc 2), A, (.k (.int 1))]), (.call "_law_odd" [(.loc 2)])])]
theorem keep_q {S' S'' : Sto} {d : PyData} {c : Cell} (h : Gv S S' v d) (x : Ext n S' S'') (hn : n < S.length) (hq : q < S.length) : toD (S''.set q c) v = some d := by
  refine toD_mono (fun i e hc hi => ?_) h.hid
  by_cases hl : S.length ≤ i
  · rw [msk_get hl] at hc
    rw [List.getElem?_set_ne (by omega), x.old i (get_lt hc) (by omega)]
    exact hc
  · exact absurd hc (msk_low (by omega) hi)
theorem pick_run {A : PX} {l : List Int} (h2 : τ[2]? = some (some (.ref n))) (hA : evE (gam pr 19) A τ S = .ok (lV l) S) (hL : Lab l) (hs : Sup n t S) (ht : t + 300 ≤ 1000000000) :
    ∃ u S', evE (gam pr 19) (pickX A) τ S = .ok u S' ∧ Lft n (t + 10) S S' ∧ (∃ d, toD S' u = some d) ∧ ∀ (q : Nat) (c : Cell), q < S.length → ∃ d, toD (S'.set q c) u = some d := by
  have nl := hs.lt
  have hl := hL.len
  obtain ⟨b1, b2, b3⟩ := tup_ok (l := l) (fun x hx => by
    have := hL.bd x hx
    exact Nat.lt_of_le_of_lt (show x.natAbs ≤ 12 by omega) (by decide)) (by omega)
  obtain ⟨u1, S1, e1, x1, s1, d1, g1, gd1⟩ := bent_run (pr := pr) (n := n) B 1 14 (lV l) 40000 2 S t b1 b2 b3 (by decide) (by decide) hs (by omega)
  have n1 := s1.lt
  obtain ⟨w, S2, e2, x2, s2, ow, hw⟩ := odd_run2 (pr := pr) (k := 16) (S := S1) (f := "_law_odd") lk_l_odd lk_l_choose lk_l_draw s1 (by omega)
  obtain ⟨d2, g2, gd2⟩ := ow.gv hw
  obtain ⟨u, S3, e3, hu, s3, x3⟩ := choose_new (pr := pr) (k := 17) (S := S2) (f := "_law_choose") lk_l_choose lk_l_draw [u1, w] s2 (by omega) (by simp) (by simp)
  have len1 := x1.len
  have a1 : evE (gam pr 19) (.call "_law_bent" [(.loc 2), A, (.k (.int 1))]) τ S = .ok u1 S1 := call_three (loc_ok h2) hA x_k e1
  have a2 : evE (gam pr 19) (.call "_law_odd" [(.loc 2)]) τ S1 = .ok w S2 := call_one (loc_ok h2) e2
  refine ⟨u, S3, ?_, ⟨x1.trans (x2.trans x3), s3.mono (by omega)⟩, ?_, fun q c hq => ?_⟩
  · rw [pickX, x_call, xs_cons, loc_ok h2, bind_ok, xs_cons, x_lst, xs_cons, a1, bind_ok, xs_cons, a2, bind_ok, xs_nil, bind_ok, bind_ok, bind_ok, mkLi_2, bind_ok, xs_nil, bind_ok, bind_ok, bind_ok]
    exact e3
  · simp only [List.mem_cons, List.not_mem_nil, or_false] at hu
    rcases hu with rfl | rfl
    · exact ⟨d1, g1.later (x2.trans x3) nl⟩
    · exact ⟨d2, g2.later x3 n1⟩
  · simp only [List.mem_cons, List.not_mem_nil, or_false] at hu
    rcases hu with rfl | rfl
    · exact ⟨d1, keep_q g1 (x2.trans x3) nl hq⟩
    · exact ⟨d2, keep_q g2 x3 n1 (by omega)⟩
/-! ### the partitions of a lap -/
def TC (o1 : Option IV) (n : Nat) (j : IV) (z q : Nat) (o6 o7 o8 : Option IV) : Sl := [some (.ref 0), o1, some (.ref n), some j, some (.int (z : Nat)), some (.ref q), o6, o7, o8]
def rowsX : PX := .lc [6] (.nm 6) (.rng [(.bin .mod (.loc 3) (.k (.int 4)))]) [] (.call "_law_labels" [(.loc 2), (.loc 4), (.loc 4)])
theorem fmod_nat (j : Nat) (a : Nat) : (j : Int).fmod a = ((j % a : Nat) : Int) := by rw [Int.fmod_eq_emod_of_nonneg _ (by omega)]; simp
theorem labs_all : ∀ {ys : List IV}, (∀ y ∈ ys, ∃ l, y = lV l ∧ Lab l) → ∃ ps : List (List Int), ys = ps.map lV ∧ ∀ p ∈ ps, Lab p
  | [], _ => ⟨[], rfl, by simp⟩
  | y :: ys, h => by
    obtain ⟨l, rfl, hl⟩ := h y (by simp)
    obtain ⟨ps, rfl, hp⟩ := labs_all fun x hx => h x (List.mem_cons_of_mem _ hx)
    exact ⟨l :: ps, rfl, fun p hm => by
      rcases List.mem_cons.mp hm with rfl | hm
      · exact hl
      · exact hp p hm⟩
theorem rows_run {o1 o5 o6 o7 o8 : Option IV} {j : Nat} (hs : Sup n t S) (ht : t + 300 ≤ 1000000000) (z1 : 1 ≤ z) (hz : z ≤ 12) :
    ∃ (ps : List (List Int)) (S2 : Sto), evE (gam pr 19) rowsX [some (.ref 0), o1, some (.ref n), some (.int (j : Nat)), some (.int (z : Nat)), o5, o6, o7, o8] S = .ok (.ref S2.length) (S2 ++ [.lst (ps.map lV)]) ∧ ps.length ≤ 3 ∧ (∀ p ∈ ps, Lab p) ∧ Lft n (t + 48) S S2 := by
  have m4 : (j : Int).fmod 4 = ((j % 4 : Nat) : Int) := fmod_nat j 4
  have hm : evE (gam pr 19) (.bin .mod (.loc 3) (.k (.int 4))) [some (.ref 0), o1, some (.ref n), some (.int (j : Nat)), some (.int (z : Nat)), o5, o6, o7, o8] S = .ok (.int ((j % 4 : Nat) : Nat)) S := bin_ok (loc_ok rfl) x_k ((b_mod (by decide)).trans (by rw [m4]))
  have it : evI (gam pr 19) (.rng [(.bin .mod (.loc 3) (.k (.int 4)))]) [some (.ref 0), o1, some (.ref n), some (.int (j : Nat)), some (.int (z : Nat)), o5, o6, o7, o8] S = .ok ⟨rngI (j % 4), none⟩ S := it_rng (K := j % 4) (by rw [xs_cons, hm, bind_ok, xs_nil, bind_ok]) (by omega)
  have rl : (rngI (j % 4)).length = j % 4 := by simp [rngI]
  obtain ⟨ys, S2, e, l, P, L⟩ := lcGo_inv (one := lcOne (gam pr 19) [6] (.nm 6) [] (.call "_law_labels" [(.loc 2), (.loc 4), (.loc 4)]) [some (.ref 0), o1, some (.ref n), some (.int (j : Nat)), some (.int (z : Nat)), o5, o6, o7, o8])
    (fun i T => Lft n (t + 12 * i) S T) (fun y => ∃ l, y = lV l ∧ Lab l) 4 (rngI (j % 4)) 0 [] S (Lft.rfl' hs) (by rw [rl]; omega) (by rw [rl]; simp; omega) fun x hx i T hi hI => by
      obtain ⟨l, T', e, hl, _, x', s'⟩ := l_labels_run (pr := pr) (k := 17) (S := T) (f := "_law_labels") lk_l_labels lk_l_draw (N := z) (M := z) z1 (by omega) (by omega) (by omega) hI.sup (by omega)
      have c : evE (gam pr 19) (.call "_law_labels" [(.loc 2), (.loc 4), (.loc 4)]) [some (.ref 0), o1, some (.ref n), some (.int (j : Nat)), some (.int (z : Nat)), o5, some x, o7, o8] T = .ok (lV l) T' := call_three (loc_ok rfl) (loc_ok rfl) (loc_ok rfl) e
      have e2 : lcOne (gam pr 19) [6] (.nm 6) [] (.call "_law_labels" [(.loc 2), (.loc 4), (.loc 4)]) [some (.ref 0), o1, some (.ref n), some (.int (j : Nat)), some (.int (z : Nat)), o5, o6, o7, o8] x T = (evE (gam pr 19) (.call "_law_labels" [(.loc 2), (.loc 4), (.loc 4)]) [some (.ref 0), o1, some (.ref n), some (.int (j : Nat)), some (.int (z : Nat)), o5, some x, o7, o8] T).bind fun z S4 => .ok (some z) S4 := rfl
      exact ⟨lV l, T', by rw [e2, c, bind_ok], ⟨l, rfl, (lab_of_labs hl z1 hz).1⟩, (hI.trans ⟨x', s'⟩).mono (by omega)⟩
  obtain ⟨ps, rfl, hp⟩ := labs_all P
  refine ⟨ps, S2, ?_, by rw [rl] at l; simp at l; omega, hp, L.mono (by rw [rl]; omega)⟩
  rw [rowsX, x_lc, it, bind_ok]
  show (lcGo _ none (rngI (j % 4)) [] S).bind _ = _
  rw [e]; rfl
theorem len_ev {xs : List IV} {Γ : Gam} (h5 : τ[5]? = some (some (.ref q))) (g : S[q]? = some (.lst xs)) : evE Γ (.blt .len [(.loc 5)]) τ S = .ok (.int (xs.length : Nat)) S := (blt1 (loc_ok h5) (l_lst g)).trans (by simp)
/-- the last one replaced, if so -/
def s3X : PX := .and (.cmp .eq (.bin .mod (.loc 3) (.k (.int 3))) (.k (.int 1))) (.cmp .ne (.loc 5) (.lst []))
def s3B : List Sm := [.sub (.loc 5) (.neg (.k (.int 1))) (.call "_law_labels" [(.loc 2), (.bin .add (.k (.int 1)) (.call "_law_draw" [(.loc 2), (.k (.int 12))])), (.k (.int 12))])]
theorem set_labs {ps : List (List Int)} {i : Nat} {l : List Int} (hp : ∀ p ∈ ps, Lab p) (hl : Lab l) : ∀ p ∈ ps.set i l, Lab p := fun p hm => by
  rcases List.mem_or_eq_of_mem_set hm with h | rfl
  · exact hp p h
  · exact hl
theorem step3 {o1 o6 o7 o8 : Option IV} {j : Nat} {ps : List (List Int)} (L0 : Lft n t S0 S) (ht : t + 300 ≤ 1000000000) (hn : n < S0.length) (hq : S0.length ≤ q) (hl : ps.length ≤ 3) (hp : ∀ p ∈ ps, Lab p) (g : S[q]? = some (.lst (ps.map lV))) :
    ∃ (ps' : List (List Int)) (S' : Sto), evS (gam pr 19) pr.sub (.cond s3X s3B []) (TC o1 n (.int (j : Nat)) z q o6 o7 o8) S = .next (TC o1 n (.int (j : Nat)) z q o6 o7 o8) S' ∧ ps'.length ≤ 3 ∧ (∀ p ∈ ps', Lab p) ∧ S'[q]? = some (.lst (ps'.map lV)) ∧ Lft n (t + 20) S0 S' := by
  have one : ∀ {s : Sm} {τ : Sl} {S S' : Sto}, evSs (gam pr 19) pr.sub [s] τ S = .next τ S' → evS (gam pr 19) pr.sub s τ S = .next τ S' := fun {s τ S S'} h => by
    rw [s_cons] at h
    cases e : evS (gam pr 19) pr.sub s τ S with
    | next a b => rw [e, seq_next] at h; simpa [rest_eq, s_nil] using h
    | _ => rw [e] at h; cases h
  have c1 : evE (gam pr 19) (.cmp .eq (.bin .mod (.loc 3) (.k (.int 3))) (.k (.int 1))) (TC o1 n (.int (j : Nat)) z q o6 o7 o8) S = .ok (.bl (decide ((j : Int).fmod 3 = 1))) S := eq_int (bin_ok (loc_ok rfl) x_k (b_mod (by decide)))
  by_cases b : (j : Int).fmod 3 = 1
  · rw [decide_eq_true b] at c1
    have c2 := ne_nil (Γ := gam pr 19) (τ := TC o1 n (.int (j : Nat)) z q o6 o7 o8) (A := .loc 5) (loc_ok rfl) g
    have c3 : evE (gam pr 19) s3X (TC o1 n (.int (j : Nat)) z q o6 o7 o8) S = .ok (.bl (!decide (ps = []))) (S ++ [.lst []]) := (and_yes c1).trans c2
    have g1 : (S ++ [Cell.lst []])[q]? = some (.lst (ps.map lV)) := get_appL g
    have L1 : Lft n t S0 (S ++ [.lst []]) := L0.app
    by_cases e0 : ps = []
    · rw [decide_eq_true e0] at c3
      exact ⟨ps, _, one (st_no c3 s_nil), hl, hp, g1, L1.mono (by omega)⟩
    · rw [decide_eq_false e0] at c3
      have pl : 0 < ps.length := List.length_pos_iff.mpr e0
      generalize (S ++ [Cell.lst []]) = A at *
      obtain ⟨r, S2, e2, r0, r1, L2, _⟩ := draw_x (pr := pr) (k := 18) (S := A) (τ := TC o1 n (.int (j : Nat)) z q o6 o7 o8) (i := 2) (M := .k (.int 12)) (m := 12) lk_l_draw L1.sup (by omega) rfl x_k (by decide) (by decide)
      obtain ⟨y, hy⟩ : ∃ y : Nat, 1 + r = (y : Int) := ⟨(1 + r).toNat, by omega⟩
      have e3 : evE (gam pr 19) (.bin .add (.k (.int 1)) (.call "_law_draw" [(.loc 2), (.k (.int 12))])) (TC o1 n (.int (j : Nat)) z q o6 o7 o8) A = .ok (.int (y : Nat)) S2 := bin_ok2 x_k e2 (b_add.trans (by rw [hy]))
      obtain ⟨l, S3, e4, hL, _, x4, s4⟩ := l_labels_run (pr := pr) (k := 17) (S := S2) (f := "_law_labels") lk_l_labels lk_l_draw (N := y) (M := 12) (by omega) (by omega) (by decide) (by decide) L2.sup (by omega)
      have e5 : evE (gam pr 19) (.call "_law_labels" [(.loc 2), (.bin .add (.k (.int 1)) (.call "_law_draw" [(.loc 2), (.k (.int 12))])), (.k (.int 12))]) (TC o1 n (.int (j : Nat)) z q o6 o7 o8) A = .ok (lV l) S3 := by
        rw [x_call, xs_cons, loc_ok (v := .ref n) rfl, bind_ok, xs_cons, e3, bind_ok, xs_cons, x_k, bind_ok, xs_nil, bind_ok, bind_ok, bind_ok, bind_ok]
        exact e4
      have L3 : Lft n (t + 20) S0 S3 := (L1.trans (L2.trans ⟨x4, s4⟩)).mono (by omega)
      have g3 : S3[q]? = some (.lst (ps.map lV)) := (L2.trans ⟨x4, s4⟩).get g1 (by omega)
      have ng : evE (gam pr 19) (.neg (.k (.int 1))) (TC o1 n (.int (j : Nat)) z q o6 o7 o8) S3 = .ok (.int (-1)) S3 := rfl
      have hx : ixN (ps.map lV).length (-1) = some (ps.length - 1) := by
        unfold ixN
        simp
        omega
      have sb : evS (gam pr 19) pr.sub (.sub (.loc 5) (.neg (.k (.int 1))) (.call "_law_labels" [(.loc 2), (.bin .add (.k (.int 1)) (.call "_law_draw" [(.loc 2), (.k (.int 12))])), (.k (.int 12))])) (TC o1 n (.int (j : Nat)) z q o6 o7 o8) A = .next (TC o1 n (.int (j : Nat)) z q o6 o7 o8) (S3.set q (.lst ((ps.set (ps.length - 1) l).map lV))) := by
        rw [s_sub, e5, thn_ok, loc_ok (v := .ref q) rfl, thn_ok, ng, thn_ok, u_lst g3 hx, List.map_set]
      refine ⟨ps.set (ps.length - 1) l, _, one (st_yesN c3 (st_any sb s_nil) s_nil), by simpa using hl, set_labs hp (lab_of_labs hL (by omega) (by omega)).1, List.getElem?_set_self (get_lt g3), L3.put hq hn⟩
  · rw [decide_eq_false b] at c1
    exact ⟨ps, S, one (st_no (and_no c1) s_nil), hl, hp, g, L0.mono (by omega)⟩
/-- one replaced by a value that may be none, if so -/
def s4X : PX := .and (.cmp .gt (.bin .mod (.loc 3) (.k (.int 5))) (.k (.int 2))) (.cmp .ne (.loc 5) (.lst []))
def s4B : List Sm := [
          .set (.nm 6) (.call "_law_draw" [(.loc 2), (.blt .len [(.loc 5)])]),
          .sub (.loc 5) (.loc 6) (pickX (.ix (.loc 5) (.loc 6)))]
theorem step4 {o1 o6 o7 o8 : Option IV} {j : Nat} {ps : List (List Int)} {ss : List Sm} (L0 : Lft n t S0 S) (ht : t + 400 ≤ 1000000000) (hn : n < S0.length) (hq : S0.length ≤ q) (hl : ps.length ≤ 3) (hp : ∀ p ∈ ps, Lab p) (g : S[q]? = some (.lst (ps.map lV))) :
    ∃ (xs : List IV) (p6 : Option IV) (S' : Sto), evSs (gam pr 19) pr.sub (.cond s4X s4B [] :: ss) (TC o1 n (.int (j : Nat)) z q o6 o7 o8) S = evSs (gam pr 19) pr.sub ss (TC o1 n (.int (j : Nat)) z q p6 o7 o8) S' ∧ xs.length ≤ 3 ∧ (∀ x ∈ xs, ∃ d, toD S' x = some d) ∧ S'[q]? = some (.lst xs) ∧ Lft n (t + 20) S0 S' := by
  have dat : ∀ T : Sto, ∀ x ∈ ps.map lV, ∃ d, toD T x = some d := fun T x hx => by
    obtain ⟨p, _, rfl⟩ := List.mem_map.mp hx
    exact ⟨_, dat_ints p⟩
  have c1 : evE (gam pr 19) (.cmp .gt (.bin .mod (.loc 3) (.k (.int 5))) (.k (.int 2))) (TC o1 n (.int (j : Nat)) z q o6 o7 o8) S = .ok (.bl (decide (2 < (j : Int).fmod 5))) S := cmp_ok (bin_ok (loc_ok rfl) x_k (b_mod (by decide))) x_k c_gt
  by_cases b : 2 < (j : Int).fmod 5
  · rw [decide_eq_true b] at c1
    have c2 := ne_nil (Γ := gam pr 19) (τ := TC o1 n (.int (j : Nat)) z q o6 o7 o8) (A := .loc 5) (loc_ok rfl) g
    have c3 : evE (gam pr 19) s4X (TC o1 n (.int (j : Nat)) z q o6 o7 o8) S = .ok (.bl (!decide (ps = []))) (S ++ [.lst []]) := (and_yes c1).trans c2
    have g1 : (S ++ [Cell.lst []])[q]? = some (.lst (ps.map lV)) := get_appL g
    have L1 : Lft n t S0 (S ++ [.lst []]) := L0.app
    by_cases e0 : ps = []
    · rw [decide_eq_true e0] at c3
      exact ⟨ps.map lV, o6, _, st_no c3 rfl, by simpa using hl, dat _, g1, L1.mono (by omega)⟩
    · rw [decide_eq_false e0] at c3
      have pl : 0 < ps.length := List.length_pos_iff.mpr e0
      generalize (S ++ [Cell.lst []]) = A at *
      obtain ⟨r, S2, e2, r0, r1, L2, _⟩ := draw_x (pr := pr) (k := 18) (S := A) (τ := TC o1 n (.int (j : Nat)) z q o6 o7 o8) (i := 2) (M := .blt .len [(.loc 5)]) (m := ((ps.map lV).length : Nat)) lk_l_draw L1.sup (by omega) rfl (len_ev rfl g1) (by simp; omega) (by simp; omega)
      obtain ⟨i, rfl⟩ : ∃ i : Nat, r = (i : Int) := ⟨r.toNat, by omega⟩
      have hi : i < ps.length := by simp at r1; omega
      have g2 : S2[q]? = some (.lst (ps.map lV)) := L2.get g1 (by omega)
      have hA : evE (gam pr 19) (.ix (.loc 5) (.loc 6)) (TC o1 n (.int (j : Nat)) z q (some (.int (i : Nat))) o7 o8) S2 = .ok (lV ps[i]) S2 := by
        rw [x_ix, loc_ok (v := .ref q) rfl, bind_ok, loc_ok (v := .int (i : Nat)) rfl, bind_ok, i_lst g2, atI_nat (by rw [List.getElem?_map, List.getElem?_eq_getElem hi]; rfl), getO_some]
      obtain ⟨u, S3, e3, L3, _, hu⟩ := pick_run (τ := TC o1 n (.int (j : Nat)) z q (some (.int (i : Nat))) o7 o8) rfl hA (hp _ (List.getElem_mem hi)) L2.sup (by omega)
      have g3 : S3[q]? = some (.lst (ps.map lV)) := L3.get g2 (by omega)
      have hx : ixN (ps.map lV).length (i : Int) = some i := by
        unfold ixN
        simp
        omega
      have sb : evS (gam pr 19) pr.sub (.sub (.loc 5) (.loc 6) (pickX (.ix (.loc 5) (.loc 6)))) (TC o1 n (.int (j : Nat)) z q (some (.int (i : Nat))) o7 o8) S2 = .next (TC o1 n (.int (j : Nat)) z q (some (.int (i : Nat))) o7 o8) (S3.set q (.lst ((ps.map lV).set i u))) := by
        rw [s_sub, e3, thn_ok, loc_ok (v := .ref q) rfl, thn_ok, loc_ok (v := .int (i : Nat)) rfl, thn_ok, u_lst g3 hx]
      refine ⟨(ps.map lV).set i u, some (.int (i : Nat)), _, st_yesN c3 (st_set e2 (st_any sb s_nil)) rfl, by simpa using hl, fun x hx => ?_, List.getElem?_set_self (get_lt g3), ((L1.trans (L2.trans L3)).mono (by omega)).put hq hn⟩
      rcases List.mem_or_eq_of_mem_set hx with h | rfl
      · exact dat _ x h
      · exact hu q _ (get_lt g2)
  · rw [decide_eq_false b] at c1
    exact ⟨ps.map lV, o6, S, st_no (and_no c1) rfl, by simpa using hl, dat _, g, L0.mono (by omega)⟩
theorem lap_step {o1 o4 o5 o6 o7 o8 : Option IV} {j : Nat} (hs : Sup n t S) (ht : t + 1000 ≤ 1000000000) :
    ∃ (z q : Nat) (p6 p7 : Option IV) (S' : Sto), evSs (gam pr 19) pr.sub lb_law_2 [some (.ref 0), o1, some (.ref n), some (.int (j : Nat)), o4, o5, o6, o7, o8] S = .next (TC o1 n (.int (j : Nat)) z q p6 p7 o8) S' ∧ Lft n (t + 200) S S' := by
  have nl := hs.lt
  obtain ⟨r, S1, e1, r0, r1, L1, _⟩ := draw_x (pr := pr) (k := 18) (S := S) (τ := [some (.ref 0), o1, some (.ref n), some (.int (j : Nat)), o4, o5, o6, o7, o8]) (i := 2) (M := .k (.int 12)) (m := 12) lk_l_draw hs (by omega) rfl x_k (by decide) (by decide)
  obtain ⟨z, hz⟩ : ∃ z : Nat, 1 + r = (z : Int) := ⟨(1 + r).toNat, by omega⟩
  have e2 : evE (gam pr 19) (.bin .add (.k (.int 1)) (.call "_law_draw" [(.loc 2), (.k (.int 12))])) [some (.ref 0), o1, some (.ref n), some (.int (j : Nat)), o4, o5, o6, o7, o8] S = .ok (.int (z : Nat)) S1 := bin_ok2 x_k e1 (b_add.trans (by rw [hz]))
  obtain ⟨ps, S2, e3, pl, pL, L2⟩ := rows_run (o1 := o1) (o5 := o5) (o6 := o6) (o7 := o7) (o8 := o8) (j := j) L1.sup (by omega) (z := z) (by omega) (by omega)
  have L3 : Lft n (t + 49) S (S2 ++ [.lst (ps.map lV)]) := ((L1.trans L2).mono (by omega)).app
  have len2 : S.length ≤ S2.length := (L1.trans L2).len
  obtain ⟨ps', S3, e4, pl', pL', g3, L4⟩ := step3 (o1 := o1) (o6 := o6) (o7 := o7) (o8 := o8) (j := j) (z := z) (q := S2.length) L3 (by omega) nl len2 pl pL app_at
  obtain ⟨xs, p6, S4, e5, xl, xd, g4, L5⟩ := step4 (o1 := o1) (o6 := o6) (o7 := o7) (o8 := o8) (j := j) (z := z) (q := S2.length) (ss := [
        .set (.nm 7) (.call "_law_due" [(.loc 5)]),
        .cond (.not (.call "_law_is_equal" [pairX, (.lst [(.loc 7), (.loc 7)])])) [
          .ret (.k (.bl false))] []]) L4 (by omega) nl len2 pl' pL' g3
  obtain ⟨v, D⟩ := due_ex xs
  obtain ⟨v1, v2, v3⟩ := due_show D
  have e6 : evE (gam pr 19) (.call "_law_due" [(.loc 5)]) (TC o1 n (.int (j : Nat)) z S2.length p6 o7 o8) S4 = .ok v S4 := call_one (loc_ok rfl) (due_at g4 xl xd D)
  have e7 := pair_run (τ := TC o1 n (.int (j : Nat)) z S2.length p6 (some v) o8) (v := v) rfl g4 xl xd D
  have e8 : evE (gam pr 19) (.lst [(.loc 7), (.loc 7)]) (TC o1 n (.int (j : Nat)) z S2.length p6 (some v) o8) (S4 ++ [.lst [v, v]]) = .ok (.ref (S4 ++ [Cell.lst [v, v]]).length) (S4 ++ [.lst [v, v]] ++ [.lst [v, v]]) := two_lst (loc_ok rfl) (loc_ok rfl)
  have e9 : evE (gam pr 19) (.call "_law_is_equal" [pairX, (.lst [(.loc 7), (.loc 7)])]) (TC o1 n (.int (j : Nat)) z S2.length p6 (some v) o8) S4 = .ok (.bl true) (S4 ++ [.lst [v, v]] ++ [.lst [v, v]]) := by
    rw [x_call, xs_cons, e7, bind_ok, xs_cons, e8, bind_ok, xs_nil, bind_ok, bind_ok, bind_ok]
    exact same_two v1 v3 (get_appL app_at) app_at
  refine ⟨z, S2.length, p6, some v, S4 ++ [.lst [v, v]] ++ [.lst [v, v]], ?_, (L5.app.app).mono (by omega)⟩
  refine st_set e2 (st_set e3 (st_any e4 ?_))
  exact e5.trans (st_set e6 (st_not e9 s_nil))
/-! ### the tail -/
def tailL : List Sm := [
      .set (.nm 8) (.call "_law_labels" [(.loc 2), (.bin .add (.k (.int 1)) (.call "_law_draw" [(.loc 2), (.k (.int 11))])), (.k (.int 11))]),
      .set (.nm 5) (.lst [(.loc 8), (.bin .add (.loc 8) (.tup [(.k (.int 0))])), pickX (.loc 8)]),
      .cond (.not (.call "_law_is_equal" [pairX, (.bin .mul (.lst [(.call "_law_due" [(.loc 5)])]) (.k (.int 2)))])) [
        .ret (.k (.bl false))] []]
theorem b_twice {r : Nat} (g : S[r]? = some (.lst [v])) : binI .mul (.ref r) (.int 2) S = .ok (.ref S.length) (S ++ [.lst [v, v]]) := by
  simp only [binI, g]
  rfl
theorem tail_step {o1 o3 o4 o5 o6 o7 o8 : Option IV} (hs : Sup n t S) (ht : t + 1000 ≤ 1000000000) :
    ∃ (q : Nat) (p8 : Option IV) (S' : Sto), evSs (gam pr 19) pr.sub tailL [some (.ref 0), o1, some (.ref n), o3, o4, o5, o6, o7, o8] S = .next [some (.ref 0), o1, some (.ref n), o3, o4, some (.ref q), o6, o7, p8] S' ∧ Ext n S S' := by
  have nl := hs.lt
  obtain ⟨r, S1, e1, r0, r1, L1, _⟩ := draw_x (pr := pr) (k := 18) (S := S) (τ := [some (.ref 0), o1, some (.ref n), o3, o4, o5, o6, o7, o8]) (i := 2) (M := .k (.int 11)) (m := 11) lk_l_draw hs (by omega) rfl x_k (by decide) (by decide)
  obtain ⟨z, hz⟩ : ∃ z : Nat, 1 + r = (z : Int) := ⟨(1 + r).toNat, by omega⟩
  have e2 : evE (gam pr 19) (.bin .add (.k (.int 1)) (.call "_law_draw" [(.loc 2), (.k (.int 11))])) [some (.ref 0), o1, some (.ref n), o3, o4, o5, o6, o7, o8] S = .ok (.int (z : Nat)) S1 := bin_ok2 x_k e1 (b_add.trans (by rw [hz]))
  obtain ⟨l, S2, e3, hL, _, x2, s2⟩ := l_labels_run (pr := pr) (k := 17) (S := S1) (f := "_law_labels") lk_l_labels lk_l_draw (N := z) (M := 11) (by omega) (by omega) (by decide) (by decide) L1.sup (by omega)
  have e4 : evE (gam pr 19) (.call "_law_labels" [(.loc 2), (.bin .add (.k (.int 1)) (.call "_law_draw" [(.loc 2), (.k (.int 11))])), (.k (.int 11))]) [some (.ref 0), o1, some (.ref n), o3, o4, o5, o6, o7, o8] S = .ok (lV l) S2 := by
    rw [x_call, xs_cons, loc_ok (v := .ref n) rfl, bind_ok, xs_cons, e2, bind_ok, xs_cons, x_k, bind_ok, xs_nil, bind_ok, bind_ok, bind_ok, bind_ok]
    exact e3
  have hLab := (lab_of_labs hL (by omega) (by omega)).1
  obtain ⟨u, S3, e5, L3, ⟨d, hd⟩, _⟩ := pick_run (τ := [some (.ref 0), o1, some (.ref n), o3, o4, o5, o6, o7, some (lV l)]) (A := .loc 8) rfl (loc_ok rfl) hLab s2 (by omega)
  have ad : binI .add (lV l) (.tup [.int 0]) S2 = .ok (lV (l ++ [0])) S2 := by
    have := hLab.len
    rw [lV, b_tup (by simp [szOk]; omega), lV, List.map_append]; rfl
  have a2 : evE (gam pr 19) (.bin .add (.loc 8) (.tup [(.k (.int 0))])) [some (.ref 0), o1, some (.ref n), o3, o4, o5, o6, o7, some (lV l)] S2 = .ok (lV (l ++ [0])) S2 := bin_ok (loc_ok rfl) (by rw [x_tup, xs_cons, x_k, bind_ok, xs_nil, bind_ok, bind_ok, mkTu_1]) ad
  have e6 : evE (gam pr 19) (.lst [(.loc 8), (.bin .add (.loc 8) (.tup [(.k (.int 0))])), pickX (.loc 8)]) [some (.ref 0), o1, some (.ref n), o3, o4, o5, o6, o7, some (lV l)] S2 = .ok (.ref S3.length) (S3 ++ [.lst [lV l, lV (l ++ [0]), u]]) := by
    rw [x_lst, xs_cons, loc_ok (v := lV l) rfl, bind_ok, xs_cons, a2, bind_ok, xs_cons, e5, bind_ok, xs_nil, bind_ok, bind_ok, bind_ok, bind_ok, mkLi_3]
  have g4 : (S3 ++ [Cell.lst [lV l, lV (l ++ [0]), u]])[S3.length]? = some (.lst [lV l, lV (l ++ [0]), u]) := app_at
  have xd : ∀ x ∈ [lV l, lV (l ++ [0]), u], ∃ d, toD (S3 ++ [Cell.lst [lV l, lV (l ++ [0]), u]]) x = some d := keep_app fun x hx => by
    simp only [List.mem_cons, List.not_mem_nil, or_false] at hx
    rcases hx with rfl | rfl | rfl
    · exact ⟨_, dat_ints _⟩
    · exact ⟨_, dat_ints _⟩
    · exact ⟨d, hd⟩
  have L4 : Ext n S (S3 ++ [Cell.lst [lV l, lV (l ++ [0]), u]]) := ((L1.ext.trans x2).trans L3.ext).trans .app
  generalize hA : (S3 ++ [Cell.lst [lV l, lV (l ++ [0]), u]]) = A at *
  obtain ⟨v, D⟩ := due_ex [lV l, lV (l ++ [0]), u]
  obtain ⟨v1, v2, v3⟩ := due_show D
  have e7 := pair_run (τ := [some (.ref 0), o1, some (.ref n), o3, o4, some (.ref S3.length), o6, o7, some (lV l)]) (v := v) rfl g4 (by simp) xd D
  have g5 : (A ++ [Cell.lst [v, v]])[S3.length]? = some (.lst [lV l, lV (l ++ [0]), u]) := get_appL g4
  have e8 : evE (gam pr 19) (.call "_law_due" [(.loc 5)]) [some (.ref 0), o1, some (.ref n), o3, o4, some (.ref S3.length), o6, o7, some (lV l)] (A ++ [.lst [v, v]]) = .ok v (A ++ [.lst [v, v]]) := call_one (loc_ok rfl) (due_at g5 (by simp) (keep_app xd) D)
  have e9 : evE (gam pr 19) (.lst [(.call "_law_due" [(.loc 5)])]) [some (.ref 0), o1, some (.ref n), o3, o4, some (.ref S3.length), o6, o7, some (lV l)] (A ++ [.lst [v, v]]) = .ok (.ref (A ++ [Cell.lst [v, v]]).length) (A ++ [.lst [v, v]] ++ [.lst [v]]) := by
    rw [x_lst, xs_cons, e8, bind_ok, xs_nil, bind_ok, bind_ok, mkLi_1]
  have e10 : evE (gam pr 19) (.bin .mul (.lst [(.call "_law_due" [(.loc 5)])]) (.k (.int 2))) [some (.ref 0), o1, some (.ref n), o3, o4, some (.ref S3.length), o6, o7, some (lV l)] (A ++ [.lst [v, v]]) = .ok (.ref (A ++ [Cell.lst [v, v]] ++ [Cell.lst [v]]).length) (A ++ [.lst [v, v]] ++ [.lst [v]] ++ [.lst [v, v]]) := by
    rw [x_bin, e9, bind_ok, x_k, bind_ok, b_twice app_at]
  have e11 : evE (gam pr 19) (.call "_law_is_equal" [pairX, (.bin .mul (.lst [(.call "_law_due" [(.loc 5)])]) (.k (.int 2)))]) [some (.ref 0), o1, some (.ref n), o3, o4, some (.ref S3.length), o6, o7, some (lV l)] A = .ok (.bl true) (A ++ [.lst [v, v]] ++ [.lst [v]] ++ [.lst [v, v]]) := by
    rw [x_call, xs_cons, e7, bind_ok, xs_cons, e10, bind_ok, xs_nil, bind_ok, bind_ok, bind_ok]
    exact same_two v1 v3 (get_appL (get_appL app_at)) app_at
  refine ⟨S3.length, some (lV l), _, st_set e4 (st_set e6 (st_not e11 s_nil)), ((L4.trans .app).trans .app).trans .app⟩
theorem law_true : ∀ ns : List Int, ns.length ≤ 63 → (∀ z ∈ ns, Builtin.Int.intBits z ≤ 1048576) → ∃ S', run pr 20 "law" [.ref 0] [.frz (ns.map .int)] = .ok (.bl true) S' := fun ns _ _ => by
  refine frameR (pr := pr) (k := 18) (f := "law") lk_l_cell lk_l_source (N := 9) (it := .rng [(.k (.int 16))]) (inner := lb_law_2) (tail := tailL) (xs := rngI 16) 1000 lk_law (by decide) (fun τ S => it_rng (K := 16) (by rw [xs_cons, x_k, bind_ok, xs_nil, bind_ok]; rfl) (by decide)) ?_ ?_
  · intro n t j x τ S hx hτ h0 h2 hn hs ht hS0
    obtain ⟨hj, rfl⟩ := rng_item hx
    obtain ⟨a0, a1, a2, a3, a4, a5, a6, a7, a8, rfl⟩ : ∃ a0 a1 a2 a3 a4 a5 a6 a7 a8, τ = [a0, a1, a2, a3, a4, a5, a6, a7, a8] := by
      match τ, hτ with
      | [a0, a1, a2, a3, a4, a5, a6, a7, a8], _ => exact ⟨a0, a1, a2, a3, a4, a5, a6, a7, a8, rfl⟩
    simp only [List.getElem?_cons_zero, List.getElem?_cons_succ, Option.some.injEq] at h0 h2
    subst h0 h2
    obtain ⟨z, q, p6, p7, S', e, L⟩ := lap_step (o1 := a1) (o4 := a4) (o5 := a5) (o6 := a6) (o7 := a7) (o8 := a8) (j := j) hs (by omega)
    exact ⟨_, S', e, rfl, rfl, rfl, L.sup.mono (by omega), L.ext⟩
  · intro n t τ S hτ h0 h2 hn hs ht hS0
    have rl : (rngI 16).length = 16 := by simp [rngI]
    rw [rl] at ht
    obtain ⟨a0, a1, a2, a3, a4, a5, a6, a7, a8, rfl⟩ : ∃ a0 a1 a2 a3 a4 a5 a6 a7 a8, τ = [a0, a1, a2, a3, a4, a5, a6, a7, a8] := by
      match τ, hτ with
      | [a0, a1, a2, a3, a4, a5, a6, a7, a8], _ => exact ⟨a0, a1, a2, a3, a4, a5, a6, a7, a8, rfl⟩
    simp only [List.getElem?_cons_zero, List.getElem?_cons_succ, Option.some.injEq] at h0 h2
    subst h0 h2
    obtain ⟨q, p8, S', e, L⟩ := tail_step (o1 := a1) (o3 := a3) (o4 := a4) (o5 := a5) (o6 := a6) (o7 := a7) (o8 := a8) hs (by omega)
    exact ⟨_, S', e, rfl, rfl, L⟩
end
end Lw
namespace Lw
open PySem PySem.W PySem.Calls PyProof.Rows Wg
/-! ### the head -/
abbrev RR : PySem.W.OpenRow := PySem.W.OpenLaw.row PySem.Challenge.rw_wagerroom_k09_partitions_refused
def loose : List PySem.Str := ((["RoomError", "InvalidLabelsError", "MismatchError", "is_integer", "MOST_CASES", "is_valid_labels", "check_labels", "grouped", "relabelled", "check_partitions", "refined", "joined", "_law_cell", "_law_source", "_law_draw", "_law_choose", "_law_is_equal", "_law_is_integer", "_law_odd", "_law_bent"] : List PySem.Str) ++ (["_law_labels", "_law_canonical", "_law_is_labels", "_law_refined", "_law_joined", "_law_due"] : List PySem.Str))
set_option maxHeartbeats 0 in
set_option maxRecDepth 100000 in
theorem hrun (w : World) : HandSHeadRun.RunEq RR (PySem.W.view RR.prog [30]) (hookH gi pr hs) (obH gi pr hs) 60000 loose w := by
  intro os
  kernel_rfl
end Lw
open PySem PySem.W PySem.Calls PyProof.Rows
set_option maxHeartbeats 0 in
set_option maxRecDepth 100000 in
theorem PySem.Challenge.cw_wagerroom_k09_partitions_refused_holds : PySem.Challenge.rw_wagerroom_k09_partitions_refused.Holds := by
  w_on; o_law
  refine HandSHeadRun.head_any (r := OpenLaw.row PySem.Challenge.rw_wagerroom_k09_partitions_refused) (q := view (OpenLaw.row PySem.Challenge.rw_wagerroom_k09_partitions_refused).prog [30]) (H := Wg.hookH Lw.gi Lw.pr Lw.hs) (ob := Wg.obH Lw.gi Lw.pr Lw.hs) (M := 60000) (loose := Lw.loose) (d := HandSHeadRun.topDef (OpenLaw.row PySem.Challenge.rw_wagerroom_k09_partitions_refused).prog 30) (kwd := []) (Wg.obH_eq _ _ _)
    (by kernel_rfl) (fun s => by kernel_rfl) Lw.hrun (by kernel_rfl) (by kernel_rfl) (by kernel_rfl) (by rfl) (by first | assumption | decide +kernel) (by decide +kernel) ⟨rfl, rfl, rfl, rfl, rfl, by decide +kernel⟩ ?hw ?hc
  case hw => w_witness2
  case hc => exact Wg.walk_H (l := PySem.Challenge.rw_wagerroom_k09_partitions_refused) (n := 63) (k := 20) (x := "law") (g := Lw.gi) (pr := Lw.pr) (hs := Lw.hs) rfl (by decide) (by kernel_rfl) (by kernel_rfl) ⟨rfl, by decide, by decide⟩ (by decide +kernel) Lw.hs_ok Lw.at_ok Lw.law_true
