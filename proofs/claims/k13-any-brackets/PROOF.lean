import PyProof.Rows.All
import Wide.All
import OpenK.AllK
import Wide.FinOn
import PySem.Challenge.RW_striproam_k13_whole_any_brackets
import HandS.ForMost
import HandS.ForExc
import HandS.CallSlots
import HandS.ExcInit
import HandS.IsInst
import HandS.Deep
import HandS.TupAny
import HandS.TupMul
import HandS.TupLen
import HandS.Wide
import KE.KDictKeyed
import KE.KeyNested
import KE.GoesEnum
import KE.GoesMore
import HandS.Zip
set_option Elab.async false
set_option linter.all false
set_option maxRecDepth 100000
/-! DI, the data: values, results, the primitive operations, core syntax, its total evaluation -/
namespace DI
open PySem

/-- data. lst and dct bear a flag: true, owned by the one who holds it; false, frozen -/
inductive D where
  | non | bl (b : Bool) | int (i : Int) | str (x : Str)
  | tup (xs : List D) | lst (o : Bool) (xs : List D) | dct (o : Bool) (kvs : List (NestedKey × D))
  | obj (c : Nat) (fs : List D)
instance : Inhabited D := ⟨.non⟩

/-- a result: a value, a refusal of a class with its values, or nothing is said -/
inductive R (α : Type) where
  | ok (a : α) | err (c : Nat) (fs : List D) | bad
def R.bind {α β : Type} : R α → (α → R β) → R β
  | .ok a, k => k a
  | .err c fs, _ => .err c fs
  | .bad, _ => .bad
@[simp] theorem R.bind_ok {α β : Type} (a : α) (k : α → R β) : (R.ok a).bind k = k a := rfl
@[simp] theorem R.bind_err {α β : Type} (c : Nat) (fs : List D) (k : α → R β) : (R.err c fs : R α).bind k = .err c fs := rfl
@[simp] theorem R.bind_bad {α β : Type} (k : α → R β) : (R.bad : R α).bind k = .bad := rfl

/-! ### owned parts -/
mutual
def clean : D → Bool
  | .non => true | .bl _ => true | .int _ => true | .str _ => true
  | .tup xs => cleanL xs
  | .lst o xs => !o && cleanL xs
  | .dct o _ => !o
  | .obj _ fs => cleanL fs
def cleanL : List D → Bool
  | [] => true
  | x :: xs => clean x && cleanL xs
end
/- no frozen list or dict within -/
mutual
def noFrz : D → Bool
  | .non => true | .bl _ => true | .int _ => true | .str _ => true
  | .tup xs => noFrzL xs
  | .lst o xs => o && noFrzL xs
  | .dct o kvs => o && noFrzK kvs
  | .obj _ fs => noFrzL fs
def noFrzL : List D → Bool
  | [] => true
  | x :: xs => noFrz x && noFrzL xs
def noFrzK : List (NestedKey × D) → Bool
  | [] => true
  | (_, x) :: xs => noFrz x && noFrzK xs
end
theorem noFrzK_map : ∀ kvs : List (NestedKey × D), noFrzK kvs = noFrzL (kvs.map (·.2))
  | [] => rfl
  | (_, x) :: xs => by rw [noFrzK, List.map_cons, noFrzL, noFrzK_map xs]
mutual
def frz : D → D
  | .non => .non | .bl b => .bl b | .int i => .int i | .str x => .str x
  | .tup xs => .tup (frzL xs)
  | .lst _ xs => .lst false (frzL xs)
  | .dct _ kvs => .dct false kvs
  | .obj c fs => .obj c (frzL fs)
def frzL : List D → List D
  | [] => []
  | x :: xs => frz x :: frzL xs
end
mutual
theorem frz_clean : ∀ d : D, clean d = true → frz d = d
  | .non, _ => rfl | .bl _, _ => rfl | .int _, _ => rfl | .str _, _ => rfl
  | .tup xs, h => by rw [frz, frzL_clean xs (by simpa [clean] using h)]
  | .lst o xs, h => by
    simp only [clean, Bool.and_eq_true, Bool.not_eq_true'] at h
    rw [frz, frzL_clean xs h.2, h.1]
  | .dct o kvs, h => by
    simp only [clean, Bool.not_eq_true'] at h
    rw [frz, h]
  | .obj c fs, h => by rw [frz, frzL_clean fs (by simpa [clean] using h)]
theorem frzL_clean : ∀ xs : List D, cleanL xs = true → frzL xs = xs
  | [], _ => rfl
  | x :: xs, h => by
    simp only [cleanL, Bool.and_eq_true] at h
    rw [frzL, frz_clean x h.1, frzL_clean xs h.2]
end
theorem cleanL_all (xs : List D) : cleanL xs = xs.all clean := by
  induction xs with
  | nil => rfl
  | cons x xs ih => rw [cleanL, List.all_cons, ih]
theorem frzL_map (xs : List D) : frzL xs = xs.map frz := by
  induction xs with
  | nil => rfl
  | cons x xs ih => rw [frzL, List.map_cons, ih]
theorem noFrzL_all (xs : List D) : noFrzL xs = xs.all noFrz := by
  induction xs with
  | nil => rfl
  | cons x xs ih => rw [noFrzL, List.all_cons, ih]

/-! ### data as the library's data, keys -/
mutual
def py : D → Option PyData
  | .non => some .none | .bl b => some (.bool b) | .int i => some (.int i) | .str x => some (.str x)
  | .tup xs => (pyL xs).map .tuple
  | .lst _ xs => (pyL xs).map .list
  | .dct _ _ => none
  | .obj _ _ => none
def pyL : List D → Option (List PyData)
  | [] => some []
  | x :: xs => (py x).bind fun d => (pyL xs).map fun ds => d :: ds
end
mutual
def key : D → Option NestedKey
  | .non => some .none | .bl b => some (.num (if b = true then 1 else 0)) | .int i => some (.num i) | .str x => some (.text x)
  | .tup xs => (keyL xs).map .tup
  | .lst _ _ => none
  | .dct _ _ => none
  | .obj _ _ => none
def keyL : List D → Option (List NestedKey)
  | [] => some []
  | x :: xs => (key x).bind fun d => (keyL xs).map fun ds => d :: ds
end
/-- == -/
def eqD (d e : D) : R Bool :=
  match py d, py e with
  | some a, some b => if SeqAt.shaped a && SeqAt.shaped b then .ok (PyData.eqv a b) else .bad
  | _, _ => .bad

def oneOf (c : Nat) : D := .str ⟨#[c]⟩
def ofR {α : Type} : Option α → R α
  | some a => .ok a
  | none => .bad

/-! ### operators -/
inductive Bop where
  | add | sub | mul | fdiv | mod | pow
  deriving DecidableEq
inductive Cop where
  | lt | le | gt | ge | eq | ne | mem | nmem | isN | notN
  deriving DecidableEq

/-- bounds that no evaluation unfolds -/
noncomputable def lim62 : Int := Classical.choose (show ∃ n : Int, n = 4611686018427387904 from ⟨_, rfl⟩)
theorem lim62_eq : lim62 = 4611686018427387904 := Classical.choose_spec (show ∃ n : Int, n = 4611686018427387904 from ⟨_, rfl⟩)
noncomputable def lim64 : Int := Classical.choose (show ∃ n : Int, n = 18446744073709551616 from ⟨_, rfl⟩)
theorem lim64_eq : lim64 = 18446744073709551616 := Classical.choose_spec (show ∃ n : Int, n = 18446744073709551616 from ⟨_, rfl⟩)
noncomputable def small64 (i : Int) : Bool := decide (-lim64 < i) && decide (i < lim64)
noncomputable def small62 (i : Int) : Bool := decide (-lim62 ≤ i) && decide (i < lim62)
noncomputable def binD : Bop → D → D → R D
  | .add, .int i, .int j => .ok (.int (i + j))
  | .add, .str x, .str y => if x.length + y.length ≤ sizeLine then .ok (.str (x ++ y)) else .bad
  | .add, .lst true xs, .lst true ys => if (cleanL xs && cleanL ys) = true ∧ xs.length + ys.length ≤ sizeLine then .ok (.lst true (xs ++ ys)) else .bad
  | .add, .tup xs, .tup ys => if (cleanL xs && cleanL ys) = true ∧ xs.length + ys.length ≤ sizeLine then .ok (.tup (xs ++ ys)) else .bad
  | .sub, .int i, .int j => .ok (.int (i - j))
  | .mul, .int i, .int j => if (small64 i || small64 j) = true then .ok (.int (i * j)) else .bad
  | .mul, .lst true xs, .int k => if cleanL xs = true ∧ small62 k = true ∧ xs.length * k.toNat ≤ sizeLine then .ok (.lst true (List.replicate k.toNat xs).flatten) else .bad
  | .fdiv, .int i, .int j => if 0 < j ∧ j.natAbs.log2 < 9000 then .ok (.int (i / j)) else .bad
  | .mod, .int i, .int j => if 0 < j then .ok (.int (i % j)) else .bad
  | .pow, .int i, .int j => if 0 ≤ j ∧ j ≤ 1000000 ∧ i.natAbs < 2 ^ 64 then .ok (.int (i ^ j.toNat)) else .bad
  | _, _, _ => .bad

/-- x in ys -/
def memS (x : D) (ys : List D) : R Bool :=
  match py x, pyL ys with
  | some d, some ds => if (SeqAt.shaped d && SeqAt.shaped (.list ds)) = true then .ok (ds.any fun z => PyData.eqv z d) else .bad
  | _, _ => .bad
def isLeafKey : NestedKey → Bool
  | .num _ => true | .text _ => true | .none => false | .tup _ => false
def isTupKey : NestedKey → Bool
  | .tup _ => true | .num _ => false | .text _ => false | .none => false
/-- the keys of a dict are of one kind with k -/
def keysWith (k : NestedKey) (kvs : List (NestedKey × D)) : Bool :=
  (isLeafKey k && kvs.all fun p => isLeafKey p.1) || (isTupKey k && decide (k.depth ≤ 8) && kvs.all fun p => isTupKey p.1)
def dget (kvs : List (NestedKey × D)) (k : NestedKey) : Option D := (kvs.find? fun p => decide (p.1 = k)).map (·.2)
def dput (kvs : List (NestedKey × D)) (k : NestedKey) (v : D) : List (NestedKey × D) :=
  if (kvs.any fun p => decide (p.1 = k)) = true then kvs.map (fun p => if p.1 = k then (p.1, v) else p) else kvs ++ [(k, v)]
/-- a leaf key that is no bool: whole numbers and texts alone -/
def leafD : D → Bool
  | .int _ => true | .str _ => true | _ => false
def keyIn (d : D) (kvs : List (NestedKey × D)) : R NestedKey :=
  match key d with
  | some k => if (keysWith k kvs && (isTupKey k || leafD d)) = true then .ok k else .bad
  | none => .bad
def memD (x : D) : D → R Bool
  | .lst _ ys => memS x ys
  | .tup ys => memS x ys
  | .dct _ kvs => (keyIn x kvs).bind fun k => .ok (dget kvs k).isSome
  | .str z => match x with
    | .str y => .ok (!(Builtin.Str.occurrences z y 0 z.length 1).isEmpty)
    | _ => .bad
  | _ => .bad
def isNon : D → Bool
  | .non => true
  | _ => false
def cmpD : Cop → D → D → R Bool
  | .lt, .int i, .int j => .ok (decide (i < j))
  | .le, .int i, .int j => .ok (decide (i ≤ j))
  | .gt, .int i, .int j => .ok (decide (j < i))
  | .ge, .int i, .int j => .ok (decide (j ≤ i))
  | .eq, x, y => eqD x y
  | .ne, x, y => (eqD x y).bind fun b => .ok (!b)
  | .mem, x, y => memD x y
  | .nmem, x, y => (memD x y).bind fun b => .ok (!b)
  | .isN, x, .non => .ok (isNon x)
  | .notN, x, .non => .ok (!isNon x)
  | _, _, _ => .bad

/-! ### items, slices, walks -/
def idxD : D → D → R D
  | .lst _ xs, .int i => ofR (L2.atI xs i)
  | .tup xs, .int i => ofR (L2.atI xs i)
  | .str z, .int i => if z.length ≤ sizeLine then ofR ((L2.atI z.cps.toList i).map oneOf) else .bad
  | .dct _ kvs, k => (keyIn k kvs).bind fun k => ofR (dget kvs k)
  | _, _ => .bad
def cutL {α : Type} (xs : List α) (lo hi : Option Int) : List α := (xs.drop (HT.sIx xs.length 0 lo)).take (HT.sIx xs.length xs.length hi - HT.sIx xs.length 0 lo)
def partD : Option D → R (Option Int)
  | none => .ok none
  | some (.int i) => .ok (some i)
  | some _ => .bad
def slD (x : D) (lo hi : Option Int) : R D :=
  match x with
  | .lst _ xs => if cleanL xs = true then .ok (.lst true (cutL xs lo hi)) else .bad
  | .tup xs => if cleanL xs = true then .ok (.tup (cutL xs lo hi)) else .bad
  | .str z => if z.length ≤ sizeLine then .ok (.str (L2.cutS z lo hi)) else .bad
  | _ => .bad
/-- the items of a thing that is walked -/
def itemsD : D → R (List D)
  | .lst _ xs => if cleanL xs = true then .ok xs else .bad
  | .tup xs => if cleanL xs = true then .ok xs else .bad
  | .str z => .ok (z.cps.toList.map oneOf)
  | _ => .bad

inductive Ty where
  | str | int | bool | tuple | list
  deriving DecidableEq
def isTy : Ty → D → R Bool
  | _, .obj _ _ => .bad
  | _, .dct _ _ => .bad
  | .str, .str _ => .ok true
  | .int, .int _ => .ok true
  | .int, .bl _ => .ok true
  | .bool, .bl _ => .ok true
  | .tuple, .tup _ => .ok true
  | .list, .lst _ _ => .ok true
  | _, _ => .ok false
inductive Bi where
  | len | tuple | list | int | str | min | max | abs | sum | all | isi (t : Ty)
  deriving DecidableEq
def intsD : List D → Option (List Int)
  | [] => some []
  | .int i :: r => (intsD r).map (i :: ·)
  | _ => none
def blsD : List D → Option (List Bool)
  | [] => some []
  | .bl i :: r => (blsD r).map (i :: ·)
  | _ => none
def strsD : List D → Option (List Str)
  | [] => some []
  | .str i :: r => (strsD r).map (i :: ·)
  | _ => none
def biD : Bi → List D → R D
  | .len, [.lst _ xs] => .ok (.int xs.length)
  | .len, [.tup xs] => .ok (.int xs.length)
  | .len, [.str z] => if z.length ≤ sizeLine then .ok (.int z.length) else .bad
  | .len, [.dct _ kvs] => .ok (.int kvs.length)
  | .tuple, [.lst _ xs] => if cleanL xs = true then .ok (.tup xs) else .bad
  | .tuple, [.tup xs] => if cleanL xs = true then .ok (.tup xs) else .bad
  | .list, [.lst _ xs] => if cleanL xs = true then .ok (.lst true xs) else .bad
  | .list, [.tup xs] => if cleanL xs = true then .ok (.lst true xs) else .bad
  | .int, [.int i] => .ok (.int i)
  | .int, [.bl b] => .ok (.int (if b = true then 1 else 0))
  | .int, [.str x] => match PySem.intText? x with
    | some n => if x.length ≤ 640 then .ok (.int n) else .bad
    | none => .bad
  | .str, [.int i] => if i.natAbs.log2 < 1920 then .ok (.str (Str.ofString (toString i))) else .bad
  | .min, [.int i, .int j] => .ok (.int (if j < i then j else i))
  | .max, [.int i, .int j] => .ok (.int (if j > i then j else i))
  | .abs, [.int i] => .ok (.int (if i < 0 then -i else i))
  | .sum, [.lst _ xs] => match intsD xs with
    | some ns => .ok (.int ns.sum)
    | none => .bad
  | .all, [.lst _ xs] => match blsD xs with
    | some bs => .ok (.bl (bs.all id))
    | none => .bad
  | .isi t, [x] => (isTy t x).bind fun b => .ok (.bl b)
  | _, _ => .bad
inductive Mt where
  | join | split | find | strIndex | lstIndex | get1 | get2
  deriving DecidableEq
def idxL (x : D) (ys : List D) : R Nat :=
  match py x, pyL ys with
  | some d, some ds => if (SeqAt.shaped d && SeqAt.shaped (.list ds)) = true then ofR (ds.findIdx? fun z => PyData.eqv z d) else .bad
  | _, _ => .bad
def mtD : Mt → D → List D → R D
  | .join, .str s, [.lst _ xs] => match strsD xs with
    | some ys => if (ys.map (·.length)).sum + ys.length * s.length ≤ 16777216 then .ok (.str (Txt.join s ys)) else .bad
    | none => .bad
  | .split, .str s, [.str t] => if (t.length == 0) = false ∧ s.length + 2 ≤ sizeLine then .ok (.lst true ((Txt.split s t).map D.str)) else .bad
  | .find, .str s, [.str t] => .ok (.int (Txt.find s t))
  | .strIndex, .str s, [.str t] => match Builtin.Str.occurrences s t 0 s.length 1 with
    | [] => .bad
    | k :: _ => .ok (.int (k : Nat))
  | .lstIndex, .lst _ xs, [x] => (idxL x xs).bind fun n => .ok (.int n)
  | .get1, .dct _ kvs, [k] => (keyIn k kvs).bind fun k => .ok ((dget kvs k).getD .non)
  | .get2, .dct _ kvs, [k, x] => (keyIn k kvs).bind fun k => if clean x = true then .ok ((dget kvs k).getD x) else .bad
  | _, _, _ => .bad

/-- the receiver is of the method's type -/
def recvOk : Mt → D → Bool
  | .join, .str _ => true | .split, .str _ => true | .find, .str _ => true | .strIndex, .str _ => true
  | .lstIndex, .lst _ _ => true
  | .get1, .dct _ _ => true | .get2, .dct _ _ => true
  | _, _ => false
def Mt.name : Mt → String
  | .join => "join" | .split => "split" | .find => "find" | .strIndex => "index" | .lstIndex => "index" | .get1 => "get" | .get2 => "get"

/-! ### core syntax: expressions that store nothing -/
abbrev Sl := List (Option D)
inductive Pat where
  | one (i : Nat) | many (is : List Nat)
  deriving DecidableEq
def ownIf (r : Bool) (d : D) : R D := if (!r || clean d) = true then .ok d else .bad
def getS (σ : Sl) (i : Nat) : R D :=
  match σ[i]? with
  | some (some d) => .ok d
  | _ => .bad
def boolOf : D → R Bool
  | .bl b => .ok b
  | _ => .bad
def intOf : D → R Int
  | .int i => .ok i
  | _ => .bad
def tupOf : D → R (List D)
  | .tup xs => .ok xs
  | _ => .bad
def wipeL (σ : Sl) : List Nat → Sl
  | [] => σ
  | v :: vs => (wipeL σ vs).set v none
def putAll (σ : Sl) : List Nat → List D → R Sl
  | [], [] => .ok σ
  | i :: is, d :: ds => putAll (σ.set i (some d)) is ds
  | _, _ => .bad
/-- a target takes a value (a tuple whose items are no owned ones, where there are several names) -/
def bindP (σ : Sl) (p : Pat) (d : D) : R Sl :=
  match p with
  | .one i => .ok (σ.set i (some d))
  | .many is => match d with
    | .tup xs => putAll σ is xs
    | _ => .bad
def compR (body : D → R (Option D)) : List D → R (List D)
  | [] => .ok []
  | x :: xs => (body x).bind fun o => (compR body xs).bind fun ys => .ok (match o with | some y => y :: ys | none => ys)
def rngL (lo : Int) (n : Nat) : List D := (List.range n).map fun (k : Nat) => D.int (lo + (k : Int))
def enumL : Nat → List D → List D
  | _, [] => []
  | k, x :: xs => .tup [.int (k : Int), x] :: enumL (k + 1) xs
def zipL : List D → List D → List D
  | x :: xs, y :: ys => .tup [x, y] :: zipL xs ys
  | _, _ => []

end DI
/-! DI, the relation between data and the abstract heap -/
namespace DI
open PySem PySem.Spec PyProof.Rows L2

def nk : Key → NestedKey
  | .inl i => .num i
  | .inr x => .text x
/-- a dict whose keys are nested tuples: xs tells its keys, where they stand, its values -/
def rawN (P : Program) (w : World) (a : Addr) (xs : List (NestedKey × Addr × V)) : HO := .ext fun h =>
  xs.length ≤ sizeLine ∧ (a == sysModules) = false ∧ (xs.map (·.1)).Nodup ∧ ∃ ys : List (NestedKey × Addr × Value),
    Paired (fun (p : NestedKey × Addr × V) (q : NestedKey × Addr × Value) => p.1 = q.1 ∧ p.2.1 = q.2.1 ∧ RelV p.2.2 q.2.2) xs ys ∧
    ∃ o es ep, h.get? a = some o ∧ o.ExactDict ∧ o.data = .dict es ep ∧ es.toList = ys.map (entryOfKey (nestedKind P w))

/-- a frozen list: of the kit's, or of the written part -/
def SqF (K : PySem.W.Frag) (H : Hp) (a : Addr) (vs : List V) : Prop := (∃ ob, H a = some (.frz ob (.lst vs))) ∨
  ∃ (o : Obj) (its : Array Value) (n : Nat), K.lookup a = some o ∧ o.cls = .type "list" ∧ o.dict = none ∧ o.data = .seq its n ∧ its.size ≤ sizeLine ∧ Vals vs its.toList
theorem SqF.sqL {K : PySem.W.Frag} {H : Hp} {a : Addr} {vs : List V} (h : SqF K H a vs) : SqL K H a vs := h.elim (fun ⟨ob, e⟩ => .inl (.inr ⟨ob, e⟩)) .inr
mutual
inductive KRep (K : PySem.W.Frag) (H : Hp) : NestedKey → V → Prop
  | none : KRep K H .none .non
  | num (i : Int) : KRep K H (.num i) (.int i)
  | bool (b : Bool) : KRep K H (.num (if b = true then 1 else 0)) (.bl b)
  | text (x : Str) : KRep K H (.text x) (.str x)
  | tup {a : Addr} {vs : List V} {ks : List NestedKey} : SqT K H a vs → KReps K H ks vs → KRep K H (.tup ks) (.ref a)
inductive KReps (K : PySem.W.Frag) (H : Hp) : List NestedKey → List V → Prop
  | nil : KReps K H [] []
  | cons {k : NestedKey} {v : V} {ks : List NestedKey} {vs : List V} : KRep K H k v → KReps K H ks vs → KReps K H (k :: ks) (v :: vs)
end

/-- an owned thing's addresses, a frozen one's -/
def OwnP (Z : Addr → Prop) (o : Bool) (a : Addr) (fs fp : List Addr) : Prop := (o = true ∧ fp = a :: fs) ∨ (o = false ∧ fs = [] ∧ fp = [] ∧ Z a)

/-- the environment of it all -/
structure Gv where
  P : Program
  w : World
  K : PySem.W.Frag
  /-- a class's address, the names of its exceptions' values -/
  cls : Nat → Option (Addr × List Str)

mutual
inductive Rep (g : Gv) (Z : Addr → Prop) (H : Hp) : D → V → List Addr → Prop
  | non : Rep g Z H .non .non []
  | bl (b : Bool) : Rep g Z H (.bl b) (.bl b) []
  | int (i : Int) : Rep g Z H (.int i) (.int i) []
  | str (x : Str) : Rep g Z H (.str x) (.str x) []
  | tup {a : Addr} {vs : List V} {xs : List D} {fp : List Addr} : SqT g.K H a vs → Reps g Z H xs vs fp → Rep g Z H (.tup xs) (.ref a) fp
  | lst {a : Addr} {vs : List V} {xs : List D} {o : Bool} {fs fp : List Addr} : H a = some (.lst vs) → Reps g Z H xs vs fs → OwnP Z o a fs fp → Rep g Z H (.lst o xs) (.ref a) fp
  | lstR {a : Addr} {vs : List V} {xs : List D} : SqF g.K H a vs → Reps g Z H xs vs [] → Rep g Z H (.lst false xs) (.ref a) []
  | dK {a : Addr} {kv : List (Key × V)} {kvs : List (NestedKey × D)} {o : Bool} {fp : List Addr} : H a = some (.dK kv) → (kv.map fun p => nk p.1) = kvs.map (·.1) → Reps g Z H (kvs.map (·.2)) (kv.map (·.2)) [] →
      OwnP Z o a [] fp → Rep g Z H (.dct o kvs) (.ref a) fp
  | dN {a : Addr} {xs : List (NestedKey × Addr × V)} {kvs : List (NestedKey × D)} {o : Bool} {fp : List Addr} : H a = some (rawN g.P g.w a xs) → xs.map (·.1) = kvs.map (·.1) → xs ≠ [] →
      (∀ p ∈ xs, KRep g.K H p.1 (.ref p.2.1) ∧ p.1.depth ≤ 8) → Reps g Z H (kvs.map (·.2)) (xs.map (·.2.2)) [] → OwnP Z o a [] fp → Rep g Z H (.dct o kvs) (.ref a) fp
inductive Reps (g : Gv) (Z : Addr → Prop) (H : Hp) : List D → List V → List Addr → Prop
  | nil : Reps g Z H [] [] []
  | cons {x : D} {v : V} {xs : List D} {vs : List V} {f fs : List Addr} : Rep g Z H x v f → Reps g Z H xs vs fs → Reps g Z H (x :: xs) (v :: vs) (f ++ fs)
end

section
variable {g : Gv} {Z Z' : Addr → Prop} {H H' : Hp}

/-- what a heap's change must keep of a represented thing: the tuples, the frozen things, what stands at fp -/
structure Kp (Z : Addr → Prop) (fp : List Addr) (H H' : Hp) : Prop where
  tup : ∀ a vs, Rd H a (.tup vs) → Rd H' a (.tup vs)
  frz : ∀ a ob vs, H a = some (.frz ob (.lst vs)) → H' a = some (.frz ob (.lst vs))
  z : ∀ a o, Z a → H a = some o → H' a = some o
  own : ∀ a o, a ∈ fp → H a = some o → H' a = some o
theorem Same.rd {a : Addr} {u : HO} (s : Same H H') (h : Rd H a u) : Rd H' a u := by
  rcases h with h | ⟨o, h⟩
  · exact .inl (s _ _ h)
  · exact .inr ⟨o, s _ _ h⟩
theorem Kp.of_same {fp : List Addr} (s : Same H H') : Kp Z fp H H' := ⟨fun _ _ h => Same.rd s h, fun _ _ _ h => s _ _ h, fun _ _ _ h => s _ _ h, fun _ _ _ h => s _ _ h⟩
theorem Kp.sub {fp fp' : List Addr} (k : Kp Z fp H H') (h : ∀ a ∈ fp', a ∈ fp) : Kp Z fp' H H' := ⟨k.tup, k.frz, k.z, fun a o m => k.own a o (h a m)⟩
theorem Kp.out {fp : List Addr} (k : Kp Z fp H H') : Kp Z [] H H' := ⟨k.tup, k.frz, k.z, fun _ _ m => nomatch m⟩
theorem sqT_keep {a : Addr} {vs : List V} (k : ∀ a vs, Rd H a (.tup vs) → Rd H' a (.tup vs)) (h : SqT g.K H a vs) : SqT g.K H' a vs := by
  rcases h with h | h
  · exact .inl (k _ _ h)
  · exact .inr h
theorem sqF_keep {a : Addr} {vs : List V} (k : ∀ a ob vs, H a = some (.frz ob (.lst vs)) → H' a = some (.frz ob (.lst vs))) (h : SqF g.K H a vs) : SqF g.K H' a vs := by
  rcases h with ⟨ob, h⟩ | h
  · exact .inl ⟨ob, k _ _ _ h⟩
  · exact .inr h
mutual
theorem KRep.keep (k : ∀ a vs, Rd H a (.tup vs) → Rd H' a (.tup vs)) : ∀ {q : NestedKey} {v : V}, KRep g.K H q v → KRep g.K H' q v
  | _, _, .none => .none
  | _, _, .num i => .num i
  | _, _, .bool b => .bool b
  | _, _, .text x => .text x
  | _, _, .tup h hs => .tup (sqT_keep k h) (KReps.keep k hs)
theorem KReps.keep (k : ∀ a vs, Rd H a (.tup vs) → Rd H' a (.tup vs)) : ∀ {qs : List NestedKey} {vs : List V}, KReps g.K H qs vs → KReps g.K H' qs vs
  | _, _, .nil => .nil
  | _, _, .cons h hs => .cons (KRep.keep k h) (KReps.keep k hs)
end
theorem OwnP.mono {o : Bool} {a : Addr} {fs fp : List Addr} (hz : ∀ a, Z a → Z' a) (h : OwnP Z o a fs fp) : OwnP Z' o a fs fp := by
  rcases h with h | ⟨h1, h2, h3, h4⟩
  · exact .inl h
  · exact .inr ⟨h1, h2, h3, hz _ h4⟩
theorem OwnP.at {o : Bool} {a : Addr} {fs fp : List Addr} {u : HO} (k : Kp Z fp H H') (w : OwnP Z o a fs fp) (h : H a = some u) : H' a = some u := by
  rcases w with ⟨_, e⟩ | ⟨_, _, _, hz⟩
  · exact k.own _ _ (by rw [e]; exact List.mem_cons_self) h
  · exact k.z _ _ hz h
theorem OwnP.sub {o : Bool} {a : Addr} {fs fp : List Addr} (w : OwnP Z o a fs fp) : ∀ b ∈ fs, b ∈ fp := fun b hb => by
  rcases w with ⟨_, e⟩ | ⟨_, e, _, _⟩
  · rw [e]; exact List.mem_cons_of_mem _ hb
  · rw [e] at hb; cases hb
mutual
theorem Rep.keep (hz : ∀ a, Z a → Z' a) : ∀ {d : D} {v : V} {fp : List Addr}, Rep g Z H d v fp → Kp Z fp H H' → Rep g Z' H' d v fp
  | _, _, _, .non, _ => .non
  | _, _, _, .bl b, _ => .bl b
  | _, _, _, .int i, _ => .int i
  | _, _, _, .str x, _ => .str x
  | _, _, _, .tup h hs, k => .tup (sqT_keep k.tup h) (Reps.keep hz hs k)
  | _, _, _, .lst h hs w, k => .lst (w.at k h) (Reps.keep hz hs (k.sub w.sub)) (w.mono hz)
  | _, _, _, .lstR h hs, k => .lstR (sqF_keep k.frz h) (Reps.keep hz hs k)
  | _, _, _, .dK h e hs w, k => .dK (w.at k h) e (Reps.keep hz hs k.out) (w.mono hz)
  | _, _, _, .dN h e ne hk hs w, k => .dN (w.at k h) e ne (fun p hp => ⟨KRep.keep k.tup (hk p hp).1, (hk p hp).2⟩) (Reps.keep hz hs k.out) (w.mono hz)
theorem Reps.keep (hz : ∀ a, Z a → Z' a) : ∀ {ds : List D} {vs : List V} {fp : List Addr}, Reps g Z H ds vs fp → Kp Z fp H H' → Reps g Z' H' ds vs fp
  | _, _, _, .nil, _ => .nil
  | _, _, _, .cons h hs, k => .cons (Rep.keep hz h (k.sub fun _ hb => List.mem_append_left _ hb)) (Reps.keep hz hs (k.sub fun _ hb => List.mem_append_right _ hb))
end
theorem Rep.same {d : D} {v : V} {fp : List Addr} (r : Rep g Z H d v fp) (hz : ∀ a, Z a → Z' a) (s : Same H H') : Rep g Z' H' d v fp := r.keep hz (.of_same s)
theorem Reps.same {d : List D} {v : List V} {fp : List Addr} (r : Reps g Z H d v fp) (hz : ∀ a, Z a → Z' a) (s : Same H H') : Reps g Z' H' d v fp := r.keep hz (.of_same s)

mutual
theorem Rep.clean : ∀ {d : D} {v : V} {fp : List Addr}, Rep g Z H d v fp → clean d = true → fp = []
  | _, _, _, .non, _ => rfl
  | _, _, _, .bl b, _ => rfl
  | _, _, _, .int i, _ => rfl
  | _, _, _, .str x, _ => rfl
  | _, _, _, .tup h hs, c => Reps.clean hs (by simpa [DI.clean] using c)
  | _, _, _, .lst h hs w, c => by
    simp only [DI.clean, Bool.and_eq_true, Bool.not_eq_true'] at c
    rcases w with ⟨e, _⟩ | ⟨_, _, e, _⟩
    · rw [c.1] at e; cases e
    · exact e
  | _, _, _, .lstR h hs, _ => rfl
  | _, _, _, .dK h e hs w, c => by
    simp only [DI.clean, Bool.not_eq_true'] at c
    rcases w with ⟨e, _⟩ | ⟨_, _, e, _⟩
    · rw [c] at e; cases e
    · exact e
  | _, _, _, .dN h e ne hk hs w, c => by
    simp only [DI.clean, Bool.not_eq_true'] at c
    rcases w with ⟨e, _⟩ | ⟨_, _, e, _⟩
    · rw [c] at e; cases e
    · exact e
theorem Reps.clean : ∀ {ds : List D} {vs : List V} {fp : List Addr}, Reps g Z H ds vs fp → cleanL ds = true → fp = []
  | _, _, _, .nil, _ => rfl
  | _, _, _, .cons h hs, c => by
    simp only [cleanL, Bool.and_eq_true] at c
    rw [Rep.clean h c.1, Reps.clean hs c.2]
    rfl
end
mutual
/-- frozen: its addresses are in the zone from now on -/
theorem Rep.frz (hz : ∀ a, Z a → Z' a) : ∀ {d : D} {v : V} {fp : List Addr}, Rep g Z H d v fp → (∀ a ∈ fp, Z' a) → Rep g Z' H (frz d) v []
  | _, _, _, .non, _ => .non
  | _, _, _, .bl b, _ => .bl b
  | _, _, _, .int i, _ => .int i
  | _, _, _, .str x, _ => .str x
  | _, _, _, .tup h hs, k => .tup h (Reps.frz hz hs k)
  | _, _, _, .lst h hs w, k => by
    refine .lst h (Reps.frz hz hs fun a ha => k a (w.sub a ha)) (.inr ⟨rfl, rfl, rfl, ?_⟩)
    rcases w with ⟨_, e⟩ | ⟨_, _, _, z⟩
    · exact k _ (by rw [e]; exact List.mem_cons_self)
    · exact hz _ z
  | _, _, _, .lstR h hs, k => .lstR h (Reps.frz hz hs k)
  | _, _, _, .dK h e hs w, k => by
    refine .dK h e (hs.same hz fun _ _ e => e) (.inr ⟨rfl, rfl, rfl, ?_⟩)
    rcases w with ⟨_, e⟩ | ⟨_, _, _, z⟩
    · exact k _ (by rw [e]; exact List.mem_cons_self)
    · exact hz _ z
  | _, _, _, .dN h e ne hk hs w, k => by
    refine .dN h e ne hk (hs.same hz fun _ _ e => e) (.inr ⟨rfl, rfl, rfl, ?_⟩)
    rcases w with ⟨_, e⟩ | ⟨_, _, _, z⟩
    · exact k _ (by rw [e]; exact List.mem_cons_self)
    · exact hz _ z
theorem Reps.frz (hz : ∀ a, Z a → Z' a) : ∀ {ds : List D} {vs : List V} {fp : List Addr}, Reps g Z H ds vs fp → (∀ a ∈ fp, Z' a) → Reps g Z' H (frzL ds) vs []
  | _, _, _, .nil, _ => .nil
  | _, _, _, .cons h hs, k => .cons (f := []) (fs := []) (Rep.frz hz h fun a ha => k a (List.mem_append_left _ ha)) (Reps.frz hz hs fun a ha => k a (List.mem_append_right _ ha))
end
mutual
/-- no frozen thing within: the zone doesn't matter -/
theorem Rep.unzone : ∀ {d : D} {v : V} {fp : List Addr}, Rep g Z H d v fp → noFrz d = true → Rep g Z' H d v fp
  | _, _, _, .non, _ => .non
  | _, _, _, .bl b, _ => .bl b
  | _, _, _, .int i, _ => .int i
  | _, _, _, .str x, _ => .str x
  | _, _, _, .tup h hs, c => .tup h (Reps.unzone hs (by simpa [noFrz] using c))
  | _, _, _, .lst h hs w, c => by
    simp only [noFrz, Bool.and_eq_true] at c
    refine .lst h (Reps.unzone hs c.2) ?_
    rcases w with w | ⟨e, _⟩
    · exact .inl w
    · rw [c.1] at e; cases e
  | _, _, _, .lstR h hs, c => by simp [noFrz] at c
  | _, _, _, .dK h e hs w, c => by
    simp only [noFrz, noFrzK_map, Bool.and_eq_true] at c
    refine .dK h e (Reps.unzone hs c.2) ?_
    rcases w with w | ⟨e, _⟩
    · exact .inl w
    · rw [c.1] at e; cases e
  | _, _, _, .dN h e ne hk hs w, c => by
    simp only [noFrz, noFrzK_map, Bool.and_eq_true] at c
    refine .dN h e ne hk (Reps.unzone hs c.2) ?_
    rcases w with w | ⟨e, _⟩
    · exact .inl w
    · rw [c.1] at e; cases e
theorem Reps.unzone : ∀ {ds : List D} {vs : List V} {fp : List Addr}, Reps g Z H ds vs fp → noFrzL ds = true → Reps g Z' H ds vs fp
  | _, _, _, .nil, _ => .nil
  | _, _, _, .cons h hs, c => by
    simp only [noFrzL, Bool.and_eq_true] at c
    exact .cons (Rep.unzone h c.1) (Reps.unzone hs c.2)
end
end
end DI
/-! DI, the state's relation, the reading of an evaluation, the simple expressions -/
namespace DI
open PySem PySem.Spec PyProof.Rows L2

/-- a refusal in the air -/
def ExR (g : Gv) (c : Nat) (fs : List D) (cls : Value) (d : Option Addr) (H : Hp) : Prop :=
  ∃ C ns, g.cls c = some (C, ns) ∧ cls = .ref C ∧ ((ns = [] ∧ fs = [] ∧ d = none) ∨
    (ns ≠ [] ∧ ∃ dd vs, d = some dd ∧ H dd = some (.xd (ns.zip vs)) ∧ vs.length = ns.length ∧ Reps g (fun _ => False) H fs vs []))
/-- the zone grows by what was new -/
structure Zx (Z Z' : Addr → Prop) (H H' : Hp) : Prop where
  le : ∀ a, Z a → Z' a
  new : ∀ a, Z' a → Z a ∨ H a = none
  inn : ∀ a, Z' a → H' a ≠ none
theorem same_refl (H : Hp) : Same H H := fun _ _ e => e
theorem same_trans {H H1 H2 : Hp} (a : Same H H1) (b : Same H1 H2) : Same H H2 := fun x o e => b x o (a x o e)
theorem same_none {H H' : Hp} (s : Same H H') {a : Addr} (h : H' a = none) : H a = none := by
  cases e : H a with
  | none => rfl
  | some o => rw [s a o e] at h; cases h
theorem same_upd {H : Hp} {p : Addr} {o : HO} (h : H p = none) : Same H (upd H p o) := fun b x e => by
  rw [upd_ne (ne_of_none e h)]
  exact e
theorem Zx.refl {Z : Addr → Prop} {H : Hp} (h : ∀ a, Z a → H a ≠ none) : Zx Z Z H H := ⟨fun _ z => z, fun _ z => .inl z, h⟩
theorem Zx.trans {Z Z1 Z2 : Addr → Prop} {H H1 H2 : Hp} (s : Same H H1) (a : Zx Z Z1 H H1) (b : Zx Z1 Z2 H1 H2) : Zx Z Z2 H H2 :=
  ⟨fun x z => b.le x (a.le x z), fun x z => by
    rcases b.new x z with h | h
    · exact a.new x h
    · exact .inr (same_none s h), b.inn⟩
theorem Zx.stay {Z : Addr → Prop} {H H' : Hp} (h : ∀ a, Z a → H a ≠ none) (s : Same H H') : Zx Z Z H H' := ⟨fun _ z => z, fun _ z => .inl z, fun a z e => h a z (same_none s e)⟩

structure PostE (g : Gv) (b : Bool) (Z Z' : Addr → Prop) (H H' : Hp) (d : D) (v : V) (fp : List Addr) : Prop where
  same : Same H H'
  zx : Zx Z Z' H H'
  rep : Rep g Z' H' d v fp
  own : b = true → fp.Nodup ∧ ∀ a ∈ fp, H a = none ∧ ¬ Z' a
structure SR (g : Gv) (H0 : Hp) (Z : Addr → Prop) (fps : List (List Addr)) (σl : Sl) (σ : L2.St) (H : Hp) : Prop where
  len : σl.length = σ.length
  lenf : fps.length = σ.length
  slot : ∀ (i : Nat) (d : D), σl[i]? = some (some d) → ∃ v fp, σ[i]? = some (some v) ∧ fps[i]? = some fp ∧ Rep g Z H d v fp
  gone : ∀ (i : Nat), σl[i]? = some none → fps[i]? = some []
  nd : fps.flatten.Nodup
  own : ∀ a ∈ fps.flatten, ¬ Z a ∧ H0 a = none ∧ H a ≠ none
  z : ∀ a, Z a → H a ≠ none
  same : Same H0 H

section
variable {g : Gv} {W : L2.WX} {Z Z1 Z' : Addr → Prop} {H0 H H1 H' : Hp} {fps : List (List Addr)} {σl : Sl} {σ : L2.St}
theorem SR.step (r : SR g H0 Z fps σl σ H) (s : Same H H1) (z : Zx Z Z1 H H1) : SR g H0 Z1 fps σl σ H1 where
  len := r.len
  lenf := r.lenf
  slot := fun i d e => by
    obtain ⟨v, fp, e1, e2, rp⟩ := r.slot i d e
    exact ⟨v, fp, e1, e2, rp.same z.le s⟩
  gone := r.gone
  nd := r.nd
  own := fun a ha => by
    obtain ⟨h1, h2, h3⟩ := r.own a ha
    refine ⟨fun q => ?_, h2, fun e => h3 (same_none s e)⟩
    rcases z.new a q with q | q
    · exact h1 q
    · exact h3 q
  z := z.inn
  same := same_trans r.same s
theorem PostE.pre {b : Bool} {d : D} {v : V} {fp : List Addr} (s : Same H H1) (z : Zx Z Z1 H H1) (p : PostE g b Z1 Z' H1 H' d v fp) : PostE g b Z Z' H H' d v fp :=
  ⟨same_trans s p.same, z.trans s p.zx, p.rep, fun e => ⟨(p.own e).1, fun a ha => ⟨same_none s ((p.own e).2 a ha).1, ((p.own e).2 a ha).2⟩⟩⟩
theorem PostE.weak {b : Bool} {d : D} {v : V} {fp : List Addr} (p : PostE g true Z Z' H H' d v fp) : PostE g b Z Z' H H' d v fp := ⟨p.same, p.zx, p.rep, fun _ => p.own rfl⟩
theorem PostE.borrow {b : Bool} {d : D} {v : V} {fp : List Addr} (p : PostE g b Z Z' H H' d v fp) : PostE g false Z Z' H H' d v fp := ⟨p.same, p.zx, p.rep, fun e => by cases e⟩

def Out {α : Type} (g : Gv) (W : L2.WX) (Z : Addr → Prop) (σ : L2.St) (H : Hp) (r : R α) (P : α → Prop) : Prop :=
  match r with
  | .ok a => P a
  | .err c fs => ∀ H' Z' cls d, Same H H' → Zx Z Z' H H' → ExR g c fs cls d H' → W cls d σ H'
  | .bad => False
theorem Out.bind {α β : Type} {r : R α} {k : α → R β} {P : β → Prop} (h : Out g W Z σ H (r.bind k) P) : Out g W Z σ H r fun a => Out g W Z σ H (k a) P := by
  cases r with
  | ok a => exact h
  | err c fs => exact h
  | bad => exact h
theorem Out.imp {α : Type} {r : R α} {P P' : α → Prop} (h : Out g W Z σ H r P) (hp : ∀ a, P a → P' a) : Out g W Z σ H r P' := by
  cases r with
  | ok a => exact hp a h
  | err c fs => exact h
  | bad => exact h
theorem Out.step {α : Type} {r : R α} {P P' : α → Prop} (h : Out g W Z σ H r P) (s : Same H H1) (z : Zx Z Z1 H H1) (hp : ∀ a, P a → P' a) : Out g W Z1 σ H1 r P' := by
  cases r with
  | ok a => exact hp a h
  | err c fs => exact fun H' Z' cls d s' z' e => h H' Z' cls d (same_trans s s') (z.trans s z') e
  | bad => exact h
theorem Out.guard {α : Type} {c : Prop} [Decidable c] {r : R α} {P : α → Prop} (h : Out g W Z σ H (if c then r else .bad) P) : c ∧ Out g W Z σ H r P := by
  by_cases hc : c
  · rw [if_pos hc] at h; exact ⟨hc, h⟩
  · rw [if_neg hc] at h; exact h.elim
/-- a result that only fails or is said -/
theorem Out.okOf {α : Type} {r : R α} {P : α → Prop} (h : Out g W Z σ H r P) (hn : ∀ c fs, r ≠ .err c fs) : ∃ a, r = .ok a ∧ P a := by
  cases r with
  | ok a => exact ⟨a, rfl, h⟩
  | err c fs => exact absurd rfl (hn c fs)
  | bad => exact h.elim

/-- the reading -/
def tI (g : Gv) (W : L2.WX) (b : Bool) (f : Sl → R D) : TE := fun σ H Q => ∃ H0 Z fps σl, SR g H0 Z fps σl σ H ∧ Out g W Z σ H (f σl) fun d => ∀ v H' Z' fp, PostE g b Z Z' H H' d v fp → Q v H'
/-- of an argument list: the items of a tuple that is not made; ow: the items are all owned, apart from one another -/
structure PostA (g : Gv) (b : Bool) (Z Z' : Addr → Prop) (H H' : Hp) (ds : List D) (vs : List V) (fp : List Addr) : Prop where
  same : Same H H'
  zx : Zx Z Z' H H'
  rep : Reps g Z' H' ds vs fp
  own : b = true → fp.Nodup ∧ ∀ a ∈ fp, H a = none ∧ ¬ Z' a
def tIA (g : Gv) (W : L2.WX) (b : Bool) (f : Sl → R D) : TA := fun σ H Q => ∃ H0 Z fps σl, SR g H0 Z fps σl σ H ∧ Out g W Z σ H (f σl) fun d => ∃ ds, d = .tup ds ∧ ∀ vs H' Z' fp, PostA g b Z Z' H H' ds vs fp → Q vs H'
def tIT (g : Gv) (W : L2.WX) (f : Sl → R D) : TT := fun σ H Q => ∃ H0 Z fps σl, SR g H0 Z fps σl σ H ∧ Out g W Z σ H (f σl) fun d => ∃ b, d = .bl b ∧ ∀ H' Z', Same H H' → Zx Z Z' H H' → Q b H'
end

theorem _root_.L2.PE.imp {X : Cx} {e : Expr} {t t' : TE} (h : PE X e t) (hi : ∀ σ H Q, t' σ H Q → t σ H Q) : PE X e t' := ⟨fun pins s σ H Q I q => h.run pins s σ H Q I (hi _ _ _ q)⟩
theorem _root_.L2.PT.imp {X : Cx} {e : Expr} {t t' : TT} (h : PT X e t) (hi : ∀ σ H Q, t' σ H Q → t σ H Q) : PT X e t' := ⟨fun pins s σ H Q I q => h.run pins s σ H Q I (hi _ _ _ q)⟩
theorem _root_.L2.PW.imp {X : Cx} {e : Expr} {t t' : TT} (h : PW X e t) (hi : ∀ σ H Q, t' σ H Q → t σ H Q) : PW X e t' := ⟨fun wh pins s σ H Q I q => h.run wh pins s σ H Q I (hi _ _ _ q)⟩
theorem _root_.L2.PA.imp {X : Cx} {e : List Expr} {t t' : TA} (h : PA X e t) (hi : ∀ σ H Q, t' σ H Q → t σ H Q) : PA X e t' := ⟨fun pos pins s σ H Q I q => h.run pos pins s σ H Q I (hi _ _ _ q)⟩
theorem _root_.L2.PS.imp {X : Cx} {e : Stmt} {t t' : TS} (h : PS X e t) (hi : ∀ D σ H, t' D σ H → t D σ H) : PS X e t' := ⟨fun pins s σ H Q I q => h.run pins s σ H Q I (hi _ _ _ q)⟩
theorem _root_.L2.PSs.imp {X : Cx} {e : List Stmt} {t t' : TS} (h : PSs X e t) (hi : ∀ D σ H, t' D σ H → t D σ H) : PSs X e t' := ⟨fun pins s σ H Q I q => h.run pins s σ H Q I (hi _ _ _ q)⟩
theorem _root_.L2.PI.imp {X : Cx} {tg e : Expr} {t t' : TI} (h : PI X tg e t) (hi : ∀ σ H Q, t' σ H Q → t σ H Q) : PI X tg e t' := ⟨fun pins s σ H Q I q => h.run pins s σ H Q I (hi _ _ _ q)⟩

/-- the context's own facts -/
structure Gof (g : Gv) (X : Cx) : Prop where
  P : X.prog = g.P
  w : X.w = g.w
  K : X.K = g.K

section
variable {X : Cx} {g : Gv} {W : L2.WX} {a b c : Expr} {fa fb fc : Sl → R D} {ba bb bc : Bool} {pos : Pos}

/-- an operator upon data, by values -/
def OpD (g : Gv) (W : L2.WX) (bo : Bool) (r : R2) (h : D → D → R D) : Prop := ∀ (Z : Addr → Prop) (σ : L2.St) (H : Hp) (x y : D) (v u : V) (fx fy : List Addr) (Q : VK), (∀ a, Z a → H a ≠ none) → Rep g Z H x v fx → Rep g Z H y u fy →
  Out g W Z σ H (h x y) (fun d => ∀ v H' Z' fp, PostE g bo Z Z' H H' d v fp → Q v H') → r v u H Q
theorem tOp_of {r : R2} {h : D → D → R D} {bo : Bool} (hr : OpD g W bo r h) {σ : L2.St} {H : Hp} {Q : VK} (q : tI g W bo (fun σ => (fa σ).bind fun x => (fb σ).bind fun y => h x y) σ H Q) :
    tOp r (tI g W ba fa) (tI g W bb fb) σ H Q := by
  obtain ⟨H0, Z, fps, σl, sr, o⟩ := q
  refine ⟨H0, Z, fps, σl, sr, o.bind.imp fun x h v1 H1 Z1 fp1 p1 => ?_⟩
  refine ⟨H0, Z1, fps, σl, sr.step p1.same p1.zx, h.bind.step p1.same p1.zx fun y h2 v2 H2 Z2 fp2 p2 => ?_⟩
  have s2 := same_trans p1.same p2.same
  have z2 := p1.zx.trans p1.same p2.zx
  exact hr Z2 σ H2 x y v1 v2 fp1 fp2 Q p2.zx.inn (p1.rep.same p2.zx.le p2.same) p2.rep (h2.step s2 z2 fun d q v H' Z' fp p => q v H' Z' fp (p.pre s2 z2))
theorem se_bin {op : Operator} {r : R2} {h : D → D → R D} {bo : Bool} (ho : OpR X (binaryOp op) r) (hr : OpD g W bo r h) (ha : PE X a (tI g W ba fa)) (hb : PE X b (tI g W bb fb)) :
    PE X (.BinOp a op b pos) (tI g W bo fun σ => (fa σ).bind fun x => (fb σ).bind fun y => h x y) := (pe_op ho ha hb).imp fun _ _ _ q => tOp_of hr q
theorem se_cmp {op : CmpOp} {r : R2} {h : D → D → R D} {bo : Bool} (ho : OpR X (compareOp op) r) (hr : OpD g W bo r h) (ha : PE X a (tI g W ba fa)) (hb : PE X b (tI g W bb fb)) (hm : behindInMarks op b = false) :
    PE X (.Compare a [op] [b] pos) (tI g W bo fun σ => (fa σ).bind fun x => (fb σ).bind fun y => h x y) := (pe_cmpR ho ha hb hm).imp fun _ _ _ q => tOp_of hr q
theorem st_cmp {op : CmpOp} {r : R2} {h : D → D → R D} (ho : OpR X (compareOp op) r) (hr : OpD g W true r h) (ha : PE X a (tI g W ba fa)) (hb : PE X b (tI g W bb fb)) (hm : behindInMarks op b = false) :
    PT X (.Compare a [op] [b] pos) (tIT g W fun σ => (fa σ).bind fun x => (fb σ).bind fun y => h x y) := (pt_cmpR ho ha hb hm).imp fun σ H Q q => by
  refine tOp_of (bo := true) hr (Q := fun x H' => ∃ k, x = .bl k ∧ Q k H') ?_
  obtain ⟨H0, Z, fps, σl, sr, o⟩ := q
  refine ⟨H0, Z, fps, σl, sr, o.imp fun d ⟨k, e, q⟩ v H' Z' fp p => ?_⟩
  subst e
  have rp := p.rep
  cases rp
  exact ⟨k, rfl, q H' Z' p.same p.zx⟩
theorem se_ix {r : R2} {h : D → D → R D} {bo : Bool} (ho : IxR X r) (hr : OpD g W bo r h) (ha : PE X a (tI g W ba fa)) (hb : PE X b (tI g W bb fb)) (hs : PlainIx b) :
    PE X (.Subscript a b pos) (tI g W bo fun σ => (fa σ).bind fun x => (fb σ).bind fun y => h x y) := (pe_ix ho ha hb hs).imp fun _ _ _ q => tOp_of hr q

/-- a new scalar -/
theorem post_sc {Z : Addr → Prop} {H : Hp} {d : D} {v : V} {bo : Bool} (hz : ∀ a, Z a → H a ≠ none) (r : Rep g Z H d v []) : PostE g bo Z Z H H d v [] :=
  ⟨same_refl H, .refl hz, r, fun _ => ⟨List.nodup_nil, fun _ h => nomatch h⟩⟩
/-- a new object at p, its parts clean -/
theorem post_new {Z : Addr → Prop} {H : Hp} {d : D} {p : Addr} {o : HO} {fp : List Addr} {bo : Bool} (hz : ∀ a, Z a → H a ≠ none) (hp : H p = none) (r : Rep g Z (upd H p o) d (.ref p) fp) (hf : fp = [] ∨ fp = [p]) : PostE g bo Z Z H (upd H p o) d (.ref p) fp :=
  ⟨same_upd hp, .stay hz (same_upd hp), r, fun _ => by
    rcases hf with rfl | rfl
    · exact ⟨List.nodup_nil, fun _ h => nomatch h⟩
    · refine ⟨by simp, fun a ha => ?_⟩
      have e : a = p := by simpa using ha
      subst e
      exact ⟨hp, fun z => hz _ z hp⟩⟩

/-! ### inversion of a representation -/
variable {Z : Addr → Prop} {H : Hp} {v u : V} {fp : List Addr}
theorem rep_int {i : Int} (r : Rep g Z H (.int i) v fp) : v = .int i ∧ fp = [] := by cases r; exact ⟨rfl, rfl⟩
theorem rep_bl {i : Bool} (r : Rep g Z H (.bl i) v fp) : v = .bl i ∧ fp = [] := by cases r; exact ⟨rfl, rfl⟩
theorem rep_str {i : Str} (r : Rep g Z H (.str i) v fp) : v = .str i ∧ fp = [] := by cases r; exact ⟨rfl, rfl⟩
theorem rep_non (r : Rep g Z H .non v fp) : v = .non ∧ fp = [] := by cases r; exact ⟨rfl, rfl⟩
theorem rep_tup {xs : List D} (r : Rep g Z H (.tup xs) v fp) : ∃ a vs, v = .ref a ∧ SqT g.K H a vs ∧ Reps g Z H xs vs fp := by
  cases r with
  | tup h hs => exact ⟨_, _, rfl, h, hs⟩
theorem rep_lst {o : Bool} {xs : List D} (r : Rep g Z H (.lst o xs) v fp) : ∃ a vs fs, v = .ref a ∧ SqL g.K H a vs ∧ Reps g Z H xs vs fs ∧ (∀ b ∈ fs, b ∈ fp) := by
  cases r with
  | lst h hs w => exact ⟨_, _, _, rfl, .of h, hs, w.sub⟩
  | lstR h hs => exact ⟨_, _, _, rfl, h.sqL, hs, fun _ h => nomatch h⟩
theorem Reps.get {xs : List D} {vs : List V} : ∀ {fp : List Addr}, Reps g Z H xs vs fp → ∀ (i : Nat) (x : D), xs[i]? = some x → ∃ v f, vs[i]? = some v ∧ Rep g Z H x v f ∧ (∀ a ∈ f, a ∈ fp) ∧ (fp.Nodup → f.Nodup) := by
  induction xs generalizing vs with
  | nil => intro fp _ i x e; simp at e
  | cons y ys ih =>
    intro fp r i x e
    cases r with
    | cons h hs =>
      cases i with
      | zero =>
        simp at e; subst e
        exact ⟨_, _, rfl, h, fun a ha => List.mem_append_left _ ha, fun n => (List.nodup_append.mp n).1⟩
      | succ i =>
        obtain ⟨v, f, e1, r1, s1, n1⟩ := ih hs i x (by simpa using e)
        exact ⟨v, f, by simpa using e1, r1, fun a ha => List.mem_append_right _ (s1 a ha), fun n => n1 (List.nodup_append.mp n).2.1⟩
theorem Reps.length : ∀ {xs : List D} {vs : List V} {fp : List Addr}, Reps g Z H xs vs fp → xs.length = vs.length
  | _, _, _, .nil => rfl
  | _, _, _, .cons _ t => by rw [List.length_cons, List.length_cons, Reps.length t]
theorem Reps.append : ∀ {xs ys : List D} {vs us : List V} {f1 f2 : List Addr}, Reps g Z H xs vs f1 → Reps g Z H ys us f2 → Reps g Z H (xs ++ ys) (vs ++ us) (f1 ++ f2)
  | _, _, _, _, _, _, .nil, s => s
  | _, _, _, _, _, _, .cons r t, s => by
    rw [List.append_assoc]
    exact .cons r (Reps.append t s)
theorem Reps.drop0 : ∀ {xs : List D} {vs : List V} (n : Nat), Reps g Z H xs vs [] → Reps g Z H (xs.drop n) (vs.drop n) []
  | xs, vs, 0, r => r
  | [], _, _ + 1, r => by cases r; exact .nil
  | x :: xs, _, n + 1, r => by
    generalize hf : ([] : List Addr) = f at r
    cases r with
    | cons h hs =>
      obtain ⟨e1, e2⟩ := List.append_eq_nil_iff.mp hf.symm
      subst e1 e2
      exact Reps.drop0 n hs
theorem Reps.take0 : ∀ {xs : List D} {vs : List V} (n : Nat), Reps g Z H xs vs [] → Reps g Z H (xs.take n) (vs.take n) []
  | xs, vs, 0, r => .nil
  | [], _, _ + 1, r => by cases r; exact .nil
  | x :: xs, _, n + 1, r => by
    generalize hf : ([] : List Addr) = f at r
    cases r with
    | cons h hs =>
      obtain ⟨e1, e2⟩ := List.append_eq_nil_iff.mp hf.symm
      subst e1 e2
      exact .cons (f := []) (fs := []) h (Reps.take0 n hs)
theorem Reps.to0 {xs : List D} {vs : List V} {fp : List Addr} (r : Reps g Z H xs vs fp) (c : cleanL xs = true) : Reps g Z H xs vs [] := by
  have e := r.clean c
  subst e
  exact r
theorem Rep.to0 {x : D} {v : V} {fp : List Addr} (r : Rep g Z H x v fp) (c : DI.clean x = true) : Rep g Z H x v [] := by
  have e := Rep.clean r c
  subst e
  exact r
mutual
theorem Rep.there : ∀ {d : D} {v : V} {fp : List Addr}, Rep g Z H d v fp → ∀ a ∈ fp, H a ≠ none
  | _, _, _, .non, _, h => nomatch h
  | _, _, _, .bl b, _, h => nomatch h
  | _, _, _, .int i, _, h => nomatch h
  | _, _, _, .str x, _, h => nomatch h
  | _, _, _, .tup _ hs, a, h => Reps.there hs a h
  | _, _, _, .lst e hs w, a, h => by
    rcases w with ⟨_, q⟩ | ⟨_, _, q, _⟩
    · rw [q] at h
      rcases List.mem_cons.mp h with rfl | h
      · rw [e]; exact Option.some_ne_none _
      · exact Reps.there hs a h
    · rw [q] at h; cases h
  | _, _, _, .lstR h hs, _, h' => nomatch h'
  | _, _, _, .dK e _ hs w, a, h => by
    rcases w with ⟨_, q⟩ | ⟨_, _, q, _⟩
    · rw [q] at h
      rw [List.mem_singleton.mp h, e]; exact Option.some_ne_none _
    · rw [q] at h; cases h
  | _, _, _, .dN e _ _ _ hs w, a, h => by
    rcases w with ⟨_, q⟩ | ⟨_, _, q, _⟩
    · rw [q] at h
      rw [List.mem_singleton.mp h, e]; exact Option.some_ne_none _
    · rw [q] at h; cases h
theorem Reps.there : ∀ {d : List D} {v : List V} {fp : List Addr}, Reps g Z H d v fp → ∀ a ∈ fp, H a ≠ none
  | _, _, _, .nil, _, h => nomatch h
  | _, _, _, .cons r hs, a, h => by
    rcases List.mem_append.mp h with h | h
    · exact Rep.there r a h
    · exact Reps.there hs a h
end
end
end DI
/-! DI, the operators upon data -/
namespace DI
open PySem PySem.Spec PyProof.Rows L2

section
variable {g : Gv} {Z : Addr → Prop} {H : Hp}
mutual
theorem Rep.dp : ∀ {d : D} {v : V} {fp : List Addr} {p : PyData}, Rep g Z H d v fp → py d = some p → Dp g.K H v p
  | _, _, _, _, .non, e => by cases e; exact .non
  | _, _, _, _, .bl b, e => by cases e; exact .bl b
  | _, _, _, _, .int i, e => by cases e; exact .int i
  | _, _, _, _, .str x, e => by cases e; exact .str x
  | _, _, _, _, .tup h hs, e => by
    obtain ⟨ds, e1, rfl⟩ := Option.map_eq_some_iff.mp (show (pyL _).map PyData.tuple = some _ from e)
    exact .tup h (Reps.dp hs e1)
  | _, _, _, _, .lst h hs w, e => by
    obtain ⟨ds, e1, rfl⟩ := Option.map_eq_some_iff.mp (show (pyL _).map PyData.list = some _ from e)
    exact .lst (.of h) (Reps.dp hs e1)
  | _, _, _, _, .lstR h hs, e => by
    obtain ⟨ds, e1, rfl⟩ := Option.map_eq_some_iff.mp (show (pyL _).map PyData.list = some _ from e)
    exact .lst h.sqL (Reps.dp hs e1)
  | _, _, _, _, .dK h e hs w, q => by simp [py] at q
  | _, _, _, _, .dN h e ne hk hs w, q => by simp [py] at q
theorem Reps.dp : ∀ {d : List D} {v : List V} {fp : List Addr} {p : List PyData}, Reps g Z H d v fp → pyL d = some p → DpAll g.K H v p
  | _, _, _, _, .nil, e => by cases e; exact .nil
  | _, _, _, _, .cons (x := x) (xs := xs) h hs, e => by
    have e : ((py x).bind fun d => (pyL xs).map fun ds => d :: ds) = some _ := e
    obtain ⟨d, e1, e2⟩ := Option.bind_eq_some_iff.mp e
    obtain ⟨ds, e3, rfl⟩ := Option.map_eq_some_iff.mp e2
    exact .cons (Rep.dp h e1) (Reps.dp hs e3)
end
theorem rep_own {xs : List D} {v : V} {fp : List Addr} (r : Rep g Z H (.lst true xs) v fp) : ∃ l vs fs, v = .ref l ∧ H l = some (.lst vs) ∧ Reps g Z H xs vs fs ∧ fp = l :: fs := by
  cases r with
  | lst h hs w =>
    rcases w with ⟨_, e⟩ | ⟨e, _⟩
    · exact ⟨_, _, _, rfl, h, hs, e⟩
    · cases e
theorem rep_lst' {o : Bool} {xs : List D} {v : V} {fp : List Addr} (r : Rep g Z H (.lst o xs) v fp) : ∃ a vs fs, v = .ref a ∧ SqL g.K H a vs ∧ Reps g Z H xs vs fs ∧ (∀ b ∈ fs, b ∈ fp) := by
  cases r with
  | lst h hs w => exact ⟨_, _, _, rfl, .of h, hs, w.sub⟩
  | lstR h hs => exact ⟨_, _, _, rfl, h.sqL, hs, fun _ h => nomatch h⟩
end

/-! ### lists that are tracked or known: +, *, in -/
section
variable {X : Cx}
def rCatR : R2 := fun x y H Q => ∃ l b xs zs, x = .ref l ∧ y = .ref b ∧ Rd H l (.lst xs) ∧ Rd H b (.lst zs) ∧ xs.length + zs.length ≤ sizeLine ∧ ∀ p, H p = none → Q (.ref p) (upd H p (.lst (xs ++ zs)))
theorem op_catR : OpR X (binaryOp .Add) rCatR := by
  intro pins s σ H x y v u Q I rx ry h
  obtain ⟨l, b, xs, zs, rfl, rfl, hH, hB, hz, q⟩ := h
  cases rx
  cases ry
  obtain ⟨z, its, n, r, e⟩ := hH.ok I.hok
  obtain ⟨z2, its2, n2, r2, e2⟩ := hB.ok I.hok
  have hl := r.length
  have hl2 := r2.length
  refine PySem.P.add_list e e2 ?_ (by rw [List.size_toArray, List.size_toArray]; omega)
  have ea : its.toArray ++ its2.toArray = (its ++ its2).toArray := by simp
  rw [ea]
  exact ⟨.ref _, _, I.lnew (t' := s.toks) (r.append r2) (by rw [List.length_append]; omega), rfl, q _ I.fresh⟩
def rRepR : R2 := fun x y H Q => ∃ l k xs, x = .ref l ∧ y = .int k ∧ Rd H l (.lst xs) ∧ -(2 ^ 63) ≤ k ∧ k < 2 ^ 63 ∧ xs.length * k.toNat ≤ sizeLine ∧
  ∀ p, H p = none → Q (.ref p) (upd H p (.lst (List.replicate k.toNat xs).flatten))
theorem op_repR : OpR X (binaryOp .Mult) rRepR := by
  intro pins s σ H x y v u Q I rx ry h
  obtain ⟨l, k, xs, rfl, rfl, hH, h1, h2, hz, q⟩ := h
  cases rx
  obtain ⟨t, rfl⟩ := ry
  obtain ⟨z, its, n, r, e⟩ := hH.ok I.hok
  have hl := r.length
  have hlen : its.toArray.size * k.toNat ≤ sizeLine := by rw [List.size_toArray, ← hl]; exact hz
  have hcap : ¬ its.toArray.size * k.toNat > (2 ^ 63 - 1) / 8 := by
    have : (sizeLine : Nat) ≤ (2 ^ 63 - 1) / 8 := by decide
    omega
  have hfit : ¬ (!Builtin.List.listFitsIndex k) = true := by
    rw [fitsIndex_both h1 h2]
    exact Bool.false_ne_true
  have hlong : ¬ Builtin.List.listTooLong (its.toArray.size * k.toNat) = true := by
    rw [notLongL hlen]
    exact Bool.false_ne_true
  have hnew : List.foldl (fun x1 x2 => x1 ++ x2) #[] (List.replicate (if its.toArray.isEmpty = true then 0 else k.toNat) its.toArray) = (List.replicate k.toNat its).flatten.toArray := by
    have f0 : ∀ m : Nat, List.foldl (fun x1 x2 => x1 ++ x2) #[] (List.replicate m its.toArray) = (List.replicate m its).flatten.toArray := fun m => by
      have := foldl_rep its m []
      rw [List.nil_append] at this
      exact this
    rw [f0]
    cases its with
    | nil => simp
    | cons a r' => rw [if_neg (by simp)]
  refine wpAny_binaryOp_repeat_ref (T := "list") (U := "int") (by decide) ⟨_, e, rfl⟩ (fun s' => typeIs_int s' k t) noFill_list_mul F.fills_int_mul F.slot_int_rmul repeat_list F.slot_int_index.lookup
    (call_meets F.slot_int_rmul (typeIs_int s k t) F.entry_int_rmul (F.args_int_rmul_2 _ _) (int___rmul___int_list k t l its.toArray n)
      ⟨e, rfl, ⟨_, e, rfl⟩, call_meets F.slot_list_mul ⟨_, e, rfl⟩ F.entry_list_mul (F.args_list_mul_2 _ _) (AutoListH.list___mul___list_int_3 l its.toArray n k t hfit hcap hlong) ⟨e, ?_⟩⟩)
  rw [hnew]
  exact ⟨.ref _, _, I.lnew (t' := s.toks) (r.rep k.toNat) (by rw [PyProof.Rows.lm_len_rep_flat, Nat.mul_comm]; exact hz), rfl, q _ I.fresh⟩

/-- x in a tuple of data -/
def rInT (K : PySem.W.Frag) (neg : Bool) : R2 := fun x y H Q => ∃ d ds, Dp K H x d ∧ Dp K H y (.tuple ds) ∧ SeqAt.shaped d = true ∧ SeqAt.shaped (.list ds) = true ∧ Q (.bl (if neg = true then !ds.any fun z => PyData.eqv z d else ds.any fun z => PyData.eqv z d)) H
theorem in_tup_raw (hu : X.A.units + 65 < cLine) {pins : List (Addr × Obj)} {s : Shared} {σ : L2.St} {H : Hp} {x y : V} {v u : Value} {d : PyData} {ds : List PyData} (I : Inv X pins σ H s) (rx : RelV x v) (ry : RelV y u) (hd : Dp X.K H x d) (he : Dp X.K H y (.tuple ds))
    (sd : SeqAt.shaped d = true) (se : SeqAt.shaped (.list ds) = true) : ∃ (a : Addr) (its : List Value), u = .ref a ∧ IsTup s.heap a its.toArray ∧ (∀ w ∈ its.toArray, SeqAt.EqAt X.A.in1 s w v (PyData.eqv (SeqAt.readOf s.heap w) d)) ∧ (its.toArray.any fun w => PyData.eqv (SeqAt.readOf s.heap w) d) = ds.any fun z => PyData.eqv z d := by
  cases he with
  | tup hs ha =>
    cases ry
    obtain ⟨its, rv, ht, hlen⟩ := I.tuple hs
    obtain ⟨bs, r1⟩ := Dp.reads I d x v hd rx
    obtain ⟨as, h4⟩ := Dp.readsAll I ds _ its ha rv
    have hxs : PyData.canLayAll0 ds = true := SeqAt.canLay_of_shaped se
    have hroom : X.A.units + 1 + min (PyData.depthAll ds) d.depth < cLine := room_in_shaped sd hu
    have hmap : its.map (SeqAt.readOf s.heap) = ds := SeqAt.readsAll_map ds its as hxs h4
    refine ⟨_, its, rfl, ht, SeqAt.items_eqAt (vs := its.toArray) (show ReadsAll s.heap its.toArray.toList ds as from h4) r1 hxs (SeqAt.canLay_of_shaped sd) hroom, ?_⟩
    rw [← hmap, List.any_map]
    simp [Function.comp_def]
theorem op_inT (hu : X.A.units + 65 < cLine) : OpR X (compareOp .In) (rInT X.K false) := by
  intro pins s σ H x y v u Q I rx ry h
  obtain ⟨d, ds, hd, he, sd, se, q⟩ := h
  obtain ⟨a, its, rfl, ht, hq, e⟩ := in_tup_raw hu I rx ry hd he sd se
  refine SeqAt.in_tupleAt _ ht hq ⟨.bl _, H, I, rfl, ?_⟩
  rw [e]
  exact q
theorem op_notInT (hu : X.A.units + 65 < cLine) : OpR X (compareOp .NotIn) (rInT X.K true) := by
  intro pins s σ H x y v u Q I rx ry h
  obtain ⟨d, ds, hd, he, sd, se, q⟩ := h
  obtain ⟨a, its, rfl, ht, hq, e⟩ := in_tup_raw hu I rx ry hd he sd se
  refine SeqAt.notIn_tupleAt _ ht hq ⟨.bl _, H, I, rfl, ?_⟩
  rw [e]
  exact q
end

/-! ### the operators' data -/
section
variable {X : Cx} {g : Gv} {W : L2.WX}
theorem cleanL_append {xs ys : List D} (a : cleanL xs = true) (b : cleanL ys = true) : cleanL (xs ++ ys) = true := by
  rw [cleanL_all] at a b ⊢
  rw [List.all_append, a, b]
  rfl
theorem reps_rep {Z : Addr → Prop} {H : Hp} {xs : List D} {vs : List V} (r : Reps g Z H xs vs []) : ∀ k : Nat, Reps g Z H (List.replicate k xs).flatten (List.replicate k vs).flatten []
  | 0 => .nil
  | k + 1 => by
    rw [List.replicate_succ, List.replicate_succ, List.flatten_cons, List.flatten_cons]
    exact r.append (reps_rep r k)
theorem own_new {Z : Addr → Prop} {p : Addr} : OwnP Z true p [] [p] := .inl ⟨rfl, rfl⟩
def rAddD (K : PySem.W.Frag) : R2 := fun x y H Q => (rI0 fun i j => .int (i + j)) x y H Q ∨ ((∃ i j, x = .str i ∧ y = .str j ∧ i.length + j.length ≤ sizeLine ∧ Q (.str (i ++ j)) H) ∨ (rCatR x y H Q ∨ rCatA K x y H Q))
theorem opr_add : OpR X (binaryOp .Add) (rAddD X.K) := op_add.or (op_add_str.or (op_catR.or op_catA))
theorem opd_add : OpD g W true (rAddD g.K) (binD .add) := by
  intro Z σ H x y v u fx fy Q hz rx ry o
  cases x with
  | int i =>
    cases y with
    | int j =>
      obtain ⟨rfl, _⟩ := rep_int rx
      obtain ⟨rfl, _⟩ := rep_int ry
      exact .inl ⟨i, j, rfl, rfl, o _ H Z [] (post_sc hz (.int _))⟩
    | _ => exact o.elim
  | str i =>
    cases y with
    | str j =>
      obtain ⟨rfl, _⟩ := rep_str rx
      obtain ⟨rfl, _⟩ := rep_str ry
      obtain ⟨hl, o⟩ := Out.guard o
      exact .inr (.inl ⟨i, j, rfl, rfl, hl, o _ H Z [] (post_sc hz (.str _))⟩)
    | _ => exact o.elim
  | lst o1 xs =>
    cases y with
    | lst o2 ys =>
      cases o1 with
      | false => exact o.elim
      | true =>
      cases o2 with
      | false => exact o.elim
      | true =>
      obtain ⟨hl, o⟩ := Out.guard o
      obtain ⟨a, vs, f1, rfl, h1, r1, _⟩ := rep_own rx
      obtain ⟨b, us, f2, rfl, h2, r2, _⟩ := rep_own ry
      obtain ⟨hc, hn⟩ := hl
      rw [Bool.and_eq_true] at hc
      have c1 := r1.to0 hc.1
      have c2 := r2.to0 hc.2
      refine .inr (.inr (.inl ⟨a, b, vs, us, rfl, rfl, .inl h1, .inl h2, by rw [← r1.length, ← r2.length]; exact hn, fun p hp => o _ _ Z [p] (post_new hz hp ?_ (.inr rfl))⟩))
      exact .lst upd_same ((c1.append c2).same (fun _ z => z) (same_upd hp)) own_new
    | _ => cases o1 <;> exact o.elim
  | tup xs =>
    cases y with
    | tup ys =>
      obtain ⟨hl, o⟩ := Out.guard o
      obtain ⟨a, vs, rfl, h1, r1⟩ := rep_tup rx
      obtain ⟨b, us, rfl, h2, r2⟩ := rep_tup ry
      obtain ⟨hc, hn⟩ := hl
      rw [Bool.and_eq_true] at hc
      have c1 := r1.to0 hc.1
      have c2 := r2.to0 hc.2
      have c3 := c1.append c2
      refine .inr (.inr (.inr ⟨a, b, vs, us, rfl, rfl, h1, h2, by rw [← r1.length, ← r2.length]; exact hn, fun e => ?_, fun _ e => ?_, fun _ _ p hp => ?_⟩))
      · subst e
        refine o _ H Z [] (post_sc hz (.tup h2 ?_))
        cases c1
        exact c2
      · subst e
        refine o _ H Z [] (post_sc hz (.tup h1 ?_))
        cases c2
        rw [List.append_nil]
        exact c1
      · exact o _ _ Z [] (post_new hz hp (.tup (.of upd_same) (c3.same (fun _ z => z) (same_upd hp))) (.inl rfl))
    | _ => exact o.elim
  | _ => exact o.elim
theorem opd_sub : OpD g W true (rI0 fun i j => .int (i - j)) (binD .sub) := by
  intro Z σ H x y v u fx fy Q hz rx ry o
  cases x with
  | int i =>
    cases y with
    | int j =>
      obtain ⟨rfl, _⟩ := rep_int rx
      obtain ⟨rfl, _⟩ := rep_int ry
      exact ⟨i, j, rfl, rfl, o _ H Z [] (post_sc hz (.int _))⟩
    | _ => exact o.elim
  | _ => exact o.elim
def rMulD : R2 := fun x y H Q => rI CMul (fun i j => .int (i * j)) x y H Q ∨ rRepR x y H Q
theorem opr_mul : OpR X (binaryOp .Mult) rMulD := op_mul.or op_repR
theorem cmul_of {i j : Int} (h : (small64 i || small64 j) = true) : CMul i j := by
  unfold small64 at h
  simp only [Bool.or_eq_true, Bool.and_eq_true, decide_eq_true_eq, lim64_eq] at h
  exact h
theorem opd_mul : OpD g W true rMulD (binD .mul) := by
  intro Z σ H x y v u fx fy Q hz rx ry o
  cases x with
  | int i =>
    cases y with
    | int j =>
      obtain ⟨rfl, _⟩ := rep_int rx
      obtain ⟨rfl, _⟩ := rep_int ry
      obtain ⟨hl, o⟩ := Out.guard o
      exact .inl ⟨i, j, rfl, rfl, cmul_of hl, o _ H Z [] (post_sc hz (.int _))⟩
    | _ => exact o.elim
  | lst o1 xs =>
    cases y with
    | int k =>
      cases o1 with
      | false => exact o.elim
      | true =>
      obtain ⟨hl, o⟩ := Out.guard o
      obtain ⟨hc, h12, h3⟩ := hl
      unfold small62 at h12
      simp only [Bool.and_eq_true, decide_eq_true_eq, lim62_eq] at h12
      obtain ⟨h1, h2⟩ := h12
      obtain ⟨a, vs, f1, rfl, hr, r1, _⟩ := rep_own rx
      obtain ⟨rfl, _⟩ := rep_int ry
      refine .inr ⟨a, k, vs, rfl, rfl, .inl hr, by omega, by omega, by rw [← r1.length]; exact h3, fun p hp => o _ _ Z [p] (post_new hz hp ?_ (.inr rfl))⟩
      exact .lst upd_same ((reps_rep (r1.to0 hc) k.toNat).same (fun _ z => z) (same_upd hp)) own_new
    | _ => cases o1 <;> exact o.elim
  | _ => exact o.elim
theorem opd_fdiv : OpD g W true (rI CDivW fun i j => .int (i / j)) (binD .fdiv) := by
  intro Z σ H x y v u fx fy Q hz rx ry o
  cases x with
  | int i =>
    cases y with
    | int j =>
      obtain ⟨rfl, _⟩ := rep_int rx
      obtain ⟨rfl, _⟩ := rep_int ry
      obtain ⟨hl, o⟩ := Out.guard o
      exact ⟨i, j, rfl, rfl, hl, o _ H Z [] (post_sc hz (.int _))⟩
    | _ => exact o.elim
  | _ => exact o.elim
theorem opd_mod : OpD g W true (rI (fun _ j => 0 < j) fun i j => .int (i % j)) (binD .mod) := by
  intro Z σ H x y v u fx fy Q hz rx ry o
  cases x with
  | int i =>
    cases y with
    | int j =>
      obtain ⟨rfl, _⟩ := rep_int rx
      obtain ⟨rfl, _⟩ := rep_int ry
      obtain ⟨hl, o⟩ := Out.guard o
      exact ⟨i, j, rfl, rfl, hl, o _ H Z [] (post_sc hz (.int _))⟩
    | _ => exact o.elim
  | _ => exact o.elim
theorem opd_pow : OpD g W true (rI CPow fun i j => .int (i ^ j.toNat)) (binD .pow) := by
  intro Z σ H x y v u fx fy Q hz rx ry o
  cases x with
  | int i =>
    cases y with
    | int j =>
      obtain ⟨rfl, _⟩ := rep_int rx
      obtain ⟨rfl, _⟩ := rep_int ry
      obtain ⟨hl, o⟩ := Out.guard o
      exact ⟨i, j, rfl, rfl, hl, o _ H Z [] (post_sc hz (.int _))⟩
    | _ => exact o.elim
  | _ => exact o.elim
end
end DI
/-! DI, dicts -/
namespace DI
open PySem PySem.Spec PyProof.Rows L2

/-! ### lists of pairs -/
section
variable {α : Type}
theorem find_map_some {kvs : List (NestedKey × D)} {k : NestedKey} : (dget kvs k).isSome = kvs.any fun p => decide (p.1 = k) := by
  unfold dget
  rw [Option.isSome_map, Bool.eq_iff_iff, List.any_eq_true, List.find?_isSome]
end
section
variable {g : Gv} {Z : Addr → Prop} {H : Hp}

/-- nested keys' entries: what a table of triples holds -/
def atN (xs : List (NestedKey × Addr × V)) (k : NestedKey) : Option V := (xs.find? fun p => decide (p.1 = k)).map (·.2.2)
def putN (xs : List (NestedKey × Addr × V)) (k : NestedKey) (b : Addr) (v : V) : List (NestedKey × Addr × V) :=
  if (xs.any fun p => decide (p.1 = k)) = true then xs.map (fun p => if p.1 = k then (p.1, p.2.1, v) else p) else xs ++ [(k, b, v)]
abbrev PN : List (NestedKey × Addr × V) → List (NestedKey × Addr × Value) → Prop := Paired fun p q => p.1 = q.1 ∧ p.2.1 = q.2.1 ∧ RelV p.2.2 q.2.2
theorem PN.val {xs : List (NestedKey × Addr × V)} {ys : List (NestedKey × Addr × Value)} (r : PN xs ys) (k : NestedKey) : RelO (atN xs k) ((atKey ys k).map (·.2)) := by
  induction r with
  | nil => exact True.intro
  | @cons p q ps qs h t ih =>
    obtain ⟨h1, _, h2⟩ := h
    by_cases e : p.1 = k
    · have e' : q.1 = k := h1.symm.trans e
      have b : atKey (q :: qs) k = some q.2 := by simp [atKey, List.find?_cons, e']
      have c : atN (p :: ps) k = some p.2.2 := by simp [atN, List.find?_cons, e]
      rw [b, c]; exact h2
    · have e' : ¬ q.1 = k := fun z => e (h1.trans z)
      have b : atKey (q :: qs) k = atKey qs k := by simp [atKey, List.find?_cons, e']
      have c : atN (p :: ps) k = atN ps k := by simp [atN, List.find?_cons, e]
      rw [b, c]; exact ih
theorem PN.any {xs : List (NestedKey × Addr × V)} {ys : List (NestedKey × Addr × Value)} (r : PN xs ys) (k : NestedKey) : (xs.any fun p => decide (p.1 = k)) = (atKey ys k).isSome := by
  have h := (r.val k).isSome_eq
  rw [Option.isSome_map] at h
  rw [← h]
  unfold atN
  rw [Option.isSome_map, Bool.eq_iff_iff, List.any_eq_true, List.find?_isSome]
theorem PN.keys {xs : List (NestedKey × Addr × V)} {ys : List (NestedKey × Addr × Value)} (r : PN xs ys) : ys.map (·.1) = xs.map (·.1) := by
  induction r with
  | nil => rfl
  | cons hq t ih => rw [List.map_cons, List.map_cons, ih, hq.1]
theorem PN.length {xs : List (NestedKey × Addr × V)} {ys : List (NestedKey × Addr × Value)} (r : PN xs ys) : xs.length = ys.length := Paired.length r
theorem PN.repl {xs : List (NestedKey × Addr × V)} {ys : List (NestedKey × Addr × Value)} (r : PN xs ys) (k : NestedKey) {y : V} {u : Value} (ry : RelV y u) :
    PN (xs.map fun p => if p.1 = k then (p.1, p.2.1, y) else p) (ys.map (putAt k u)) := by
  induction r with
  | nil => exact .nil
  | @cons p q ps qs h t ih =>
    rw [List.map_cons, List.map_cons]
    refine .cons ?_ ih
    obtain ⟨h1, h2, h3⟩ := h
    unfold putAt
    by_cases e : p.1 = k
    · rw [if_pos e, if_pos (h1.symm.trans e)]; exact ⟨h1, h2, ry⟩
    · rw [if_neg e, if_neg (fun z => e (h1.trans z))]; exact ⟨h1, h2, h3⟩
theorem PN.put {xs : List (NestedKey × Addr × V)} {ys : List (NestedKey × Addr × Value)} (r : PN xs ys) (k : NestedKey) {b : Addr} {y : V} {u : Value} (ry : RelV y u) : PN (putN xs k b y) (storedH ys k b u) := by
  unfold putN storedH
  rw [r.any k]
  by_cases q : (atKey ys k).isSome = true
  · rw [if_pos q, if_pos q]; exact r.repl k ry
  · rw [if_neg q, if_neg q]; exact Paired.snoc r ⟨rfl, rfl, ry⟩

/-- the table's data -/
theorem reps_find {kvs : List (NestedKey × D)} {ws : List V} (r : Reps g Z H (kvs.map (·.2)) ws []) : ∀ {ks : List NestedKey}, ks = kvs.map (·.1) → ∀ (k : NestedKey),
    (match dget kvs k with | some d => ∃ v, ((ks.zip ws).find? fun p => decide (p.1 = k)).map (·.2) = some v ∧ Rep g Z H d v [] | none => ((ks.zip ws).find? fun p => decide (p.1 = k)) = none) := by
  induction kvs generalizing ws with
  | nil =>
    intro ks e k
    subst e
    simp [dget]
  | cons p r' ih =>
    intro ks e k
    subst e
    rw [List.map_cons] at r
    generalize hf : ([] : List Addr) = fp at r
    cases r with
    | cons h hs =>
      obtain ⟨e1, e2⟩ := List.append_eq_nil_iff.mp hf.symm
      subst e1 e2
      by_cases e : p.1 = k
      · have c : dget (p :: r') k = some p.2 := by simp [dget, List.find?_cons, e]
        rw [c]
        refine ⟨_, ?_, h⟩
        simp [List.find?_cons, e]
      · have c : dget (p :: r') k = dget r' k := by simp [dget, List.find?_cons, e]
        rw [c]
        have := ih hs rfl k
        simpa [List.find?_cons, e] using this
theorem zip_find_K {kv : List (Key × V)} : ∀ (q : Key), (((kv.map fun p => nk p.1).zip (kv.map (·.2))).find? fun p => decide (p.1 = nk q)).map (·.2) = valV kv q := by
  induction kv with
  | nil => intro q; rfl
  | cons p r ih =>
    intro q
    rw [List.map_cons, List.map_cons, List.zip_cons_cons]
    by_cases e : p.1 = q
    · rw [valV_pos e]; simp [List.find?_cons, e]
    · have e' : ¬ nk p.1 = nk q := fun z => e (by
        cases h1 : p.1 <;> cases h2 : q <;> rw [h1, h2] at z <;> simp [nk] at z <;> rw [z])
      rw [valV_neg e, List.find?_cons]
      simp only [decide_eq_false e']
      exact ih q
theorem zip_find_N {xs : List (NestedKey × Addr × V)} : ∀ (k : NestedKey), (((xs.map (·.1)).zip (xs.map (·.2.2))).find? fun p => decide (p.1 = k)).map (·.2) = atN xs k := by
  induction xs with
  | nil => intro q; rfl
  | cons p r ih =>
    intro k
    rw [List.map_cons, List.map_cons, List.zip_cons_cons]
    by_cases e : p.1 = k
    · simp [atN, List.find?_cons, e]
    · have := ih k
      simp only [atN] at this ⊢
      simpa [List.find?_cons, e] using this
theorem dget_K {kv : List (Key × V)} {kvs : List (NestedKey × D)} (e : (kv.map fun p => nk p.1) = kvs.map (·.1)) (r : Reps g Z H (kvs.map (·.2)) (kv.map (·.2)) []) (q : Key) :
    match dget kvs (nk q) with | some d => ∃ v, valV kv q = some v ∧ Rep g Z H d v [] | none => valV kv q = none := by
  have h := reps_find r e (nk q)
  cases hd : dget kvs (nk q) with
  | some d =>
    rw [hd] at h
    obtain ⟨v, h1, h2⟩ := h
    exact ⟨v, by rw [← zip_find_K]; exact h1, h2⟩
  | none =>
    rw [hd] at h
    show valV kv q = none
    rw [← zip_find_K, show (((kv.map fun p => nk p.1).zip (kv.map (·.2))).find? fun p => decide (p.1 = nk q)) = none from h]
    rfl
theorem dget_N {xs : List (NestedKey × Addr × V)} {kvs : List (NestedKey × D)} (e : xs.map (·.1) = kvs.map (·.1)) (r : Reps g Z H (kvs.map (·.2)) (xs.map (·.2.2)) []) (k : NestedKey) :
    match dget kvs k with | some d => ∃ v, atN xs k = some v ∧ Rep g Z H d v [] | none => atN xs k = none := by
  have h := reps_find r e k
  cases hd : dget kvs k with
  | some d =>
    rw [hd] at h
    obtain ⟨v, h1, h2⟩ := h
    exact ⟨v, by rw [← zip_find_N]; exact h1, h2⟩
  | none =>
    rw [hd] at h
    show atN xs k = none
    rw [← zip_find_N, show (((xs.map (·.1)).zip (xs.map (·.2.2))).find? fun p => decide (p.1 = k)) = none from h]
    rfl
end

/-! ### keys -/
section
variable {g : Gv} {Z : Addr → Prop} {H : Hp}
mutual
theorem Rep.krep : ∀ {d : D} {v : V} {fp : List Addr} {k : NestedKey}, Rep g Z H d v fp → key d = some k → KRep g.K H k v
  | _, _, _, _, .non, e => by cases e; exact .none
  | _, _, _, _, .bl b, e => by cases e; exact .bool b
  | _, _, _, _, .int i, e => by cases e; exact .num i
  | _, _, _, _, .str x, e => by cases e; exact .text x
  | _, _, _, _, .tup h hs, e => by
    obtain ⟨ds, e1, rfl⟩ := Option.map_eq_some_iff.mp (show (keyL _).map NestedKey.tup = some _ from e)
    exact .tup h (Reps.krep hs e1)
  | _, _, _, _, .lst h hs w, e => by simp [key] at e
  | _, _, _, _, .lstR h hs, e => by simp [key] at e
  | _, _, _, _, .dK h e hs w, q => by simp [key] at q
  | _, _, _, _, .dN h e ne hk hs w, q => by simp [key] at q
theorem Reps.krep : ∀ {d : List D} {v : List V} {fp : List Addr} {k : List NestedKey}, Reps g Z H d v fp → keyL d = some k → KReps g.K H k v
  | _, _, _, _, .nil, e => by cases e; exact .nil
  | _, _, _, _, .cons (x := x) (xs := xs) h hs, e => by
    have e : ((key x).bind fun d => (keyL xs).map fun ds => d :: ds) = some _ := e
    obtain ⟨d, e1, e2⟩ := Option.bind_eq_some_iff.mp e
    obtain ⟨ds, e3, rfl⟩ := Option.map_eq_some_iff.mp e2
    exact .cons (Rep.krep h e1) (Reps.krep hs e3)
end
mutual
theorem KRep.is {X : Cx} {pins : List (Addr × Obj)} {σ : L2.St} {s : Shared} (I : Inv X pins σ H s) : ∀ {k : NestedKey} {v : V} {u : Value}, KRep X.K H k v → RelV v u → NestedIs s.heap k u
  | _, _, _, .none, r => by cases r; exact .none
  | _, _, _, .num i, r => by obtain ⟨t, rfl⟩ := r; exact .int i t
  | _, _, _, .bool b, r => by cases r; exact .bool rfl
  | _, _, _, .text x, r => by obtain ⟨t, rfl⟩ := r; exact .text x t
  | _, _, _, .tup h hs, r => by
    cases r
    obtain ⟨its, rv, ⟨o, ho, hc, n, hd⟩, _⟩ := I.tuple h
    exact .tup ho hc hd (KReps.is I hs rv)
theorem KReps.is {X : Cx} {pins : List (Addr × Obj)} {σ : L2.St} {s : Shared} (I : Inv X pins σ H s) : ∀ {k : List NestedKey} {v : List V} {u : List Value}, KReps X.K H k v → Vals v u → NestedAll s.heap k u
  | _, _, _, .nil, r => by cases r; exact .nil
  | _, _, _, .cons h hs, r => by
    cases r with
    | cons r1 r2 => exact .cons (KRep.is I h r1) (KReps.is I hs r2)
end
/-- what a key's check says -/
theorem keyIn_ok {x : D} {kvs : List (NestedKey × D)} {k : NestedKey} (h : keyIn x kvs = .ok k) : key x = some k ∧
    ((isLeafKey k = true ∧ leafD x = true ∧ ∀ p ∈ kvs, isLeafKey p.1 = true) ∨ (isTupKey k = true ∧ k.depth ≤ 8 ∧ ∀ p ∈ kvs, isTupKey p.1 = true)) := by
  unfold keyIn at h
  cases e : key x with
  | none => rw [e] at h; cases h
  | some k' =>
    rw [e] at h
    simp only at h
    split at h
    · rename_i hc
      cases h
      refine ⟨rfl, ?_⟩
      unfold keysWith at hc
      simp only [Bool.and_eq_true, Bool.or_eq_true, List.all_eq_true, decide_eq_true_eq] at hc
      obtain ⟨h1, h2⟩ := hc
      rcases h1 with ⟨a, b⟩ | ⟨⟨a, b⟩, c⟩
      · rcases h2 with h2 | h2
        · cases k <;> simp [isLeafKey, isTupKey] at a h2
        · exact .inl ⟨a, h2, b⟩
      · exact .inr ⟨a, b, c⟩
    · cases h
theorem keyIn_err {x : D} {kvs : List (NestedKey × D)} : ∀ c fs, keyIn x kvs ≠ .err c fs := fun c fs h => by
  unfold keyIn at h
  split at h
  · split at h <;> cases h
  · cases h
theorem leaf_rep {x : D} {v : V} {fp : List Addr} {k : NestedKey} (r : Rep g Z H x v fp) (hk : key x = some k) (hl : leafD x = true) : ∃ q, k = nk q ∧ v = kV q := by
  cases r with
  | int i => cases hk; exact ⟨.inl i, rfl, rfl⟩
  | str i => cases hk; exact ⟨.inr i, rfl, rfl⟩
  | _ => simp [leafD] at hl
theorem tup_rep {x : D} {v : V} {fp : List Addr} {k : NestedKey} (r : Rep g Z H x v fp) (hk : key x = some k) (hl : isTupKey k = true) : ∃ b, v = .ref b := by
  cases r with
  | tup h hs => exact ⟨_, rfl⟩
  | non => cases hk; simp [isTupKey] at hl
  | bl b => cases hk; simp [isTupKey] at hl
  | int b => cases hk; simp [isTupKey] at hl
  | str b => cases hk; simp [isTupKey] at hl
  | _ => simp [key] at hk
end

/-! ### a dict with nested keys, in the real heap -/
/-- the dict at a, by its triples -/
structure NV (g : Gv) (Z : Addr → Prop) (H : Hp) (h : Heap) (a : Addr) (kvs : List (NestedKey × D)) (xs : List (NestedKey × Addr × V)) (ys : List (NestedKey × Addr × Value)) : Prop where
  keys : xs.map (·.1) = kvs.map (·.1)
  krep : ∀ p ∈ xs, KRep g.K H p.1 (.ref p.2.1) ∧ p.1.depth ≤ 8
  vals : Reps g Z H (kvs.map (·.2)) (xs.map (·.2.2)) []
  pair : PN xs ys
  dict : h.DictOfH (nestedKind g.P g.w) a ys
  len : xs.length ≤ sizeLine
  nosys : (a == sysModules) = false
section
variable {X : Cx} {g : Gv} {Z : Addr → Prop} {H : Hp} {pins : List (Addr × Obj)} {σ : L2.St} {s : Shared}
theorem nv_of (G : Gof g X) (I : Inv X pins σ H s) {o : Bool} {kvs : List (NestedKey × D)} {v : V} {fp : List Addr} (r : Rep g Z H (.dct o kvs) v fp) (ht : ∀ p ∈ kvs, isTupKey p.1 = true) :
    ∃ a xs ys, v = .ref a ∧ NV g Z H s.heap a kvs xs ys ∧ Mut (H a) := by
  cases r with
  | @dK a kv _ _ _ h e hs w =>
    have ek : kvs = [] := by
      cases kvs with
      | nil => rfl
      | cons p r =>
        cases kv with
        | nil => simp at e
        | cons q r' =>
          rw [List.map_cons, List.map_cons] at e
          have e1 : nk q.1 = p.1 := (List.cons.inj e).1
          have := ht p List.mem_cons_self
          rw [← e1] at this
          cases hq : q.1 <;> rw [hq] at this <;> simp [nk, isTupKey] at this
    subst ek
    have ev : kv = [] := by simpa using e
    subst ev
    obtain ⟨z, hd, vs, rel, ob, es, ep, h1, h2, h3, h4⟩ := dk_of I.hok h
    cases rel
    have hes : es.toList = [] := by
      obtain ⟨_, hp, _⟩ := h4
      generalize es.toList = l at hp ⊢
      cases hp
      rfl
    exact ⟨a, [], [], rfl, ⟨rfl, (fun p hp => nomatch hp), .nil, .nil, ⟨ob, es, ep, h1, h2, h3, hes, (fun x hx => nomatch hx), List.nodup_nil⟩, Nat.zero_le _, hd⟩, by rw [h]; exact True.intro⟩
  | @dN a xs _ _ _ h e ne hk hs w =>
    obtain ⟨⟨hl, hd, hn, ys, hp, ob, es, ep, h1, h2, h3, h4⟩, _⟩ := I.hok a _ h
    rw [G.P.symm, G.w.symm] at h4
    refine ⟨a, xs, ys, rfl, ⟨e, hk, hs, hp, ⟨ob, es, ep, h1, h2, h3, by rw [← G.P, ← G.w]; exact h4, fun x hx => ?_, ?_⟩, hl, hd⟩, by rw [h]; exact True.intro⟩
    · have all : ∀ {l : List (NestedKey × Addr × V)} {m : List (NestedKey × Addr × Value)}, PN l m → (∀ p ∈ l, KRep g.K H p.1 (.ref p.2.1) ∧ p.1.depth ≤ 8) → ∀ x ∈ m, (nestedKind g.P g.w).is s.heap x.1 x.2.1 := by
        intro l m q
        induction q with
        | nil => intro _ x hx; exact nomatch hx
        | @cons p q ps qs hq t ih =>
          intro hk x hx
          rcases List.mem_cons.mp hx with e | hx
          · subst e
            obtain ⟨k1, k2⟩ := hk p List.mem_cons_self
            refine ⟨?_, by rw [← hq.1]; exact k2⟩
            rw [← hq.1, ← hq.2.1]
            exact KRep.is (v := .ref p.2.1) (u := .ref p.2.1) I (by rw [G.K]; exact k1) rfl
          · exact ih (fun p hp => hk p (List.mem_cons_of_mem _ hp)) x hx
      exact all hp hk x hx
    · have em : ys.map (·.1) = xs.map (·.1) := PN.keys hp
      rw [em]
      exact hn
/-- what is found there -/
theorem NV.look {h : Heap} {a : Addr} {kvs : List (NestedKey × D)} {xs : List (NestedKey × Addr × V)} {ys : List (NestedKey × Addr × Value)} (n : NV g Z H h a kvs xs ys) (k : NestedKey) :
    match dget kvs k with | some d => ∃ v p, atKey ys k = some p ∧ RelV v p.2 ∧ Rep g Z H d v [] | none => atKey ys k = none := by
  have h1 := dget_N n.keys n.vals k
  have h2 := n.pair.val k
  cases hd : dget kvs k with
  | some d =>
    rw [hd] at h1
    obtain ⟨v, e, r⟩ := h1
    rw [e] at h2
    cases hk : atKey ys k with
    | none => rw [hk] at h2; exact h2.elim
    | some p => rw [hk] at h2; exact ⟨v, p, rfl, h2, r⟩
  | none =>
    rw [hd] at h1
    have h1 : atN xs k = none := h1
    rw [h1] at h2
    cases hk : atKey ys k with
    | none => rfl
    | some p => rw [hk] at h2; exact h2.elim
theorem NV.isSome {h : Heap} {a : Addr} {kvs : List (NestedKey × D)} {xs : List (NestedKey × Addr × V)} {ys : List (NestedKey × Addr × Value)} (n : NV g Z H h a kvs xs ys) (k : NestedKey) : (atKey ys k).isSome = (dget kvs k).isSome := by
  have h1 := n.look k
  cases hd : dget kvs k with
  | some d =>
    rw [hd] at h1
    obtain ⟨v, p, e, _⟩ := h1
    rw [e]; rfl
  | none =>
    rw [hd] at h1
    rw [show atKey ys k = none from h1]; rfl
end

/-! ### in, not in, d[k] by the data -/
section
variable {X : Cx} {g : Gv} {Z : Addr → Prop} {H : Hp} {pins : List (Addr × Obj)} {σ : L2.St} {s : Shared} {A : Around} {E : Value → Shared → Prop}
/-- the key, the dict, at their values -/
structure DV (g : Gv) (Z : Addr → Prop) (H : Hp) (x : D) (kvs : List (NestedKey × D)) (k : NestedKey) (y d : V) : Prop where
  key : ∃ fp, Rep g Z H x y fp
  dict : ∃ o fp, Rep g Z H (.dct o kvs) d fp
  ok : keyIn x kvs = .ok k
theorem dv_leaf {x : D} {kvs : List (NestedKey × D)} {k : NestedKey} {y d : V} (I : Inv X pins σ H s) (v : DV g Z H x kvs k y d) (hl : isLeafKey k = true) (hx : leafD x = true) (ha : ∀ p ∈ kvs, isLeafKey p.1 = true) :
    ∃ a kv q o fp, d = .ref a ∧ H a = some (.dK kv) ∧ k = nk q ∧ y = kV q ∧ (kv.map fun p => nk p.1) = kvs.map (·.1) ∧ Reps g Z H (kvs.map (·.2)) (kv.map (·.2)) [] ∧ OwnP Z o a [] fp := by
  obtain ⟨⟨fp, ry⟩, ⟨o, fq, rd⟩, ok⟩ := v
  obtain ⟨hk, _⟩ := keyIn_ok ok
  obtain ⟨q, e1, e2⟩ := leaf_rep ry hk hx
  cases rd with
  | dK h e hs w => exact ⟨_, _, q, _, _, rfl, h, e1, e2, e, hs, w⟩
  | @dN a xs _ _ _ h e ne hk' hs w =>
    exfalso
    cases xs with
    | nil => exact ne rfl
    | cons p r =>
      have e3 : p.1 ∈ kvs.map (·.1) := by rw [← e]; exact List.mem_map.mpr ⟨p, List.mem_cons_self, rfl⟩
      obtain ⟨q', hq, e4⟩ := List.mem_map.mp e3
      have l1 := ha q' hq
      rw [e4] at l1
      have l2 := (hk' p List.mem_cons_self).1
      generalize hv : V.ref p.2.1 = vv at l2
      generalize hp1 : p.1 = kk at l1 l2
      cases l2 <;> simp [isLeafKey] at l1 <;> cases hv
theorem dct_in (hu : A.units + 70 < cLine) (G : Gof g X) (I : Inv X pins σ H s) {x : D} {kvs : List (NestedKey × D)} {k : NestedKey} {y d : V} {u r : Value} {Q : Value → Shared → Prop} (v : DV g Z H x kvs k y d) (ry : RelV y u) (rd : RelV d r)
    (h : ∀ s', Inv X pins σ H s' → Q (.bool (dget kvs k).isSome) s') : wpAny (model X.prog X.w) A (compareOp .In u r) Q E s := by
  rcases (keyIn_ok v.ok).2 with ⟨hl, hx, ha⟩ | ⟨ht, hd8, ha⟩
  · obtain ⟨a, kv, q, o, fp, rfl, ha', e1, rfl, ek, rv, _⟩ := dv_leaf I v hl hx ha
    cases rd
    refine d_in (by omega) I (DGet.k (k := q) ha') ry fun s' I' => ?_
    have hq := dget_K ek rv q
    rw [e1] at h
    have e2 : (valV kv q).isSome = (dget kvs (nk q)).isSome := by
      cases hdg : dget kvs (nk q) with
      | some d => rw [hdg] at hq; obtain ⟨v', e3, _⟩ := hq; rw [e3]; rfl
      | none => rw [hdg] at hq; rw [show valV kv q = none from hq]; rfl
    rw [e2]
    exact h s' I'
  · obtain ⟨fq, rk⟩ := v.key
    obtain ⟨o, fp, rdd⟩ := v.dict
    have hk := (keyIn_ok v.ok).1
    obtain ⟨b, rfl⟩ := tup_rep rk hk ht
    obtain ⟨a, xs, ys, rfl, nv, _⟩ := nv_of G I rdd ha
    cases rd
    cases ry
    rw [← nv.isSome k] at h
    have hkey : (nestedKind X.prog X.w).is s.heap k b := ⟨KRep.is (v := .ref b) (u := .ref b) I (by rw [G.K]; exact rk.krep hk) rfl, hd8⟩
    refine wpAny_in_heap (knd := nestedKind X.prog X.w) (show A.units + 1 + 8 < cLine by omega) hkey nv.nosys (by rw [G.P, G.w]; exact nv.dict) (h _ (I.tok _))
theorem dct_notIn (hu : A.units + 70 < cLine) (G : Gof g X) (I : Inv X pins σ H s) {x : D} {kvs : List (NestedKey × D)} {k : NestedKey} {y d : V} {u r : Value} {Q : Value → Shared → Prop} (v : DV g Z H x kvs k y d) (ry : RelV y u) (rd : RelV d r)
    (h : ∀ s', Inv X pins σ H s' → Q (.bool (!(dget kvs k).isSome)) s') : wpAny (model X.prog X.w) A (compareOp .NotIn u r) Q E s := by
  rcases (keyIn_ok v.ok).2 with ⟨hl, hx, ha⟩ | ⟨ht, hd8, ha⟩
  · obtain ⟨a, kv, q, o, fp, rfl, ha', e1, rfl, ek, rv, _⟩ := dv_leaf I v hl hx ha
    cases rd
    refine d_notIn (by omega) I (DGet.k (k := q) ha') ry fun s' I' => ?_
    have hq := dget_K ek rv q
    rw [e1] at h
    have e2 : (valV kv q).isSome = (dget kvs (nk q)).isSome := by
      cases hdg : dget kvs (nk q) with
      | some d => rw [hdg] at hq; obtain ⟨v', e3, _⟩ := hq; rw [e3]; rfl
      | none => rw [hdg] at hq; rw [show valV kv q = none from hq]; rfl
    rw [e2]
    exact h s' I'
  · obtain ⟨fq, rk⟩ := v.key
    obtain ⟨o, fp, rdd⟩ := v.dict
    have hk := (keyIn_ok v.ok).1
    obtain ⟨b, rfl⟩ := tup_rep rk hk ht
    obtain ⟨a, xs, ys, rfl, nv, _⟩ := nv_of G I rdd ha
    cases rd
    cases ry
    rw [← nv.isSome k] at h
    have hkey : (nestedKind X.prog X.w).is s.heap k b := ⟨KRep.is (v := .ref b) (u := .ref b) I (by rw [G.K]; exact rk.krep hk) rfl, hd8⟩
    refine wpAny_notIn_heap (knd := nestedKind X.prog X.w) (show A.units + 1 + 8 < cLine by omega) hkey nv.nosys (by rw [G.P, G.w]; exact nv.dict) (h _ (I.tok _))
theorem dct_get (hu : A.units + 70 < cLine) (G : Gof g X) (I : Inv X pins σ H s) {x z : D} {kvs : List (NestedKey × D)} {k : NestedKey} {y d : V} {u r : Value} {Q : Value → Shared → Prop} (v : DV g Z H x kvs k y d) (ry : RelV y u) (rd : RelV d r)
    (hz : dget kvs k = some z) (h : ∀ s' v' u', Inv X pins σ H s' → Rep g Z H z v' [] → RelV v' u' → Q u' s') : wpAny (model X.prog X.w) A (getItem r u) Q E s := by
  rcases (keyIn_ok v.ok).2 with ⟨hl, hx, ha⟩ | ⟨ht, hd8, ha⟩
  · obtain ⟨a, kv, q, o, fp, rfl, ha', e1, rfl, ek, rv, _⟩ := dv_leaf I v hl hx ha
    cases rd
    have hq := dget_K ek rv q
    rw [← e1, hz] at hq
    obtain ⟨v', e3, r3⟩ := hq
    refine d_getItem (by omega) I (y := kV q) (v := v') (by rw [← e3]; exact DGet.k (k := q) ha') ry fun u' s' I' r' => ?_
    exact h s' v' u' I' r3 r'
  · obtain ⟨fq, rk⟩ := v.key
    obtain ⟨o, fp, rdd⟩ := v.dict
    have hk := (keyIn_ok v.ok).1
    obtain ⟨b, rfl⟩ := tup_rep rk hk ht
    obtain ⟨a, xs, ys, rfl, nv, _⟩ := nv_of G I rdd ha
    cases rd
    cases ry
    have hl := nv.look k
    rw [hz] at hl
    obtain ⟨v', p, e3, r3, r4⟩ := hl
    have hkey : (nestedKind X.prog X.w).is s.heap k b := ⟨KRep.is (v := .ref b) (u := .ref b) I (by rw [G.K]; exact rk.krep hk) rfl, hd8⟩
    refine wpAny_getItem_heap (knd := nestedKind X.prog X.w) (show A.units + 1 + 8 < cLine by omega) hkey (by rw [G.P, G.w]; exact nv.dict) e3 (h _ v' p.2 (I.tok _) r4 r3)
end
end DI
/-! DI, comparisons, items, slices -/
namespace DI
open PySem PySem.Spec PyProof.Rows L2

section
variable {X : Cx} {g : Gv} {W : L2.WX}
def blR (r : R Bool) : R D := r.bind fun b => .ok (.bl b)
theorem Out.bl {Z : Addr → Prop} {σ : L2.St} {H : Hp} {r : R Bool} {Q : VK} {bo : Bool} (hz : ∀ a, Z a → H a ≠ none) (hn : ∀ c fs, r ≠ .err c fs) (o : Out g W Z σ H (blR r) (fun d => ∀ v H' Z' fp, PostE g bo Z Z' H H' d v fp → Q v H')) : ∃ b, r = .ok b ∧ Q (.bl b) H := by
  cases r with
  | ok b => exact ⟨b, rfl, o _ H Z [] (post_sc hz (.bl b))⟩
  | err c fs => exact absurd rfl (hn c fs)
  | bad => exact o.elim
theorem eqD_err {x y : D} : ∀ c fs, eqD x y ≠ .err c fs := fun c fs h => by
  unfold eqD at h
  split at h
  · split at h <;> cases h
  · cases h
theorem eqD_ok {x y : D} {b : Bool} (h : eqD x y = .ok b) : ∃ d e, py x = some d ∧ py y = some e ∧ SeqAt.shaped d = true ∧ SeqAt.shaped e = true ∧ PyData.eqv d e = b := by
  unfold eqD at h
  split at h
  · rename_i d e h1 h2
    split at h
    · rename_i hc
      rw [Bool.and_eq_true] at hc
      cases h
      exact ⟨d, e, h1, h2, hc.1, hc.2, rfl⟩
    · cases h
  · cases h
theorem memS_err {x : D} {ys : List D} : ∀ c fs, memS x ys ≠ .err c fs := fun c fs h => by
  unfold memS at h
  split at h
  · split at h <;> cases h
  · cases h
theorem memS_ok {x : D} {ys : List D} {b : Bool} (h : memS x ys = .ok b) : ∃ d ds, py x = some d ∧ pyL ys = some ds ∧ SeqAt.shaped d = true ∧ SeqAt.shaped (.list ds) = true ∧ (ds.any fun z => PyData.eqv z d) = b := by
  unfold memS at h
  split at h
  · rename_i d ds h1 h2
    split at h
    · rename_i hc
      rw [Bool.and_eq_true] at hc
      cases h
      exact ⟨d, ds, h1, h2, hc.1, hc.2, rfl⟩
    · cases h
  · cases h
theorem opd_eq (G : Gof g X) : OpD g W true (rEqD X.K) (fun x y => blR (cmpD .eq x y)) := by
  intro Z σ H x y v u fx fy Q hz rx ry o
  obtain ⟨b, h, q⟩ := Out.bl hz (fun c fs => eqD_err c fs) o
  obtain ⟨d, e, h1, h2, s1, s2, rfl⟩ := eqD_ok h
  rw [G.K]
  exact ⟨d, e, rx.dp h1, ry.dp h2, s1, s2, q⟩
theorem neD_err {r : R Bool} (hn : ∀ c fs, r ≠ .err c fs) : ∀ c fs, (r.bind fun b => .ok (!b)) ≠ (R.err c fs : R Bool) := fun c fs h => by
  cases r with
  | ok b => cases h
  | err c fs => exact hn c fs rfl
  | bad => cases h
theorem notR_ok {r : R Bool} {b : Bool} (h : (r.bind fun b => .ok (!b)) = (R.ok b : R Bool)) : r = .ok (!b) := by
  cases r with
  | ok c =>
    have h : (R.ok (!c) : R Bool) = .ok b := h
    injection h with h
    rw [← h, Bool.not_not]
  | err c fs => cases h
  | bad => cases h
theorem opd_ne (G : Gof g X) : OpD g W true (rNeD X.K) (fun x y => blR (cmpD .ne x y)) := by
  intro Z σ H x y v u fx fy Q hz rx ry o
  obtain ⟨b, h, q⟩ := Out.bl hz (neD_err fun c fs => eqD_err c fs) o
  obtain ⟨d, e, h1, h2, s1, s2, e3⟩ := eqD_ok (notR_ok h)
  rw [G.K]
  refine ⟨d, e, rx.dp h1, ry.dp h2, s1, s2, ?_⟩
  rw [e3, Bool.not_not]
  exact q
/-- order of ints -/
theorem opd_ord {op : Cop} {p : Int → Int → Bool} (hp : ∀ i j, cmpD op (.int i) (.int j) = .ok (p i j)) (hb : ∀ x y, (∀ i j, x = D.int i → y = D.int j → False) → cmpD op x y = .bad) : OpD g W true (rI0 fun i j => .bl (p i j)) (fun x y => blR (cmpD op x y)) := by
  intro Z σ H x y v u fx fy Q hz rx ry o
  have bad : (∀ i j, x = D.int i → y = D.int j → False) → (rI0 fun i j => .bl (p i j)) v u H Q := fun h => by
    have o : Out g W Z σ H (blR (cmpD op x y)) _ := o
    rw [hb x y h] at o
    exact o.elim
  cases x with
  | int i =>
    cases y with
    | int j =>
      obtain ⟨rfl, _⟩ := rep_int rx
      obtain ⟨rfl, _⟩ := rep_int ry
      have o : Out g W Z σ H (blR (cmpD op (.int i) (.int j))) _ := o
      rw [hp] at o
      exact ⟨i, j, rfl, rfl, o _ H Z [] (post_sc hz (.bl _))⟩
    | _ => exact bad fun _ _ _ e => by cases e
  | _ => exact bad fun _ _ e => by cases e
theorem opd_lt : OpD g W true (rI0 fun i j => .bl (decide (i < j))) (fun x y => blR (cmpD .lt x y)) := opd_ord (fun _ _ => rfl) fun x y h => by
  cases x <;> cases y <;> first | rfl | exact (h _ _ rfl rfl).elim
theorem opd_le : OpD g W true (rI0 fun i j => .bl (decide (i ≤ j))) (fun x y => blR (cmpD .le x y)) := opd_ord (fun _ _ => rfl) fun x y h => by
  cases x <;> cases y <;> first | rfl | exact (h _ _ rfl rfl).elim
theorem opd_gt : OpD g W true (rI0 fun i j => .bl (decide (j < i))) (fun x y => blR (cmpD .gt x y)) := opd_ord (p := fun i j => decide (j < i)) (fun _ _ => rfl) fun x y h => by
  cases x <;> cases y <;> first | rfl | exact (h _ _ rfl rfl).elim
theorem opd_ge : OpD g W true (rI0 fun i j => .bl (decide (j ≤ i))) (fun x y => blR (cmpD .ge x y)) := opd_ord (p := fun i j => decide (j ≤ i)) (fun _ _ => rfl) fun x y h => by
  cases x <;> cases y <;> first | rfl | exact (h _ _ rfl rfl).elim

/-! ### is None -/
theorem non_iff {Z : Addr → Prop} {H : Hp} {x : D} {v : V} {f : List Addr} (r : Rep g Z H x v f) : decide (v = .non) = isNon x := by
  cases r <;> first | rfl | exact decide_eq_false (fun e => nomatch e)
theorem opd_isN : OpD g W true (fun x y H Q => y = .non ∧ Q (.bl (decide (x = .non))) H) (fun x y => blR (cmpD .isN x y)) := by
  intro Z σ H x y v u fx fy Q hz rx ry o
  cases y with
  | non =>
    obtain ⟨rfl, _⟩ := rep_non ry
    refine ⟨rfl, ?_⟩
    rw [non_iff rx]
    exact o _ H Z [] (post_sc hz (.bl _))
  | _ => exact o.elim
theorem opd_notN : OpD g W true (fun x y H Q => y = .non ∧ Q (.bl (!decide (x = .non))) H) (fun x y => blR (cmpD .notN x y)) := by
  intro Z σ H x y v u fx fy Q hz rx ry o
  cases y with
  | non =>
    obtain ⟨rfl, _⟩ := rep_non ry
    refine ⟨rfl, ?_⟩
    rw [non_iff rx]
    exact o _ H Z [] (post_sc hz (.bl _))
  | _ => exact o.elim

/-! ### in, not in -/
def rInDct (g : Gv) (neg : Bool) : R2 := fun x y H Q => ∃ Z dx kvs k, DV g Z H dx kvs k x y ∧ Q (.bl (if neg = true then !(dget kvs k).isSome else (dget kvs k).isSome)) H
theorem op_inDct (hu : X.A.units + 70 < cLine) (G : Gof g X) : OpR X (compareOp .In) (rInDct g false) := by
  intro pins s σ H x y v u Q I rx ry h
  obtain ⟨Z, dx, kvs, k, dv, q⟩ := h
  exact dct_in hu G I dv rx ry fun s' I' => ⟨.bl _, H, I', rfl, q⟩
theorem op_notInDct (hu : X.A.units + 70 < cLine) (G : Gof g X) : OpR X (compareOp .NotIn) (rInDct g true) := by
  intro pins s σ H x y v u Q I rx ry h
  obtain ⟨Z, dx, kvs, k, dv, q⟩ := h
  exact dct_notIn hu G I dv rx ry fun s' I' => ⟨.bl _, H, I', rfl, q⟩
def rMem (X : Cx) (g : Gv) : R2 := fun x y H Q => rInD X.K x y H Q ∨ (rInT X.K false x y H Q ∨ (rInDct g false x y H Q ∨ ∃ i j, x = .str i ∧ y = .str j ∧ Q (.bl (!(Builtin.Str.occurrences j i 0 j.length 1).isEmpty)) H))
def rNMem (X : Cx) (g : Gv) : R2 := fun x y H Q => rNotInD X.K x y H Q ∨ (rInT X.K true x y H Q ∨ (rInDct g true x y H Q ∨ ∃ i j, x = .str i ∧ y = .str j ∧ Q (.bl (!(!(Builtin.Str.occurrences j i 0 j.length 1).isEmpty))) H))
theorem opr_mem (hu : X.A.units + 70 < cLine) (G : Gof g X) : OpR X (compareOp .In) (rMem X g) := (op_inD (by omega)).or ((op_inT (by omega)).or ((op_inDct hu G).or op_in_str))
theorem opr_nmem (hu : X.A.units + 70 < cLine) (G : Gof g X) : OpR X (compareOp .NotIn) (rNMem X g) := (op_notInD (by omega)).or ((op_notInT (by omega)).or ((op_notInDct hu G).or op_notin_str))
theorem memD_err {x y : D} : ∀ c fs, memD x y ≠ .err c fs := fun c fs h => by
  unfold memD at h
  split at h
  · exact memS_err c fs h
  · exact memS_err c fs h
  · rename_i kvs
    cases e : keyIn x kvs with
    | ok k => rw [e] at h; cases h
    | err c fs => exact keyIn_err c fs e
    | bad => rw [e] at h; cases h
  · split at h <;> cases h
  · cases h
theorem opd_mem (G : Gof g X) : OpD g W true (rMem X g) (fun x y => blR (cmpD .mem x y)) := by
  intro Z σ H x y v u fx fy Q hz rx ry o
  obtain ⟨b, h, q⟩ := Out.bl hz (fun c fs => memD_err c fs) o
  have h : memD x y = .ok b := h
  cases y with
  | lst o' ys =>
    obtain ⟨d, ds, h1, h2, s1, s2, rfl⟩ := memS_ok (show memS x ys = .ok b from h)
    refine .inl ⟨d, ds, by rw [G.K]; exact rx.dp h1, by rw [G.K]; exact ry.dp (by simp [py, h2]), s1, s2, q⟩
  | tup ys =>
    obtain ⟨d, ds, h1, h2, s1, s2, rfl⟩ := memS_ok (show memS x ys = .ok b from h)
    refine .inr (.inl ⟨d, ds, by rw [G.K]; exact rx.dp h1, by rw [G.K]; exact ry.dp (by simp [py, h2]), s1, s2, q⟩)
  | dct o' kvs =>
    have h : ((keyIn x kvs).bind fun k => R.ok (dget kvs k).isSome) = .ok b := h
    cases e : keyIn x kvs with
    | ok k =>
      rw [e] at h
      cases h
      exact .inr (.inr (.inl ⟨Z, x, kvs, k, ⟨⟨_, rx⟩, ⟨_, _, ry⟩, e⟩, q⟩))
    | err c fs => exact absurd e (keyIn_err c fs)
    | bad => rw [e] at h; cases h
  | str z =>
    cases x with
    | str i =>
      obtain ⟨rfl, _⟩ := rep_str rx
      obtain ⟨rfl, _⟩ := rep_str ry
      cases h
      exact .inr (.inr (.inr ⟨i, z, rfl, rfl, q⟩))
    | _ => cases h
  | _ => cases h
theorem opd_nmem (G : Gof g X) : OpD g W true (rNMem X g) (fun x y => blR (cmpD .nmem x y)) := by
  intro Z σ H x y v u fx fy Q hz rx ry o
  obtain ⟨b, h, q⟩ := Out.bl hz (neD_err fun c fs => memD_err c fs) o
  have h : memD x y = .ok (!b) := notR_ok h
  obtain ⟨b', rfl⟩ : ∃ b', b = !b' := ⟨!b, (Bool.not_not b).symm⟩
  rw [Bool.not_not] at h
  cases y with
  | lst o' ys =>
    obtain ⟨d, ds, h1, h2, s1, s2, rfl⟩ := memS_ok (show memS x ys = .ok b' from h)
    refine .inl ⟨d, ds, by rw [G.K]; exact rx.dp h1, by rw [G.K]; exact ry.dp (by simp [py, h2]), s1, s2, q⟩
  | tup ys =>
    obtain ⟨d, ds, h1, h2, s1, s2, rfl⟩ := memS_ok (show memS x ys = .ok b' from h)
    refine .inr (.inl ⟨d, ds, by rw [G.K]; exact rx.dp h1, by rw [G.K]; exact ry.dp (by simp [py, h2]), s1, s2, q⟩)
  | dct o' kvs =>
    have h : ((keyIn x kvs).bind fun k => R.ok (dget kvs k).isSome) = .ok b' := h
    cases e : keyIn x kvs with
    | ok k =>
      rw [e] at h
      cases h
      exact .inr (.inr (.inl ⟨Z, x, kvs, k, ⟨⟨_, rx⟩, ⟨_, _, ry⟩, e⟩, q⟩))
    | err c fs => exact absurd e (keyIn_err c fs)
    | bad => rw [e] at h; cases h
  | str z =>
    cases x with
    | str i =>
      obtain ⟨rfl, _⟩ := rep_str rx
      obtain ⟨rfl, _⟩ := rep_str ry
      cases h
      exact .inr (.inr (.inr ⟨i, z, rfl, rfl, q⟩))
    | _ => cases h
  | _ => cases h

/-! ### items -/
def rIxDct (g : Gv) : R2 := fun x y H Q => ∃ Z dx kvs k z, DV g Z H dx kvs k y x ∧ dget kvs k = some z ∧ ∀ v', Rep g Z H z v' [] → Q v' H
theorem dct_typeIs {Z : Addr → Prop} {H : Hp} {pins : List (Addr × Obj)} {σ : L2.St} {s : Shared} (I : Inv X pins σ H s) {o : Bool} {kvs : List (NestedKey × D)} {v : V} {u : Value} {fp : List Addr} (r : Rep g Z H (.dct o kvs) v fp) (ru : RelV v u) :
    s.TypeIs u "dict" ∧ ∀ b, u = .ref b → ∃ ob, s.heap.get? b = some ob ∧ ob.dict = none := by
  cases r with
  | dK h e hs w =>
    cases ru
    obtain ⟨_, _, vs, _, dd⟩ := dk_rd I.hok (.inl h)
    refine ⟨dd.typeIs, fun b q => ?_⟩
    cases q
    obtain ⟨ob, _, _, h1, h2, _⟩ := dd
    exact ⟨ob, h1, h2.2.1⟩
  | dN h e ne hk hs w =>
    cases ru
    obtain ⟨⟨_, _, _, ys, _, ob, es, ep, h1, h2, _⟩, _⟩ := I.hok _ _ h
    refine ⟨⟨ob, h1, h2.1⟩, fun b q => ?_⟩
    cases q
    exact ⟨ob, h1, h2.2.1⟩
theorem ix_dct (hu : X.A.units + 70 < cLine) (G : Gof g X) : IxR X (rIxDct g) := by
  intro value slice pins s σ H x y v u Q I rx ry h hs
  obtain ⟨Z, dx, kvs, k, z, dv, hz, q⟩ := h
  obtain ⟨o, fp, rd⟩ := dv.dict
  have ht := (dct_typeIs I rd rx).1
  unfold subscriptTail
  refine wpAny_bind ?_
  rw [getitemInPython_of_ne ht.not_modules]
  refine wpAny_bind (wpAny_specialOf ht PySem.F.slot_dict_getitem.lookup ?_)
  have fin : wpAny (model X.prog X.w) X.A (subscripted slice false v u) (fun r s₃ => wpAny (model X.prog X.w) X.A (letTemporaryGo value v r >>= fun _ => pure r) (EP X pins σ Q) X.xe s₃) X.xe s := by
    rw [hs]
    refine wpAny_operating (dct_get hu G I dv ry rx hz fun s' v' u' I' r' ru => wpAny_bind (wpAny_letTemporaryGo (wpAny_pure ⟨v', H, I', ru, q v' r'⟩)))
  first
    | exact wpAny_pure (wpAny_bind fin)
    | exact wpAny_bind (wpAny_pure (wpAny_bind fin))
    | exact wpAny_bind fin
def rIdx (X : Cx) (g : Gv) : R2 := fun x y H Q => rIx X.K x y H Q ∨ rIxDct g x y H Q
theorem ixr_all (hu : X.A.units + 70 < cLine) (G : Gof g X) : IxR X (rIdx X g) := ix_seq.or (ix_dct hu G)
theorem atI_map {α β : Type} {f : α → β} {xs : List α} {i : Int} : L2.atI (xs.map f) i = (L2.atI xs i).map f := by
  unfold L2.atI
  rw [List.length_map]
  cases ixN xs.length i with
  | none => rfl
  | some j => simp
theorem reps_at {Z : Addr → Prop} {H : Hp} {xs : List D} {vs : List V} {fp : List Addr} (r : Reps g Z H xs vs fp) {i : Int} {x : D} (h : L2.atI xs i = some x) : ∃ v f, L2.atI vs i = some v ∧ Rep g Z H x v f ∧ (∀ a ∈ f, a ∈ fp) ∧ (fp.Nodup → f.Nodup) := by
  unfold L2.atI at h ⊢
  rw [← r.length]
  obtain ⟨j, e1, e2⟩ := Option.bind_eq_some_iff.mp h
  obtain ⟨v, f, e3, r3, s3, n3⟩ := r.get j x e2
  exact ⟨v, f, by rw [e1]; exact e3, r3, s3, n3⟩
theorem ofR_out {α : Type} {Z : Addr → Prop} {σ : L2.St} {H : Hp} {o : Option α} {P : α → Prop} (h : Out g W Z σ H (ofR o) P) : ∃ a, o = some a ∧ P a := by
  cases o with
  | some a => exact ⟨a, rfl, h⟩
  | none => exact h.elim
theorem opd_idx (G : Gof g X) : OpD g W false (rIdx X g) idxD := by
  intro Z σ H x y v u fx fy Q hz rx ry o
  cases x with
  | lst o' xs =>
    cases y with
    | int i =>
      obtain ⟨z, e, q⟩ := ofR_out (show Out g W Z σ H (ofR (L2.atI xs i)) _ from o)
      obtain ⟨a, vs, fs, rfl, hq, rs, sub⟩ := rep_lst' rx
      obtain ⟨rfl, _⟩ := rep_int ry
      obtain ⟨w, f, e2, r2, _⟩ := reps_at rs e
      exact .inl (.inl ⟨a, vs, i, w, rfl, rfl, by rw [G.K]; exact hq, e2, q w H Z f ⟨same_refl H, .refl hz, r2, fun e => by cases e⟩⟩)
    | _ => exact o.elim
  | tup xs =>
    cases y with
    | int i =>
      obtain ⟨z, e, q⟩ := ofR_out (show Out g W Z σ H (ofR (L2.atI xs i)) _ from o)
      obtain ⟨a, vs, rfl, hq, rs⟩ := rep_tup rx
      obtain ⟨rfl, _⟩ := rep_int ry
      obtain ⟨w, f, e2, r2, _⟩ := reps_at rs e
      exact .inl (.inr (.inl ⟨a, vs, i, w, rfl, rfl, by rw [G.K]; exact hq, e2, q w H Z f ⟨same_refl H, .refl hz, r2, fun e => by cases e⟩⟩))
    | _ => exact o.elim
  | str z =>
    cases y with
    | int i =>
      obtain ⟨hl, o⟩ := Out.guard (show Out g W Z σ H (if z.length ≤ sizeLine then ofR ((L2.atI z.cps.toList i).map oneOf) else .bad) _ from o)
      obtain ⟨d, e, q⟩ := ofR_out o
      obtain ⟨c, e1, rfl⟩ := Option.map_eq_some_iff.mp e
      obtain ⟨rfl, _⟩ := rep_str rx
      obtain ⟨rfl, _⟩ := rep_int ry
      exact .inl (.inr (.inr ⟨z, i, c, rfl, rfl, hl, e1, q _ H Z [] (post_sc hz (.str _))⟩))
    | _ => exact o.elim
  | dct o' kvs =>
    have o : Out g W Z σ H ((keyIn y kvs).bind fun k => ofR (dget kvs k)) _ := o
    cases e : keyIn y kvs with
    | ok k =>
      rw [e] at o
      obtain ⟨z, e2, q⟩ := ofR_out (show Out g W Z σ H (ofR (dget kvs k)) _ from o)
      exact .inr ⟨Z, y, kvs, k, z, ⟨⟨_, ry⟩, ⟨_, _, rx⟩, e⟩, e2, fun v' r' => q v' H Z [] (post_sc hz r')⟩
    | err c fs => exact absurd e (keyIn_err c fs)
    | bad => rw [e] at o; exact o.elim
  | _ => exact o.elim
end
end DI
/-! DI, the expressions: names, constants, displays, truth, slices -/
namespace DI
open PySem PySem.Spec PyProof.Rows L2

section
variable {X : Cx} {g : Gv} {W : L2.WX} {a b c : Expr} {fa fb fc : Sl → R D} {ba bb bc : Bool} {pos : Pos}

/-- a test from its value -/
theorem tIT_tB {f : Sl → R D} {bo : Bool} {σ : L2.St} {H : Hp} {Q : Bool → Hp → Prop} (q : tIT g W f σ H Q) : tB (tI g W bo f) σ H Q := by
  obtain ⟨H0, Z, fps, σl, sr, o⟩ := q
  refine ⟨H0, Z, fps, σl, sr, o.imp fun d ⟨k, e, q⟩ v H' Z' fp p => ?_⟩
  subst e
  have rp := p.rep
  cases rp
  exact ⟨k, rfl, q H' Z' p.same p.zx⟩
/-- a reading weaker by what follows -/
theorem tI_imp {f f' : Sl → R D} {b b' : Bool} {σ : L2.St} {H : Hp} {Q : VK} (q : tI g W b f σ H Q) (hf : ∀ σl, f σl = .bad ∨ f' σl = f σl) (hb : b = true → b' = true) : tI g W b' f' σ H Q := by
  obtain ⟨H0, Z, fps, σl, sr, o⟩ := q
  refine ⟨H0, Z, fps, σl, sr, ?_⟩
  rcases hf σl with e | e
  · rw [e] at o; exact o.elim
  · rw [e]
    exact o.imp fun d q v H' Z' fp p => q v H' Z' fp ⟨p.same, p.zx, p.rep, fun e => p.own (hb e)⟩

theorem se_var {i : Nat} {x : Str} (hN : X.N[i]? = some x) (hv : Vis X.env.scope x) (hd : (x == ("__debug__" : Str)) = false) (hcd : (x == ("__classdict__" : Str)) = false) : PE X (.Name x pos) (tI g W false fun σ => getS σ i) := (pe_var hN hv hd hcd).imp fun σ H Q q => by
  obtain ⟨H0, Z, fps, σl, sr, o⟩ := q
  have o : Out g W Z σ H (getS σl i) _ := o
  unfold getS at o
  cases e : σl[i]? with
  | none => rw [e] at o; exact o.elim
  | some w =>
    cases w with
    | none => rw [e] at o; exact o.elim
    | some d =>
      rw [e] at o
      obtain ⟨v, fp, e1, e2, r⟩ := sr.slot i d e
      exact ⟨v, e1, o v H Z fp ⟨same_refl H, .refl sr.z, r, fun e => by cases e⟩⟩
/-- a constant -/
theorem se_con {e : Expr} {v : V} {d : D} {bo : Bool} (h : PE X e (tC v)) (hr : ∀ (Z : Addr → Prop) (H : Hp), Rep g Z H d v []) : PE X e (tI g W bo fun _ => .ok d) := h.imp fun σ H Q q => by
  obtain ⟨H0, Z, fps, σl, sr, o⟩ := q
  exact o v H Z [] (post_sc sr.z (hr Z H))
theorem se_neg (ha : PE X a (tI g W ba fa)) {bo : Bool} : PE X (.UnaryOp .USub a pos) (tI g W bo fun σ => (fa σ).bind fun x => (intOf x).bind fun i => .ok (.int (-i))) := (pe_un un_neg ha).imp fun σ H Q q => by
  obtain ⟨H0, Z, fps, σl, sr, o⟩ := q
  refine ⟨H0, Z, fps, σl, sr, o.bind.imp fun x h v1 H1 Z1 fp1 p1 => ?_⟩
  cases x with
  | int i =>
    obtain ⟨rfl, _⟩ := rep_int p1.rep
    exact ⟨i, rfl, h _ H1 Z1 [] ((post_sc p1.zx.inn (.int _)).pre p1.same p1.zx)⟩
  | _ => exact h.elim
theorem se_not (ha : PE X a (tI g W ba fa)) {bo : Bool} : PE X (.UnaryOp .Not a pos) (tI g W bo fun σ => (fa σ).bind fun x => (boolOf x).bind fun i => .ok (.bl (!i))) := (pe_not ha).imp fun σ H Q q => by
  obtain ⟨H0, Z, fps, σl, sr, o⟩ := q
  refine ⟨H0, Z, fps, σl, sr, o.bind.imp fun x h v1 H1 Z1 fp1 p1 => ?_⟩
  cases x with
  | bl i =>
    obtain ⟨rfl, _⟩ := rep_bl p1.rep
    exact ⟨i, rfl, h _ H1 Z1 [] ((post_sc p1.zx.inn (.bl _)).pre p1.same p1.zx)⟩
  | _ => exact h.elim
theorem st_not (ha : PT X a (tIT g W fa)) : PT X (.UnaryOp .Not a pos) (tIT g W fun σ => (fa σ).bind fun x => (boolOf x).bind fun i => .ok (.bl (!i))) := (pt_not ha).imp fun σ H Q q => by
  obtain ⟨H0, Z, fps, σl, sr, o⟩ := q
  refine ⟨H0, Z, fps, σl, sr, o.bind.imp fun x h => ?_⟩
  cases x with
  | bl i =>
    obtain ⟨k, e, q⟩ := h
    cases e
    exact ⟨i, rfl, fun H' Z' s z => q H' Z' s z⟩
  | _ => exact h.elim
theorem se_and {rest : List Expr} (ha : PE X a (tI g W ba fa)) (hb : PE X (.BoolOp .And (b :: rest) pos) (tI g W bb fb)) : PE X (.BoolOp .And (a :: b :: rest) pos) (tI g W false fun σ => (fa σ).bind fun x => (boolOf x).bind fun r => if r = true then (fb σ).bind fun y => (boolOf y).bind fun r => .ok (.bl r) else .ok (.bl false)) := (pe_and ha hb).imp fun σ H Q q => by
  obtain ⟨H0, Z, fps, σl, sr, o⟩ := q
  refine ⟨H0, Z, fps, σl, sr, o.bind.imp fun x h v1 H1 Z1 fp1 p1 => ?_⟩
  cases x with
  | bl i =>
    obtain ⟨rfl, _⟩ := rep_bl p1.rep
    refine ⟨i, rfl, ?_⟩
    cases i with
    | true =>
      have h : Out g W Z σ H ((fb σl).bind fun y => (boolOf y).bind fun r => R.ok (D.bl r)) _ := h
      refine ⟨H0, Z1, fps, σl, sr.step p1.same p1.zx, h.bind.step p1.same p1.zx fun y h2 v2 H2 Z2 fp2 p2 => ?_⟩
      cases y with
      | bl j => exact h2 v2 H2 Z2 fp2 ((p2.borrow).pre p1.same p1.zx)
      | _ => exact h2.elim
    | false => exact h _ H1 Z1 [] ((post_sc p1.zx.inn (.bl _)).pre p1.same p1.zx)
  | _ => exact h.elim
theorem se_or {rest : List Expr} (ha : PE X a (tI g W ba fa)) (hb : PE X (.BoolOp .Or (b :: rest) pos) (tI g W bb fb)) : PE X (.BoolOp .Or (a :: b :: rest) pos) (tI g W false fun σ => (fa σ).bind fun x => (boolOf x).bind fun r => if r = true then .ok (.bl true) else (fb σ).bind fun y => (boolOf y).bind fun r => .ok (.bl r)) := (pe_or ha hb).imp fun σ H Q q => by
  obtain ⟨H0, Z, fps, σl, sr, o⟩ := q
  refine ⟨H0, Z, fps, σl, sr, o.bind.imp fun x h v1 H1 Z1 fp1 p1 => ?_⟩
  cases x with
  | bl i =>
    obtain ⟨rfl, _⟩ := rep_bl p1.rep
    refine ⟨i, rfl, ?_⟩
    cases i with
    | false =>
      have h : Out g W Z σ H ((fb σl).bind fun y => (boolOf y).bind fun r => R.ok (D.bl r)) _ := h
      refine ⟨H0, Z1, fps, σl, sr.step p1.same p1.zx, h.bind.step p1.same p1.zx fun y h2 v2 H2 Z2 fp2 p2 => ?_⟩
      cases y with
      | bl j => exact h2 v2 H2 Z2 fp2 ((p2.borrow).pre p1.same p1.zx)
      | _ => exact h2.elim
    | true => exact h _ H1 Z1 [] ((post_sc p1.zx.inn (.bl _)).pre p1.same p1.zx)
  | _ => exact h.elim
theorem sw_and {rest : List Expr} (ha : PT X a (tIT g W fa)) (hb : PW X (.BoolOp .And (b :: rest) pos) (tIT g W fb)) : PW X (.BoolOp .And (a :: b :: rest) pos) (tIT g W fun σ => (fa σ).bind fun x => (boolOf x).bind fun r => if r = true then (fb σ).bind fun y => (boolOf y).bind fun r => .ok (.bl r) else .ok (.bl false)) := (pw_and ha hb).imp fun σ H Q q => by
  obtain ⟨H0, Z, fps, σl, sr, o⟩ := q
  refine ⟨H0, Z, fps, σl, sr, o.bind.imp fun x h => ?_⟩
  cases x with
  | bl i =>
    refine ⟨i, rfl, fun H1 Z1 s1 z1 => ?_⟩
    cases i with
    | true =>
      have h : Out g W Z σ H ((fb σl).bind fun y => (boolOf y).bind fun r => R.ok (D.bl r)) _ := h
      refine ⟨H0, Z1, fps, σl, sr.step s1 z1, h.bind.step s1 z1 fun y h2 => ?_⟩
      cases y with
      | bl j =>
        obtain ⟨k, e, q⟩ := h2
        cases e
        exact ⟨j, rfl, fun H' Z' s z => q H' Z' (same_trans s1 s) (z1.trans s1 z)⟩
      | _ => exact h2.elim
    | false =>
      obtain ⟨k, e, q⟩ := h
      cases e
      exact q H1 Z1 s1 z1
  | _ => exact h.elim
theorem sw_or {rest : List Expr} (ha : PT X a (tIT g W fa)) (hb : PW X (.BoolOp .Or (b :: rest) pos) (tIT g W fb)) : PW X (.BoolOp .Or (a :: b :: rest) pos) (tIT g W fun σ => (fa σ).bind fun x => (boolOf x).bind fun r => if r = true then .ok (.bl true) else (fb σ).bind fun y => (boolOf y).bind fun r => .ok (.bl r)) := (pw_or ha hb).imp fun σ H Q q => by
  obtain ⟨H0, Z, fps, σl, sr, o⟩ := q
  refine ⟨H0, Z, fps, σl, sr, o.bind.imp fun x h => ?_⟩
  cases x with
  | bl i =>
    refine ⟨i, rfl, fun H1 Z1 s1 z1 => ?_⟩
    cases i with
    | false =>
      have h : Out g W Z σ H ((fb σl).bind fun y => (boolOf y).bind fun r => R.ok (D.bl r)) _ := h
      refine ⟨H0, Z1, fps, σl, sr.step s1 z1, h.bind.step s1 z1 fun y h2 => ?_⟩
      cases y with
      | bl j =>
        obtain ⟨k, e, q⟩ := h2
        cases e
        exact ⟨j, rfl, fun H' Z' s z => q H' Z' (same_trans s1 s) (z1.trans s1 z)⟩
      | _ => exact h2.elim
    | true =>
      obtain ⟨k, e, q⟩ := h
      cases e
      exact q H1 Z1 s1 z1
  | _ => exact h.elim
theorem se_ite (hc : PT X c (tIT g W fc)) (ha : PE X a (tI g W ba fa)) (hb : PE X b (tI g W bb fb)) : PE X (.IfExp c a b pos) (tI g W (ba && bb) fun σ => (fc σ).bind fun x => (boolOf x).bind fun r => if r = true then fa σ else fb σ) := (pe_ifExp hc ha hb).imp fun σ H Q q => by
  obtain ⟨H0, Z, fps, σl, sr, o⟩ := q
  refine ⟨H0, Z, fps, σl, sr, o.bind.imp fun x h => ?_⟩
  cases x with
  | bl i =>
    refine ⟨i, rfl, fun H1 Z1 s1 z1 => ?_⟩
    cases i with
    | true =>
      have h : Out g W Z σ H (fa σl) _ := h
      exact ⟨H0, Z1, fps, σl, sr.step s1 z1, h.step s1 z1 fun y h2 v2 H2 Z2 fp2 p2 => h2 v2 H2 Z2 fp2 (PostE.pre s1 z1 ⟨p2.same, p2.zx, p2.rep, fun e => p2.own (by cases ba <;> simp_all)⟩)⟩
    | false =>
      have h : Out g W Z σ H (fb σl) _ := h
      exact ⟨H0, Z1, fps, σl, sr.step s1 z1, h.step s1 z1 fun y h2 v2 H2 Z2 fp2 p2 => h2 v2 H2 Z2 fp2 (PostE.pre s1 z1 ⟨p2.same, p2.zx, p2.rep, fun e => p2.own (by cases bb <;> simp_all)⟩)⟩
  | _ => exact h.elim

/-! ### lists of arguments -/
theorem sa_nil {bo : Bool} : PA X [] (tIA g W bo fun _ => .ok (.tup [])) := pa_nil.imp fun σ H Q q => by
  obtain ⟨H0, Z, fps, σl, sr, o⟩ := q
  obtain ⟨ds, e, q⟩ := o
  cases e
  exact q [] H Z [] ⟨same_refl H, .refl sr.z, .nil, fun _ => ⟨List.nodup_nil, fun _ h => nomatch h⟩⟩
theorem starE {e : Expr} {es : List Expr} {env : Env} (h : (match e with | .Starred _ _ => false | _ => true) = true) : starEach (e :: es) env = (false, eval e env) :: starEach es env := by
  cases e <;> first | rfl | cases h
theorem sa_cons {es : List Expr} (ha : PE X a (tI g W ba fa)) (hb : PA X es (tIA g W bb fb)) (hs : starEach (a :: es) X.env = (false, eval a X.env) :: starEach es X.env) : PA X (a :: es) (tIA g W false fun σ => (fa σ).bind fun x => (fb σ).bind fun r => (tupOf r).bind fun xs => .ok (.tup (x :: xs))) := (pa_cons ha hb hs).imp fun σ H Q q => by
  obtain ⟨H0, Z, fps, σl, sr, o⟩ := q
  refine ⟨H0, Z, fps, σl, sr, o.bind.imp fun x h v1 H1 Z1 fp1 p1 => ?_⟩
  refine ⟨H0, Z1, fps, σl, sr.step p1.same p1.zx, h.bind.step p1.same p1.zx fun y h2 => ?_⟩
  cases y with
  | tup ds =>
    obtain ⟨ds', e, q⟩ := h2
    cases e
    exact ⟨ds, rfl, fun vs H2 Z2 fp2 p2 => q (v1 :: vs) H2 Z2 (fp1 ++ fp2) ⟨same_trans p1.same p2.same, p1.zx.trans p1.same p2.zx, .cons (p1.rep.same p2.zx.le p2.same) p2.rep, fun e => by cases e⟩⟩
  | _ => exact h2.elim
/-- owned items, apart from one another -/
theorem sa_ocons {es : List Expr} {r : Bool} (hr : r = false → ba = true) (ha : PE X a (tI g W ba fa)) (hb : PA X es (tIA g W true fb)) (hs : starEach (a :: es) X.env = (false, eval a X.env) :: starEach es X.env) :
    PA X (a :: es) (tIA g W true fun σ => (fa σ).bind fun x => (ownIf r x).bind fun x => (fb σ).bind fun r => (tupOf r).bind fun xs => .ok (.tup (x :: xs))) := (pa_cons ha hb hs).imp fun σ H Q q => by
  obtain ⟨H0, Z, fps, σl, sr, o⟩ := q
  refine ⟨H0, Z, fps, σl, sr, o.bind.imp fun x h v1 H1 Z1 fp1 p1 => ?_⟩
  obtain ⟨hc, h⟩ := Out.guard (show Out g W Z σ H (if (!r || clean x) = true then R.ok x else .bad) _ from h.bind)
  have own1 : fp1.Nodup ∧ ∀ a ∈ fp1, H a = none ∧ ¬ Z1 a := by
    cases r with
    | false => exact p1.own (hr rfl)
    | true =>
      have e := Rep.clean p1.rep (by simpa using hc)
      subst e
      exact ⟨List.nodup_nil, fun _ h => nomatch h⟩
  have h : Out g W Z σ H ((fb σl).bind fun r => (tupOf r).bind fun xs => R.ok (D.tup (x :: xs))) _ := h
  refine ⟨H0, Z1, fps, σl, sr.step p1.same p1.zx, h.bind.step p1.same p1.zx fun y h2 => ?_⟩
  cases y with
  | tup ds =>
    obtain ⟨ds', e, q⟩ := h2
    cases e
    refine ⟨ds, rfl, fun vs H2 Z2 fp2 p2 => q (v1 :: vs) H2 Z2 (fp1 ++ fp2) ⟨same_trans p1.same p2.same, p1.zx.trans p1.same p2.zx, .cons (p1.rep.same p2.zx.le p2.same) p2.rep, fun _ => ?_⟩⟩
    obtain ⟨n2, o2⟩ := p2.own rfl
    refine ⟨List.nodup_append.mpr ⟨own1.1, n2, fun x hx y hy e => ?_⟩, fun a ha => ?_⟩
    · subst e
      exact Rep.there p1.rep x hx (o2 x hy).1
    · rcases List.mem_append.mp ha with ha | ha
      · refine ⟨(own1.2 a ha).1, fun z => ?_⟩
        rcases p2.zx.new a z with z | z
        · exact (own1.2 a ha).2 z
        · exact Rep.there p1.rep a ha z
      · exact ⟨same_none p1.same (o2 a ha).1, (o2 a ha).2⟩
  | _ => exact h2.elim
theorem se_tup {es : List Expr} {k : Nat} (h : PA X es (tIA g W true fa)) : PE X (.Tuple es k pos) (tI g W true fun σ => (fa σ).bind fun r => (tupOf r).bind fun xs => if xs.length ≤ sizeLine then .ok (.tup xs) else .bad) := (pe_tup h).imp fun σ H Q q => by
  obtain ⟨H0, Z, fps, σl, sr, o⟩ := q
  refine ⟨H0, Z, fps, σl, sr, o.bind.imp fun x h => ?_⟩
  cases x with
  | tup ds =>
    refine ⟨ds, rfl, fun vs H1 Z1 fp1 p1 => ?_⟩
    obtain ⟨hl, h⟩ := Out.guard (show Out g W Z σ H (if ds.length ≤ sizeLine then R.ok (D.tup ds) else .bad) _ from h)
    refine ⟨by rw [← p1.rep.length]; exact hl, fun p hp => h _ _ Z1 fp1 ⟨same_trans p1.same (same_upd hp), p1.zx.trans p1.same (.stay p1.zx.inn (same_upd hp)), .tup (.of upd_same) (p1.rep.same (fun _ z => z) (same_upd hp)), fun _ => p1.own rfl⟩⟩
  | _ => exact h.elim
theorem se_lst {es : List Expr} (h : PA X es (tIA g W true fa)) : PE X (.List es pos) (tI g W true fun σ => (fa σ).bind fun r => (tupOf r).bind fun xs => if xs.length ≤ sizeLine then .ok (.lst true xs) else .bad) := (pe_lst h).imp fun σ H Q q => by
  obtain ⟨H0, Z, fps, σl, sr, o⟩ := q
  refine ⟨H0, Z, fps, σl, sr, o.bind.imp fun x h => ?_⟩
  cases x with
  | tup ds =>
    refine ⟨ds, rfl, fun vs H1 Z1 fp1 p1 => ?_⟩
    obtain ⟨hl, h⟩ := Out.guard (show Out g W Z σ H (if ds.length ≤ sizeLine then R.ok (D.lst true ds) else .bad) _ from h)
    refine ⟨by rw [← p1.rep.length]; exact hl, fun p hp => h _ _ Z1 (p :: fp1) ⟨same_trans p1.same (same_upd hp), p1.zx.trans p1.same (.stay p1.zx.inn (same_upd hp)), .lst upd_same (p1.rep.same (fun _ z => z) (same_upd hp)) (.inl ⟨rfl, rfl⟩), fun _ => ?_⟩⟩
    obtain ⟨n1, o1⟩ := p1.own rfl
    refine ⟨List.nodup_cons.mpr ⟨fun m => Reps.there p1.rep p m hp, n1⟩, fun a ha => ?_⟩
    rcases List.mem_cons.mp ha with rfl | ha
    · exact ⟨same_none p1.same hp, fun z => p1.zx.inn a z hp⟩
    · exact o1 a ha
  | _ => exact h.elim
theorem se_dict0 : PE X (.Dict [] [] pos) (tI g W true fun _ => .ok (.dct true [])) := pe_dnewK.imp fun σ H Q q => by
  obtain ⟨H0, Z, fps, σl, sr, o⟩ := q
  exact fun p hp => o _ _ Z [p] (post_new sr.z hp (.dK (kv := []) upd_same rfl .nil own_new) (.inr rfl))

/-! ### slices -/
def rSlAll (X : Cx) : V → Option Int → Option Int → Hp → VK → Prop := fun x lo hi H Q => rSlL X.K x lo hi H Q ∨ (rSlA X.K x lo hi H Q ∨ rSlS x lo hi H Q)
theorem slr_all : SlR X (rSlAll X) := sl_list.or (sl_tupA.or sl_str)
theorem cutV_nil {Z : Addr → Prop} {H : Hp} {xs : List D} {vs : List V} (r : Reps g Z H xs vs []) (lo hi : Option Int) : Reps g Z H (cutL xs lo hi) (cutV vs lo hi) [] := by
  unfold cutL cutV
  rw [r.length]
  exact (r.drop0 _).take0 _
theorem cutL_all {α : Type} (xs : List α) (lo hi : Option Int) (h : HT.sIx xs.length 0 lo = 0 ∧ HT.sIx xs.length xs.length hi = xs.length) : cutL xs lo hi = xs := by
  unfold cutL
  rw [h.1, h.2, List.drop_zero, Nat.sub_zero, List.take_length]
theorem slD_out {σ : L2.St} {Z : Addr → Prop} {H : Hp} {x : D} {v : V} {fx : List Addr} {lo hi : Option Int} {Q : VK} (G : Gof g X) (hz : ∀ a, Z a → H a ≠ none) (rx : Rep g Z H x v fx)
    (o : Out g W Z σ H (slD x lo hi) fun d => ∀ v H' Z' fp, PostE g true Z Z' H H' d v fp → Q v H') : rSlAll X v lo hi H Q := by
  cases x with
  | lst o' xs =>
    obtain ⟨hc, o⟩ := Out.guard (show Out g W Z σ H (if cleanL xs = true then R.ok (D.lst true (cutL xs lo hi)) else .bad) _ from o)
    obtain ⟨a, vs, fs, rfl, hq, rs, sub⟩ := rep_lst' rx
    refine .inl ⟨a, vs, rfl, by rw [G.K]; exact hq, fun p hp => o _ _ Z [p] (post_new hz hp (.lst upd_same ((cutV_nil (rs.to0 hc) lo hi).same (fun _ z => z) (same_upd hp)) own_new) (.inr rfl))⟩
  | tup xs =>
    obtain ⟨hc, o⟩ := Out.guard (show Out g W Z σ H (if cleanL xs = true then R.ok (D.tup (cutL xs lo hi)) else .bad) _ from o)
    obtain ⟨a, vs, rfl, hq, rs⟩ := rep_tup rx
    refine .inr (.inl ⟨a, vs, rfl, by rw [G.K]; exact hq, fun h => ?_, fun _ p hp => o _ _ Z [] (post_new hz hp (.tup (.of upd_same) ((cutV_nil (rs.to0 hc) lo hi).same (fun _ z => z) (same_upd hp))) (.inl rfl))⟩)
    rw [← rs.length] at h
    refine o _ H Z [] (post_sc hz (.tup hq ?_))
    rw [cutL_all xs lo hi h]
    exact rs.to0 hc
  | str z =>
    obtain ⟨hc, o⟩ := Out.guard (show Out g W Z σ H (if z.length ≤ sizeLine then R.ok (D.str (L2.cutS z lo hi)) else .bad) _ from o)
    obtain ⟨rfl, _⟩ := rep_str rx
    exact .inr (.inr ⟨z, rfl, hc, o _ H Z [] (post_sc hz (.str _))⟩)
  | _ => exact o.elim
/-- a part of a slice -/
def tPO (g : Gv) (W : L2.WX) (f : Sl → R D) (n : Bool) : TO := fun σ H Q => ∃ H0 Z fps σl, SR g H0 Z fps σl σ H ∧ Out g W Z σ H (f σl) fun d => Out g W Z σ H (partD (if n = true then none else some d)) fun i => ∀ H' Z', Same H H' → Zx Z Z' H H' → Q i H'
theorem po_e (ha : PE X a (tI g W ba fa)) : PO X (some a) (tPO g W fa false) := by
  refine ⟨fun pins s σ H Q I h => (po_some ha).run pins s σ H Q I ?_⟩
  obtain ⟨H0, Z, fps, σl, sr, o⟩ := h
  refine ⟨H0, Z, fps, σl, sr, o.imp fun x h v1 H1 Z1 fp1 p1 => ?_⟩
  cases x with
  | int i =>
    obtain ⟨rfl, _⟩ := rep_int p1.rep
    exact ⟨i, rfl, h H1 Z1 p1.same p1.zx⟩
  | _ => exact h.elim
theorem po_n : PO X none (tPO g W (fun _ => .ok .non) true) := by
  refine ⟨fun pins s σ H Q I h => po_none.run pins s σ H Q I ?_⟩
  obtain ⟨H0, Z, fps, σl, sr, o⟩ := h
  exact o H Z (same_refl H) (.refl sr.z)
theorem se_sl {lo hi : Option Expr} {p2 : Pos} {nb nc : Bool} (G : Gof g X) (ha : PE X a (tI g W ba fa)) (hl : PO X lo (tPO g W fb nb)) (hh : PO X hi (tPO g W fc nc)) :
    PE X (.Subscript a (.Slice lo hi none p2) pos) (tI g W true fun σ => (fa σ).bind fun x => (fb σ).bind fun l => (partD (if nb = true then none else some l)).bind fun l => (fc σ).bind fun h => (partD (if nc = true then none else some h)).bind fun h => slD x l h) :=
  (pe_slice slr_all ha hl hh).imp fun σ H Q q => by
    obtain ⟨H0, Z, fps, σl, sr, o⟩ := q
    refine ⟨H0, Z, fps, σl, sr, o.bind.imp fun x h v1 H1 Z1 fp1 p1 => ?_⟩
    refine ⟨H0, Z1, fps, σl, sr.step p1.same p1.zx, h.bind.step p1.same p1.zx fun l h2 => ?_⟩
    refine h2.bind.step p1.same p1.zx fun lo' h3 H2 Z2 s2 z2 => ?_
    have s12 := same_trans p1.same s2
    have z12 := p1.zx.trans p1.same z2
    refine ⟨H0, Z2, fps, σl, sr.step s12 z12, h3.bind.step s12 z12 fun l' h4 => ?_⟩
    refine h4.bind.step s12 z12 fun hi' h5 H3 Z3 s3 z3 => ?_
    have s13 := same_trans s12 s3
    have z13 := z12.trans s12 z3
    exact slD_out G z3.inn (p1.rep.same (fun a z => z3.le a (z2.le a z)) (same_trans s2 s3)) (h5.step s13 z13 fun d q v H' Z' fp p => q v H' Z' fp (p.pre s13 z13))
end
end DI
/-! DI, chains, calls, built-ins, methods -/
namespace DI
open PySem PySem.Spec PyProof.Rows L2

section
variable {X : Cx} {g : Gv} {W : L2.WX} {a b c : Expr} {fa fb fc : Sl → R D} {ba bb bc : Bool} {pos : Pos}

/-! ### a < b < c -/
theorem tChain_of {r r' : R2} {o o' : Cop} (hr : OpD g W true r (fun x y => blR (cmpD o x y))) (hr' : OpD g W true r' (fun x y => blR (cmpD o' x y))) {σ : L2.St} {H : Hp} {Q : VK}
    (q : tI g W true (fun σ => (fa σ).bind fun x => (fb σ).bind fun y => (cmpD o x y).bind fun r => if r = true then (fc σ).bind fun z => (cmpD o' y z).bind fun r => .ok (.bl r) else .ok (.bl false)) σ H Q) :
    tChain r r' (tI g W ba fa) (tI g W bb fb) (tI g W bc fc) σ H Q := by
  obtain ⟨H0, Z, fps, σl, sr, q⟩ := q
  refine ⟨H0, Z, fps, σl, sr, q.bind.imp fun x h v1 H1 Z1 fp1 p1 => ?_⟩
  refine ⟨H0, Z1, fps, σl, sr.step p1.same p1.zx, h.bind.step p1.same p1.zx fun y h2 v2 H2 Z2 fp2 p2 => ?_⟩
  have s2 := same_trans p1.same p2.same
  have z2 := p1.zx.trans p1.same p2.zx
  refine hr Z2 σ H2 x y v1 v2 fp1 fp2 _ p2.zx.inn (p1.rep.same p2.zx.le p2.same) p2.rep ?_
  have h3 := h2.bind.step (P' := fun k => Out g W Z σ H (if k = true then (fc σl).bind fun z => (cmpD o' y z).bind fun r => .ok (.bl r) else .ok (.bl false)) fun d => ∀ v H' Z' fp, PostE g true Z Z' H H' d v fp → Q v H') s2 z2 (fun _ h => h)
  show Out g W Z2 σ H2 (blR (cmpD o x y)) _
  unfold blR
  cases hc : cmpD o x y with
  | ok k =>
    rw [hc] at h3
    have h3 : Out g W Z σ H (if k = true then (fc σl).bind fun z => (cmpD o' y z).bind fun r => .ok (.bl r) else .ok (.bl false)) fun d => ∀ v H' Z' fp, PostE g true Z Z' H H' d v fp → Q v H' := h3
    intro v H3 Z3 fp3 p3
    have rp := p3.rep
    cases rp
    refine ⟨k, rfl, ?_⟩
    have s3 := same_trans s2 p3.same
    have z3 := z2.trans s2 p3.zx
    cases k with
    | true =>
      have h3 : Out g W Z σ H ((fc σl).bind fun z => (cmpD o' y z).bind fun r => R.ok (D.bl r)) _ := h3
      refine ⟨H0, Z3, fps, σl, sr.step s3 z3, h3.bind.step s3 z3 fun z h4 v4 H4 Z4 fp4 p4 => ?_⟩
      have s4 := same_trans s3 p4.same
      have z4 := z3.trans s3 p4.zx
      refine hr' Z4 σ H4 y z v2 v4 fp2 fp4 Q p4.zx.inn (p2.rep.same (fun a h => p4.zx.le a (p3.zx.le a h)) (same_trans p3.same p4.same)) p4.rep ?_
      exact h4.step s4 z4 fun d q v H' Z' fp p => q v H' Z' fp (p.pre s4 z4)
    | false => exact h3 _ H3 Z3 [] ((post_sc p3.zx.inn (.bl _)).pre s3 z3)
  | err c fs =>
    rw [hc] at h3
    exact h3
  | bad =>
    rw [hc] at h3
    exact h3
theorem se_chn {op op' : CmpOp} {r r' : R2} {o o' : Cop} (ho : OpR X (compareOp op) r) (ho' : OpR X (compareOp op') r') (hr : OpD g W true r (fun x y => blR (cmpD o x y))) (hr' : OpD g W true r' (fun x y => blR (cmpD o' x y)))
    (ha : PE X a (tI g W ba fa)) (hb : PE X b (tI g W bb fb)) (hc : PE X c (tI g W bc fc)) (hm : lastMarks [op, op'] [b, c] = false) :
    PE X (.Compare a [op, op'] [b, c] pos) (tI g W true (fun σ => (fa σ).bind fun x => (fb σ).bind fun y => (cmpD o x y).bind fun r => if r = true then (fc σ).bind fun z => (cmpD o' y z).bind fun r => .ok (.bl r) else .ok (.bl false))) :=
  (pe_chain ho ho' ha hb hc hm).imp fun _ _ _ q => tChain_of hr hr' q
theorem tIT_tI {f : Sl → R D} {σ : L2.St} {H : Hp} {Q : Bool → Hp → Prop} (q : tIT g W f σ H Q) : tI g W true f σ H fun x H1 => ∃ k, x = .bl k ∧ Q k H1 := tIT_tB q
theorem st_chn {op op' : CmpOp} {r r' : R2} {o o' : Cop} (ho : OpR X (compareOp op) r) (ho' : OpR X (compareOp op') r') (hr : OpD g W true r (fun x y => blR (cmpD o x y))) (hr' : OpD g W true r' (fun x y => blR (cmpD o' x y)))
    (ha : PE X a (tI g W ba fa)) (hb : PE X b (tI g W bb fb)) (hc : PE X c (tI g W bc fc)) (hm : lastMarks [op, op'] [b, c] = false) :
    PT X (.Compare a [op, op'] [b, c] pos) (tIT g W (fun σ => (fa σ).bind fun x => (fb σ).bind fun y => (cmpD o x y).bind fun r => if r = true then (fc σ).bind fun z => (cmpD o' y z).bind fun r => .ok (.bl r) else .ok (.bl false))) :=
  (pt_chain ho ho' ha hb hc hm).imp fun _ _ _ q => tChain_of hr hr' (tIT_tI q)

/-! ### calls by values -/
def OpC (g : Gv) (W : L2.WX) (bo : Bool) (r : List V → Hp → VK → Prop) (h : List D → R D) : Prop := ∀ (Z : Addr → Prop) (σ : L2.St) (H : Hp) (ds : List D) (vs : List V) (fp : List Addr) (Q : VK), (∀ a, Z a → H a ≠ none) → Reps g Z H ds vs fp →
  Out g W Z σ H (h ds) (fun d => ∀ v H' Z' fp, PostE g bo Z Z' H H' d v fp → Q v H') → r vs H Q
theorem tCB_of {r : List V → Hp → VK → Prop} {h : List D → R D} {bo : Bool} (hr : OpC g W bo r h) {σ : L2.St} {H : Hp} {Q : VK} (q : tI g W bo (fun σ => (fa σ).bind fun r => (tupOf r).bind fun ds => h ds) σ H Q) : tCB r (tIA g W ba fa) σ H Q := by
  obtain ⟨H0, Z, fps, σl, sr, q⟩ := q
  refine ⟨H0, Z, fps, σl, sr, q.bind.imp fun x o => ?_⟩
  cases x with
  | tup ds =>
    have o : Out g W Z σ H (h ds) _ := o
    exact ⟨ds, rfl, fun vs H1 Z1 fp1 p1 => hr Z1 σ H1 ds vs fp1 Q p1.zx.inn p1.rep (o.step p1.same p1.zx fun d q v H' Z' fp p => q v H' Z' fp (p.pre p1.same p1.zx))⟩
  | _ => exact o.elim
theorem se_callB {x : Str} {p : Pos} {e : Expr} {es : List Expr} {id : String} {r : List V → Hp → VK → Prop} {h : List D → R D} {bo : Bool} (hc : CallR X (.builtin id) r) (hr : OpC g W bo r h) (hg : Gl X x) (hm : X.mg x = none) (hv : bootBuiltins x = some (.builtin id))
    (ha : PA X (e :: es) (tIA g W ba fa)) (hn : x ≠ "__name__") (hdb : (x == ("__debug__" : Str)) = false) (he : starEach (e :: es) X.env = (false, eval e X.env) :: starEach es X.env) (hpl : (backTo pos (starEach es X.env)).any (·.1) = false) :
    PE X (.Call (.Name x p) (e :: es) [] pos) (tI g W bo fun σ => (fa σ).bind fun r => (tupOf r).bind fun ds => h ds) := (pe_callB hc hg hm hv ha hn hdb he hpl).imp fun _ _ _ q => tCB_of hr q
theorem se_callTy {x : Str} {p : Pos} {e : Expr} {es : List Expr} {T : String} {r : List V → Hp → VK → Prop} {h : List D → R D} {bo : Bool} (hc : CallR X (.type T) r) (hr : OpC g W bo r h) (hg : Gl X x) (hm : X.mg x = none) (hv : bootBuiltins x = some (.type T))
    (ha : PA X (e :: es) (tIA g W ba fa)) (hn : x ≠ "__name__") (hdb : (x == ("__debug__" : Str)) = false) (he : starEach (e :: es) X.env = (false, eval e X.env) :: starEach es X.env) (hpl : (backTo pos (starEach es X.env)).any (·.1) = false) :
    PE X (.Call (.Name x p) (e :: es) [] pos) (tI g W bo fun σ => (fa σ).bind fun r => (tupOf r).bind fun ds => h ds) := (pe_callTy hc hg hm hv ha hn hdb he hpl).imp fun _ _ _ q => tCB_of hr q

/-! ### a call of a def of the text -/
/-- the promise: what h says of the arguments' data -/
def spI (g : Gv) (n : Nat) (h : List D → R D) : Sp := fun vs H Q E => ∃ (Z : Addr → Prop) (ds : List D), (∀ a, Z a → H a ≠ none) ∧ Reps g Z H ds vs [] ∧ ds.length = n ∧
  Out g (fun cls d _ H => E cls d H) Z [] H (h ds) fun d => ∀ v H' Z' fp, PostE g true Z Z' H H' d v fp → Q v H'
theorem frzL_length (ds : List D) : (frzL ds).length = ds.length := by rw [frzL_map, List.length_map]
theorem call_sp {n : Nat} {h : List D → R D} {Z Z1 : Addr → Prop} {H H1 : Hp} {σ : L2.St} {ds : List D} {vs : List V} {fp1 : List Addr} {Q : VK} {bo : Bool} (p1 : PostA g ba Z Z1 H H1 ds vs fp1) (hn : ds.length = n)
    (o : Out g W Z σ H ((h (frzL ds)).bind fun d => if (cleanL ds || noFrz d) = true then .ok d else .bad) fun d => ∀ v H' Z' fp, PostE g bo Z Z' H H' d v fp → Q v H') :
    spI g n h vs H1 Q (fun cls d H => W cls d σ H) := by
  refine ⟨fun a => Z1 a ∨ a ∈ fp1, frzL ds, fun a ha => ?_, p1.rep.frz (fun a z => .inl z) (fun a m => .inr m), by rw [frzL_length]; exact hn, ?_⟩
  · rcases ha with z | m
    · exact p1.zx.inn a z
    · exact Reps.there p1.rep a m
  · cases hh : h (frzL ds) with
    | ok d =>
      rw [hh] at o
      obtain ⟨hc, o⟩ := Out.guard (show Out g W Z σ H (if (cleanL ds || noFrz d) = true then R.ok d else .bad) _ from o)
      intro v H' Z' fp p2
      refine o v H' (fun a => Z1 a ∨ (Z' a ∧ H1 a = none)) fp ⟨same_trans p1.same p2.same, ⟨fun a z => .inl (p1.zx.le a z), fun a z => ?_, fun a z => ?_⟩, ?_, fun _ => ⟨(p2.own rfl).1, fun a ha => ?_⟩⟩
      · rcases z with z | ⟨_, z⟩
        · exact p1.zx.new a z
        · exact .inr (same_none p1.same z)
      · rcases z with z | ⟨z, _⟩
        · exact fun e => p1.zx.inn a z (same_none p2.same e)
        · exact p2.zx.inn a z
      · rw [Bool.or_eq_true] at hc
        rcases hc with hc | hc
        · have e := p1.rep.clean hc
          subst e
          refine p2.rep.same (fun a z => ?_) (same_refl H')
          rcases p2.zx.new a z with (q | q) | q
          · exact .inl q
          · exact nomatch q
          · exact .inr ⟨z, q⟩
        · exact p2.rep.unzone hc
      · obtain ⟨h1, h2⟩ := (p2.own rfl).2 a ha
        refine ⟨same_none p1.same h1, fun z => ?_⟩
        rcases z with z | ⟨z, _⟩
        · exact p1.zx.inn a z h1
        · exact h2 z
    | err c fs =>
      rw [hh] at o
      intro H' Z' cls d s z e
      refine o H' (fun a => Z1 a ∨ (Z' a ∧ H1 a = none)) cls d (same_trans p1.same s) ⟨fun a z => .inl (p1.zx.le a z), fun a z => ?_, fun a z' => ?_⟩ e
      · rcases z with z | ⟨_, z⟩
        · exact p1.zx.new a z
        · exact .inr (same_none p1.same z)
      · rcases z' with z' | ⟨z', _⟩
        · exact fun e => p1.zx.inn a z' (same_none s e)
        · exact z.inn a z'
    | bad =>
      rw [hh] at o
      exact o.elim
theorem se_call {x : Str} {p : Pos} {e : Expr} {es : List Expr} {k n : Nat} {f : Addr} {fd : FuncData} {ps : List Str} {h : List D → R D} (F : FnOk X.prog X.w X.K X.mg X.base (L2.CX X.prog X.w) k f fd ps (spI g n h)) (hr : Room k X.A) (hg : Gl X x) (hm : X.mg x = some (.ref f))
    (hk : PySem.W.keepIn X.K (.ref f) = true) (hb : Binds X.K fd ps []) (tk : Takes X W) (ha : PA X (e :: es) (tIA g W ba fa)) (hlen : ∀ σ ds, fa σ = .ok (.tup ds) → ds.length = n) (hdb : (x == ("__debug__" : Str)) = false) (he : starEach (e :: es) X.env = (false, eval e X.env) :: starEach es X.env) (hpl : (backTo pos (starEach es X.env)).any (·.1) = false) :
    PE X (.Call (.Name x p) (e :: es) [] pos) (tI g W true fun σ => (fa σ).bind fun r => (tupOf r).bind fun ds => (h (frzL ds)).bind fun d => if (cleanL ds || noFrz d) = true then .ok d else .bad) :=
  (pe_callSD (dvs := []) (E := fun σ cls d H => W cls d σ H) F hr hg hm hk hb .nil (fun σ => passAt tk σ) ha hdb he hpl).imp fun σ H Q q => by
    obtain ⟨H0, Z, fps, σl, sr, q⟩ := q
    refine ⟨H0, Z, fps, σl, sr, ?_⟩
    have q := Out.bind q
    cases hx : fa σl with
    | ok x =>
      rw [hx] at q
      cases x with
      | tup ds =>
        refine ⟨ds, rfl, fun vs H1 Z1 fp1 p1 => ?_⟩
        show spI g n h (vs ++ []) H1 Q _
        rw [List.append_nil]
        exact call_sp p1 (hlen σl ds hx) q
      | _ => exact q.elim
    | err c fs => rw [hx] at q; exact q
    | bad => rw [hx] at q; exact q.elim

/-! ### the built-ins' data -/
theorem reps1 {Z : Addr → Prop} {H : Hp} {x : D} {vs : List V} {fp : List Addr} (r : Reps g Z H [x] vs fp) : ∃ v, vs = [v] ∧ Rep g Z H x v fp := by
  cases r with
  | cons h hs =>
    cases hs
    exact ⟨_, rfl, by rw [List.append_nil]; exact h⟩
theorem reps2 {Z : Addr → Prop} {H : Hp} {x y : D} {vs : List V} {fp : List Addr} (r : Reps g Z H [x, y] vs fp) : ∃ v u f f', vs = [v, u] ∧ Rep g Z H x v f ∧ Rep g Z H y u f' := by
  cases r with
  | cons h hs =>
    obtain ⟨u, rfl, h2⟩ := reps1 hs
    exact ⟨_, _, _, _, rfl, h, h2⟩
def rLenD (X : Cx) : List V → Hp → VK → Prop := fun xs H Q => (∃ p ys, xs = [.ref p] ∧ (SqL X.K H p ys ∨ SqT X.K H p ys) ∧ Q (.int ys.length) H) ∨ ((∃ z, xs = [.str z] ∧ z.length ≤ sizeLine ∧ Q (.int z.length) H) ∨
  ((∃ p kv, xs = [.ref p] ∧ Rd H p (.dK kv) ∧ Q (.int kv.length) H) ∨ ∃ p ys, xs = [.ref p] ∧ H p = some (rawN X.prog X.w p ys) ∧ (∀ q ∈ ys, KRep X.K H q.1 (.ref q.2.1) ∧ q.1.depth ≤ 8) ∧ Q (.int ys.length) H))
theorem call_len_dN : CallR X (.builtin "len") (fun xs H Q => ∃ p ys, xs = [.ref p] ∧ H p = some (rawN X.prog X.w p ys) ∧ (∀ q ∈ ys, KRep X.K H q.1 (.ref q.2.1) ∧ q.1.depth ≤ 8) ∧ Q (.int ys.length) H) := by
  intro pins s σ H xs us Q I r h
  obtain ⟨p, ys, rfl, hp, hk, q⟩ := h
  obtain ⟨u, rfl, rx⟩ := L2.vals1 r
  cases rx
  obtain ⟨⟨hl, hd, hn, zs, hq, ob, es, ep, h1, h2, h3, h4⟩, _⟩ := I.hok p _ hp
  have hl2 := PN.length hq
  have dd : s.heap.DictOfH (nestedKind X.prog X.w) p zs := by
    refine ⟨ob, es, ep, h1, h2, h3, h4, fun x hx => ?_, by rw [PN.keys hq]; exact hn⟩
    have all : ∀ {l : List (NestedKey × Addr × V)} {m : List (NestedKey × Addr × Value)}, PN l m → (∀ p ∈ l, KRep X.K H p.1 (.ref p.2.1) ∧ p.1.depth ≤ 8) → ∀ x ∈ m, (nestedKind X.prog X.w).is s.heap x.1 x.2.1 := by
      intro l m q
      induction q with
      | nil => intro _ x hx; exact nomatch hx
      | @cons p q ps qs hq t ih =>
        intro hk x hx
        rcases List.mem_cons.mp hx with e | hx
        · subst e
          obtain ⟨k1, k2⟩ := hk p List.mem_cons_self
          refine ⟨?_, by rw [← hq.1]; exact k2⟩
          rw [← hq.1, ← hq.2.1]
          exact KRep.is (v := .ref p.2.1) (u := .ref p.2.1) I k1 rfl
        · exact ih (fun p hp => hk p (List.mem_cons_of_mem _ hp)) x hx
    exact all hq hk x hx
  refine call_len_dictH hd dd (by rw [← hl2]; rw [sizeLine_eq] at hl; omega) ?_
  rw [← hl2]
  exact ⟨.int ((ys.length : Nat) : Int), H, I.tok _, ⟨_, rfl⟩, q⟩
theorem call_len_dK : CallR X (.builtin "len") (fun xs H Q => ∃ p kv, xs = [.ref p] ∧ Rd H p (.dK kv) ∧ Q (.int kv.length) H) := by
  intro pins s σ H xs us Q I r h
  obtain ⟨p, kv, rfl, hp, q⟩ := h
  obtain ⟨u, rfl, rx⟩ := L2.vals1 r
  cases rx
  exact d_len I hp fun t s' I' => ⟨.int kv.length, H, I', ⟨t, rfl⟩, q⟩
theorem cr_lenD : CallR X (.builtin "len") (rLenD X) := call_len_seq.or (call_len_str.or (call_len_dK.or call_len_dN))
theorem opc_len (G : Gof g X) : OpC g W true (rLenD X) (biD .len) := by
  intro Z σ H ds vs fp Q hz r o
  cases ds with
  | nil => exact o.elim
  | cons x r' =>
    cases r' with
    | cons y r' => cases x <;> exact o.elim
    | nil =>
      obtain ⟨v, rfl, rx⟩ := reps1 r
      cases x with
      | lst o' xs =>
        obtain ⟨a, ys, fs, rfl, hq, rs, _⟩ := rep_lst' rx
        have o : ∀ v H' Z' fp, PostE g true Z Z' H H' (.int xs.length) v fp → Q v H' := o
        rw [rs.length] at o
        exact .inl ⟨a, ys, rfl, .inl (by rw [G.K]; exact hq), o _ H Z [] (post_sc hz (.int _))⟩
      | tup xs =>
        obtain ⟨a, ys, rfl, hq, rs⟩ := rep_tup rx
        have o : ∀ v H' Z' fp, PostE g true Z Z' H H' (.int xs.length) v fp → Q v H' := o
        rw [rs.length] at o
        exact .inl ⟨a, ys, rfl, .inr (by rw [G.K]; exact hq), o _ H Z [] (post_sc hz (.int _))⟩
      | str z =>
        obtain ⟨hl, o⟩ := Out.guard (show Out g W Z σ H (if z.length ≤ sizeLine then R.ok (D.int z.length) else .bad) _ from o)
        obtain ⟨rfl, _⟩ := rep_str rx
        exact .inr (.inl ⟨z, rfl, hl, o _ H Z [] (post_sc hz (.int _))⟩)
      | dct o' kvs =>
        have o : ∀ v H' Z' fp, PostE g true Z Z' H H' (.int kvs.length) v fp → Q v H' := o
        have q := o _ H Z [] (post_sc hz (.int _))
        cases rx with
        | @dK a kv _ _ _ h e hs w =>
          have e2 : kvs.length = kv.length := by have := congrArg List.length e; simpa using this.symm
          rw [e2] at q
          exact .inr (.inr (.inl ⟨a, kv, rfl, .inl h, q⟩))
        | @dN a xs _ _ _ h e ne hk hs w =>
          have e2 : kvs.length = xs.length := by have := congrArg List.length e; simpa using this.symm
          rw [e2] at q
          exact .inr (.inr (.inr ⟨a, xs, rfl, by rw [G.P, G.w]; exact h, by rw [G.K]; exact hk, q⟩))
      | _ => exact o.elim
end
end DI
/-! DI, the other built-ins, the methods -/
namespace DI
open PySem PySem.Spec PyProof.Rows L2

section
variable {X : Cx} {g : Gv} {W : L2.WX}
theorem reps_ints {Z : Addr → Prop} {H : Hp} : ∀ {xs : List D} {vs : List V} {fp : List Addr} {ns : List Int}, Reps g Z H xs vs fp → intsD xs = some ns → vs = ns.map V.int
  | [], _, _, _, r, e => by cases r; cases e; rfl
  | x :: xs, _, _, _, r, e => by
    cases r with
    | cons h hs =>
      cases x with
      | int i =>
        obtain ⟨ms, e1, rfl⟩ := Option.map_eq_some_iff.mp (show (intsD xs).map (i :: ·) = some _ from e)
        obtain ⟨rfl, _⟩ := rep_int h
        rw [reps_ints hs e1]
        rfl
      | _ => cases e
theorem reps_bls {Z : Addr → Prop} {H : Hp} : ∀ {xs : List D} {vs : List V} {fp : List Addr} {ns : List Bool}, Reps g Z H xs vs fp → blsD xs = some ns → vs = ns.map V.bl
  | [], _, _, _, r, e => by cases r; cases e; rfl
  | x :: xs, _, _, _, r, e => by
    cases r with
    | cons h hs =>
      cases x with
      | bl i =>
        obtain ⟨ms, e1, rfl⟩ := Option.map_eq_some_iff.mp (show (blsD xs).map (i :: ·) = some _ from e)
        obtain ⟨rfl, _⟩ := rep_bl h
        rw [reps_bls hs e1]
        rfl
      | _ => cases e
theorem reps_strs {Z : Addr → Prop} {H : Hp} : ∀ {xs : List D} {vs : List V} {fp : List Addr} {ns : List Str}, Reps g Z H xs vs fp → strsD xs = some ns → vs = ns.map V.str
  | [], _, _, _, r, e => by cases r; cases e; rfl
  | x :: xs, _, _, _, r, e => by
    cases r with
    | cons h hs =>
      cases x with
      | str i =>
        obtain ⟨ms, e1, rfl⟩ := Option.map_eq_some_iff.mp (show (strsD xs).map (i :: ·) = some _ from e)
        obtain ⟨rfl, _⟩ := rep_str h
        rw [reps_strs hs e1]
        rfl
      | _ => cases e
theorem reps_of_strs {Z : Addr → Prop} {H : Hp} : ∀ ns : List Str, Reps g Z H (ns.map D.str) (ns.map V.str) []
  | [] => .nil
  | x :: r => .cons (f := []) (fs := []) (.str x) (reps_of_strs r)

/-- one argument alone -/
theorem one_arg {h : List D → R D} {Z : Addr → Prop} {σ : L2.St} {H : Hp} {ds : List D} {vs : List V} {fp : List Addr} {P : D → Prop} (r : Reps g Z H ds vs fp) (o : Out g W Z σ H (h ds) P) (h0 : h [] = .bad) (h2 : ∀ x y r, h (x :: y :: r) = .bad) :
    ∃ x v, ds = [x] ∧ vs = [v] ∧ Rep g Z H x v fp ∧ Out g W Z σ H (h [x]) P := by
  cases ds with
  | nil => rw [h0] at o; exact o.elim
  | cons x r' =>
    cases r' with
    | nil =>
      obtain ⟨v, rfl, rx⟩ := reps1 r
      exact ⟨x, v, rfl, rfl, rx, o⟩
    | cons y r' => rw [h2] at o; exact o.elim
theorem two_args {h : List D → R D} {Z : Addr → Prop} {σ : L2.St} {H : Hp} {ds : List D} {vs : List V} {fp : List Addr} {P : D → Prop} (r : Reps g Z H ds vs fp) (o : Out g W Z σ H (h ds) P) (h0 : h [] = .bad) (h1 : ∀ x, h [x] = .bad) (h2 : ∀ x y z r, h (x :: y :: z :: r) = .bad) :
    ∃ x y v u f f', ds = [x, y] ∧ vs = [v, u] ∧ Rep g Z H x v f ∧ Rep g Z H y u f' ∧ Out g W Z σ H (h [x, y]) P := by
  cases ds with
  | nil => rw [h0] at o; exact o.elim
  | cons x r' =>
    cases r' with
    | nil => rw [h1] at o; exact o.elim
    | cons y r' =>
      cases r' with
      | nil =>
        obtain ⟨v, u, f, f', rfl, rx, ry⟩ := reps2 r
        exact ⟨x, y, v, u, f, f', rfl, rfl, rx, ry, o⟩
      | cons z r' => rw [h2] at o; exact o.elim
theorem opc_tuple (G : Gof g X) : OpC g W true (fun xs H Q => ∃ p ys, xs = [.ref p] ∧ ((SqL X.K H p ys ∧ ∀ l, H l = none → Q (.ref l) (upd H l (.tup ys))) ∨ (SqT X.K H p ys ∧ Q (.ref p) H))) (biD .tuple) := by
  intro Z σ H ds vs fp Q hz r o
  obtain ⟨x, v, rfl, rfl, rx, o⟩ := one_arg r o rfl (fun x _ _ => by cases x <;> rfl)
  cases x with
  | lst o' xs =>
    obtain ⟨hc, o⟩ := Out.guard (show Out g W Z σ H (if cleanL xs = true then R.ok (D.tup xs) else .bad) _ from o)
    obtain ⟨a, ys, fs, rfl, hq, rs, _⟩ := rep_lst' rx
    exact ⟨a, ys, rfl, .inl ⟨by rw [G.K]; exact hq, fun p hp => o _ _ Z [] (post_new hz hp (.tup (.of upd_same) ((rs.to0 hc).same (fun _ z => z) (same_upd hp))) (.inl rfl))⟩⟩
  | tup xs =>
    obtain ⟨hc, o⟩ := Out.guard (show Out g W Z σ H (if cleanL xs = true then R.ok (D.tup xs) else .bad) _ from o)
    obtain ⟨a, ys, rfl, hq, rs⟩ := rep_tup rx
    exact ⟨a, ys, rfl, .inr ⟨by rw [G.K]; exact hq, o _ H Z [] (post_sc hz (.tup hq (rs.to0 hc)))⟩⟩
  | _ => exact o.elim
theorem opc_list (G : Gof g X) : OpC g W true (fun xs H Q => ∃ p ys, xs = [.ref p] ∧ (SqL X.K H p ys ∨ SqT X.K H p ys) ∧ ∀ l, H l = none → Q (.ref l) (upd H l (.lst ys))) (biD .list) := by
  intro Z σ H ds vs fp Q hz r o
  obtain ⟨x, v, rfl, rfl, rx, o⟩ := one_arg r o rfl (fun x _ _ => by cases x <;> rfl)
  cases x with
  | lst o' xs =>
    obtain ⟨hc, o⟩ := Out.guard (show Out g W Z σ H (if cleanL xs = true then R.ok (D.lst true xs) else .bad) _ from o)
    obtain ⟨a, ys, fs, rfl, hq, rs, _⟩ := rep_lst' rx
    exact ⟨a, ys, rfl, .inl (by rw [G.K]; exact hq), fun p hp => o _ _ Z [p] (post_new hz hp (.lst upd_same ((rs.to0 hc).same (fun _ z => z) (same_upd hp)) own_new) (.inr rfl))⟩
  | tup xs =>
    obtain ⟨hc, o⟩ := Out.guard (show Out g W Z σ H (if cleanL xs = true then R.ok (D.lst true xs) else .bad) _ from o)
    obtain ⟨a, ys, rfl, hq, rs⟩ := rep_tup rx
    exact ⟨a, ys, rfl, .inr (by rw [G.K]; exact hq), fun p hp => o _ _ Z [p] (post_new hz hp (.lst upd_same ((rs.to0 hc).same (fun _ z => z) (same_upd hp)) own_new) (.inr rfl))⟩
  | _ => exact o.elim
def rIntD : List V → Hp → VK → Prop := fun xs H Q => ((∃ i, xs = [.int i] ∧ Q (.int i) H) ∨ ∃ k, xs = [.bl k] ∧ Q (.int (if k = true then 1 else 0)) H) ∨ ∃ a n, xs = [.str a] ∧ PySem.intText? a = some n ∧ a.length ≤ 640 ∧ Q (.int n) H
theorem cr_intD : CallR X (.type "int") rIntD := call_int1.or call_int_str
theorem opc_int : OpC g W true rIntD (biD .int) := by
  intro Z σ H ds vs fp Q hz r o
  obtain ⟨x, v, rfl, rfl, rx, o⟩ := one_arg r o rfl (fun x _ _ => by cases x <;> rfl)
  cases x with
  | int i =>
    obtain ⟨rfl, _⟩ := rep_int rx
    exact .inl (.inl ⟨i, rfl, o _ H Z [] (post_sc hz (.int _))⟩)
  | bl i =>
    obtain ⟨rfl, _⟩ := rep_bl rx
    exact .inl (.inr ⟨i, rfl, o _ H Z [] (post_sc hz (.int _))⟩)
  | str z =>
    obtain ⟨rfl, _⟩ := rep_str rx
    have o : Out g W Z σ H (match PySem.intText? z with | some n => if z.length ≤ 640 then R.ok (D.int n) else .bad | none => .bad) _ := o
    cases e : PySem.intText? z with
    | none => rw [e] at o; exact o.elim
    | some n =>
      rw [e] at o
      obtain ⟨hc, o⟩ := Out.guard o
      exact .inr ⟨z, n, rfl, e, hc, o _ H Z [] (post_sc hz (.int _))⟩
  | _ => exact o.elim
theorem opc_str : OpC g W true (fun xs H Q => ∃ i, xs = [.int i] ∧ i.natAbs.log2 < 1920 ∧ Q (.str (toString i)) H) (biD .str) := by
  intro Z σ H ds vs fp Q hz r o
  obtain ⟨x, v, rfl, rfl, rx, o⟩ := one_arg r o rfl (fun x _ _ => by cases x <;> rfl)
  cases x with
  | int i =>
    obtain ⟨rfl, _⟩ := rep_int rx
    obtain ⟨hc, o⟩ := Out.guard (show Out g W Z σ H (if i.natAbs.log2 < 1920 then R.ok (D.str (Str.ofString (toString i))) else .bad) _ from o)
    exact ⟨i, rfl, hc, o _ H Z [] (post_sc hz (.str _))⟩
  | _ => exact o.elim
theorem opc_abs : OpC g W true (fun xs H Q => ∃ i, xs = [.int i] ∧ Q (.int (if i < 0 then -i else i)) H) (biD .abs) := by
  intro Z σ H ds vs fp Q hz r o
  obtain ⟨x, v, rfl, rfl, rx, o⟩ := one_arg r o rfl (fun x _ _ => by cases x <;> rfl)
  cases x with
  | int i =>
    obtain ⟨rfl, _⟩ := rep_int rx
    exact ⟨i, rfl, o _ H Z [] (post_sc hz (.int _))⟩
  | _ => exact o.elim
theorem opc_min : OpC g W true (fun xs H Q => ∃ i j, xs = [.int i, .int j] ∧ Q (.int (if j < i then j else i)) H) (biD .min) := by
  intro Z σ H ds vs fp Q hz r o
  obtain ⟨x, y, v, u, f, f', rfl, rfl, rx, ry, o⟩ := two_args r o rfl (fun x => by cases x <;> rfl) (fun x y _ _ => by cases x <;> cases y <;> rfl)
  cases x with
  | int i =>
    cases y with
    | int j =>
      obtain ⟨rfl, _⟩ := rep_int rx
      obtain ⟨rfl, _⟩ := rep_int ry
      exact ⟨i, j, rfl, o _ H Z [] (post_sc hz (.int _))⟩
    | _ => exact o.elim
  | _ => exact o.elim
theorem opc_max : OpC g W true (fun xs H Q => ∃ i j, xs = [.int i, .int j] ∧ Q (.int (if j > i then j else i)) H) (biD .max) := by
  intro Z σ H ds vs fp Q hz r o
  obtain ⟨x, y, v, u, f, f', rfl, rfl, rx, ry, o⟩ := two_args r o rfl (fun x => by cases x <;> rfl) (fun x y _ _ => by cases x <;> cases y <;> rfl)
  cases x with
  | int i =>
    cases y with
    | int j =>
      obtain ⟨rfl, _⟩ := rep_int rx
      obtain ⟨rfl, _⟩ := rep_int ry
      exact ⟨i, j, rfl, o _ H Z [] (post_sc hz (.int _))⟩
    | _ => exact o.elim
  | _ => exact o.elim
theorem opc_sum (G : Gof g X) : OpC g W true (rSum X.K) (biD .sum) := by
  intro Z σ H ds vs fp Q hz r o
  obtain ⟨x, v, rfl, rfl, rx, o⟩ := one_arg r o rfl (fun x _ _ => by cases x <;> rfl)
  cases x with
  | lst o' xs =>
    have o : Out g W Z σ H (match intsD xs with | some ns => R.ok (D.int ns.sum) | none => .bad) _ := o
    cases e : intsD xs with
    | none => rw [e] at o; exact o.elim
    | some ns =>
      rw [e] at o
      obtain ⟨a, ys, fs, rfl, hq, rs, _⟩ := rep_lst' rx
      have e2 := reps_ints rs e
      subst e2
      exact ⟨a, ns, rfl, by rw [G.K]; exact hq, o _ H Z [] (post_sc hz (.int _))⟩
  | _ => exact o.elim
theorem opc_all (G : Gof g X) : OpC g W true (rAll X.K) (biD .all) := by
  intro Z σ H ds vs fp Q hz r o
  obtain ⟨x, v, rfl, rfl, rx, o⟩ := one_arg r o rfl (fun x _ _ => by cases x <;> rfl)
  cases x with
  | lst o' xs =>
    have o : Out g W Z σ H (match blsD xs with | some ns => R.ok (D.bl (ns.all id)) | none => .bad) _ := o
    cases e : blsD xs with
    | none => rw [e] at o; exact o.elim
    | some ns =>
      rw [e] at o
      obtain ⟨a, ys, fs, rfl, hq, rs, _⟩ := rep_lst' rx
      have e2 := reps_bls rs e
      subst e2
      exact ⟨a, ns, rfl, by rw [G.K]; exact hq, o _ H Z [] (post_sc hz (.bl _))⟩
  | _ => exact o.elim

/-! ### isinstance of a built-in type -/
def Ty.nm : Ty → String
  | .str => "str" | .int => "int" | .bool => "bool" | .tuple => "tuple" | .list => "list"
def rIsiD (K : PySem.W.Frag) (t : Ty) : List V → Hp → VK → Prop := fun xs H Q => rIsi K (xs ++ [.ty t.nm]) H Q
theorem ty_of (G : Gof g X) {Z : Addr → Prop} {H : Hp} {x : D} {v : V} {f : List Addr} {t : Ty} {b : Bool} (r : Rep g Z H x v f) (e : isTy t x = .ok b) : ∃ n, TyX X.K H v (.type n) ∧ kitB n t.nm = some b := by
  cases r with
  | non => exact ⟨_, .base .non, by cases t <;> cases e <;> decide +kernel⟩
  | bl y => exact ⟨_, .base (.bl y), by cases t <;> cases e <;> decide +kernel⟩
  | int y => exact ⟨_, .base (.int y), by cases t <;> cases e <;> decide +kernel⟩
  | str y => exact ⟨_, .base (.str y), by cases t <;> cases e <;> decide +kernel⟩
  | tup h hs =>
    refine ⟨"tuple", ?_, by cases t <;> cases e <;> decide +kernel⟩
    rcases h with (h | ⟨o, h⟩) | ⟨o, its, n, hk, hc, _⟩
    · exact .base (.tup h)
    · exact .fTuple h
    · exact .kTuple (by rw [G.K]; exact hk) hc
  | lst h hs w => exact ⟨"list", .base (.lst h), by cases t <;> cases e <;> decide +kernel⟩
  | lstR h hs =>
    rcases h with ⟨ob, h⟩ | ⟨o, its, n, hk, hc, _⟩
    · exact ⟨"list", .base (.frz h), by cases t <;> cases e <;> decide +kernel⟩
    · exact ⟨"list", .kList (by rw [G.K]; exact hk) hc, by cases t <;> cases e <;> decide +kernel⟩
  | dK h e2 hs w => cases t <;> cases e
  | dN h e2 ne hk hs w => cases t <;> cases e
theorem opc_isi (G : Gof g X) {t : Ty} : OpC g W true (rIsiD X.K t) (biD (.isi t)) := by
  intro Z σ H ds vs fp Q hz r o
  obtain ⟨x, v, rfl, rfl, rx, o⟩ := one_arg r o rfl (fun x _ _ => rfl)
  have o : Out g W Z σ H (blR (isTy t x)) _ := o
  obtain ⟨b, h, q⟩ := Out.bl hz (fun c fs h => by cases t <;> cases x <;> cases h) o
  obtain ⟨n, ty, k⟩ := ty_of G rx h
  exact ⟨v, .ty t.nm, .type n, .type t.nm, b, rfl, .ty _, ty, kit_ty k, q⟩
end
end DI
/-! DI, the methods -/
namespace DI
open PySem PySem.Spec PyProof.Rows L2

section
variable {X : Cx} {g : Gv} {W : L2.WX} {fa fb fc : Sl → R D} {ba bb bc : Bool}
/-- what may be known of a receiver -/
def TyAt (X : Cx) (T : String) (x : V) (H : Hp) : Prop := ∀ (pins : List (Addr × Obj)) (σ : L2.St) (s : Shared) (v : Value), Inv X pins σ H s → RelV x v → s.TypeIs v T ∧ ∀ a, v = .ref a → ∃ ob, s.heap.get? a = some ob ∧ ob.dict = none
def tBMG (X : Cx) (T : String) (r : V → List V → Hp → VK → Prop) (to : TE) (t : TA) : TE := fun σ H Q => to σ H fun x H1 => TyAt X T x H1 ∧ t σ H1 fun xs H2 => r x xs H2 Q
theorem pe_bmG {T : String} {id : String} {name : Str} {o e : Expr} {es : List Expr} {apos cpos : Pos} {r : V → List V → Hp → VK → Prop} {to : TE} {t : TA} (pa : PlainAttrs T) (slot : Slot T name id) (hty : typeOf (.builtin id) = pure (.type "method_descriptor")) (hm : MtR X id r) (ho : PE X o to) (ha : PA X (e :: es) t)
    (hbase : attributeBase o name X.env (eval o X.env) = eval o X.env)
    (hfew : ((backTo cpos (starEach (e :: es) X.env)).all (fun x => !x.1) && (backToKw cpos (keywordEach [] X.env)).all (fun x => x.1.isSome)
      && decide ((e :: es).length + ([] : List Keyword).length + (if ([] : List Keyword).isEmpty then 0 else 1) < 30)) = true)
    (hline : (apos.endLine == cpos.line) = true) (hs : starEach (e :: es) X.env = (false, eval e X.env) :: starEach es X.env) (hplain : (backTo cpos (starEach es X.env)).any (·.1) = false) :
    PE X (.Call (.Attribute o name apos) (e :: es) [] cpos) (tBMG X T r to t) := by
  refine ⟨fun pins s σ H Q I h => ?_⟩
  refine wpAny_Call_method_late hbase hfew hline rfl (thn (ho.run pins s σ H _ I h) fun v s1 ⟨x, H1, I1, r1, ty, q1⟩ => ?_)
  obtain ⟨h1, h2⟩ := ty pins σ s1 v I1 r1
  refine ⟨T, id, pa, slot, hty, h1, h2, ?_⟩
  have hA := ha.run cpos pins s1 σ H1 _ I1 q1
  rw [hs] at hA ⊢
  refine Calls.callWith_builtin (by show (false || (backTo cpos (starEach es X.env)).any (·.1)) = false; rw [hplain] <;> rfl) (Calls.evalArgs_plain ?_)
  exact thn hA fun us s2 ⟨vs, H2, I2, r2, q2⟩ => hm pins s2 σ H2 x vs v us Q I2 r1 r2 q2
/-- a method's data -/
def rMtD (g : Gv) (m : Mt) (bo : Bool) : V → List V → Hp → VK → Prop := fun x xs H Q => ∃ Z d ds fx fp e, (∀ a, Z a → H a ≠ none) ∧ Rep g Z H d x fx ∧ Reps g Z H ds xs fp ∧ mtD m d ds = .ok e ∧ ∀ v H' Z' fp, PostE g bo Z Z' H H' e v fp → Q v H'
theorem mtD_err {m : Mt} {x : D} {ds : List D} : ∀ c fs, mtD m x ds ≠ .err c fs := fun c fs h => by
  unfold mtD at h
  split at h
  · split at h
    · split at h <;> cases h
    · cases h
  · split at h <;> cases h
  · cases h
  · split at h <;> cases h
  · rename_i xs x
    cases e : idxL x xs with
    | ok k => rw [e] at h; cases h
    | err c fs =>
      unfold idxL at e
      split at e
      · split at e
        · rename_i ds' _ _ _
          cases e2 : ds'.findIdx? _ with
          | none => rw [e2] at e; cases e
          | some k => rw [e2] at e; cases e
        · cases e
      · cases e
    | bad => rw [e] at h; cases h
  · rename_i kvs k
    cases e : keyIn k kvs with
    | ok q => rw [e] at h; cases h
    | err c fs => exact keyIn_err c fs e
    | bad => rw [e] at h; cases h
  · rename_i kvs k x
    cases e : keyIn k kvs with
    | ok q =>
      rw [e] at h
      have h : (if DI.clean x = true then R.ok ((dget kvs q).getD x) else .bad) = R.err c fs := h
      split at h <;> cases h
    | err c fs => exact keyIn_err c fs e
    | bad => rw [e] at h; cases h
  · cases h
theorem tBMG_of {T : String} {m : Mt} {bo : Bool} (hT : ∀ (Z : Addr → Prop) (H : Hp) (d : D) (v : V) (f : List Addr), recvOk m d = true → Rep g Z H d v f → TyAt X T v H) {σ : L2.St} {H : Hp} {Q : VK}
    (q : tI g W bo (fun σ => (fa σ).bind fun x => if recvOk m x = true then (fb σ).bind fun r => (tupOf r).bind fun ds => mtD m x ds else .bad) σ H Q) : tBMG X T (rMtD g m bo) (tI g W ba fa) (tIA g W bb fb) σ H Q := by
  obtain ⟨H0, Z, fps, σl, sr, q⟩ := q
  refine ⟨H0, Z, fps, σl, sr, q.bind.imp fun x h v1 H1 Z1 fp1 p1 => ?_⟩
  obtain ⟨hc, h⟩ := Out.guard h
  refine ⟨hT Z1 H1 x v1 fp1 hc p1.rep, H0, Z1, fps, σl, sr.step p1.same p1.zx, h.bind.step p1.same p1.zx fun r o => ?_⟩
  cases r with
  | tup ds =>
    refine ⟨ds, rfl, fun vs H2 Z2 fp2 p2 => ?_⟩
    have o : Out g W Z σ H (mtD m x ds) _ := o
    obtain ⟨e, he, o⟩ := o.okOf mtD_err
    have s2 := same_trans p1.same p2.same
    have z2 := p1.zx.trans p1.same p2.zx
    exact ⟨Z2, x, ds, fp1, fp2, e, p2.zx.inn, p1.rep.same p2.zx.le p2.same, p2.rep, he, fun v H' Z' fp p => o v H' Z' fp (p.pre s2 z2)⟩
  | _ => exact o.elim
theorem se_mt {T : String} {id : String} {name : Str} {o e : Expr} {es : List Expr} {apos cpos : Pos} {m : Mt} {bo : Bool} (pa : PlainAttrs T) (slot : Slot T name id) (hty : typeOf (.builtin id) = pure (.type "method_descriptor")) (hm : MtR X id (rMtD g m bo))
    (hT : ∀ (Z : Addr → Prop) (H : Hp) (d : D) (v : V) (f : List Addr), recvOk m d = true → Rep g Z H d v f → TyAt X T v H) (ho : PE X o (tI g W ba fa)) (ha : PA X (e :: es) (tIA g W bb fb))
    (hbase : attributeBase o name X.env (eval o X.env) = eval o X.env)
    (hfew : ((backTo cpos (starEach (e :: es) X.env)).all (fun x => !x.1) && (backToKw cpos (keywordEach [] X.env)).all (fun x => x.1.isSome)
      && decide ((e :: es).length + ([] : List Keyword).length + (if ([] : List Keyword).isEmpty then 0 else 1) < 30)) = true)
    (hline : (apos.endLine == cpos.line) = true) (hs : starEach (e :: es) X.env = (false, eval e X.env) :: starEach es X.env) (hplain : (backTo cpos (starEach es X.env)).any (·.1) = false) :
    PE X (.Call (.Attribute o name apos) (e :: es) [] cpos) (tI g W bo fun σ => (fa σ).bind fun x => if recvOk m x = true then (fb σ).bind fun r => (tupOf r).bind fun ds => mtD m x ds else .bad) :=
  (pe_bmG pa slot hty hm ho ha hbase hfew hline hs hplain).imp fun _ _ _ q => tBMG_of hT q

/-! ### the receivers -/
theorem tyAt_str {x : Str} {H : Hp} : TyAt X "str" (.str x) H := fun pins σ s v I r => by
  obtain ⟨t, rfl⟩ := r
  exact ⟨typeIs_str s x t, fun _ e => nomatch e⟩
theorem tyAt_lst {a : Addr} {vs : List V} {H : Hp} (h : Rd H a (.lst vs)) : TyAt X "list" (.ref a) H := fun pins σ s v I r => tyV_is I r (.inl ⟨rfl, vs, .inl h⟩)
theorem tyAt_dct {Z : Addr → Prop} {H : Hp} {o : Bool} {kvs : List (NestedKey × D)} {v : V} {f : List Addr} (r : Rep g Z H (.dct o kvs) v f) : TyAt X "dict" v H := fun pins σ s u I ru => dct_typeIs I r ru

/-! ### each method -/
theorem mtr_join (G : Gof g X) : MtR X "str.join" (rMtD g .join true) := by
  intro pins s σ H x xs v us Q I rx rs h
  obtain ⟨Z, d, ds, fx, fp, e, hz, rd, rds, he, q⟩ := h
  unfold mtD at he
  split at he <;> first | contradiction | skip
  rename_i a o ys hm
  split at he
  · rename_i zs e1
    split at he
    · rename_i hl
      cases he
      obtain ⟨rfl, _⟩ := rep_str rd
      obtain ⟨w', rfl, rw'⟩ := reps1 rds
      obtain ⟨p, ws, fs, rfl, hq, rs', _⟩ := rep_lst' rw'
      have e2 := reps_strs rs' e1
      subst e2
      exact mt_join pins s σ H _ _ v us Q I rx rs ⟨a, p, zs, rfl, rfl, .inl (by rw [G.K]; exact hq), hl, q _ H Z [] (post_sc hz (.str _))⟩
    · cases he
  · cases he
theorem mtr_split : MtR X "str.split" (rMtD g .split true) := by
  intro pins s σ H x xs v us Q I rx rs h
  obtain ⟨Z, d, ds, fx, fp, e, hz, rd, rds, he, q⟩ := h
  unfold mtD at he
  split at he <;> first | contradiction | skip
  rename_i a b hm
  split at he
  · rename_i hl
    cases he
    obtain ⟨rfl, _⟩ := rep_str rd
    obtain ⟨w', rfl, rw'⟩ := reps1 rds
    obtain ⟨rfl, _⟩ := rep_str rw'
    exact mt_split pins s σ H _ _ v us Q I rx rs ⟨a, b, rfl, rfl, hl.1, hl.2, fun p hp => q _ _ Z [p] (post_new hz hp (.lst upd_same (reps_of_strs _) own_new) (.inr rfl))⟩
  · cases he
theorem mtr_find : MtR X "str.find" (rMtD g .find true) := by
  intro pins s σ H x xs v us Q I rx rs h
  obtain ⟨Z, d, ds, fx, fp, e, hz, rd, rds, he, q⟩ := h
  unfold mtD at he
  split at he <;> first | contradiction | skip
  rename_i a b hm
  cases he
  obtain ⟨rfl, _⟩ := rep_str rd
  obtain ⟨w', rfl, rw'⟩ := reps1 rds
  obtain ⟨rfl, _⟩ := rep_str rw'
  exact mt_find pins s σ H _ _ v us Q I rx rs ⟨a, b, rfl, rfl, q _ H Z [] (post_sc hz (.int _))⟩
theorem mtr_strIndex : MtR X "str.index" (rMtD g .strIndex true) := by
  intro pins s σ H x xs v us Q I rx rs h
  obtain ⟨Z, d, ds, fx, fp, e, hz, rd, rds, he, q⟩ := h
  unfold mtD at he
  split at he <;> first | contradiction | skip
  rename_i a b hm
  obtain ⟨rfl, _⟩ := rep_str rd
  obtain ⟨w', rfl, rw'⟩ := reps1 rds
  obtain ⟨rfl, _⟩ := rep_str rw'
  obtain ⟨t, rfl⟩ := rx
  cases rs with
  | cons r1 rs =>
    cases rs
    obtain ⟨u, rfl⟩ := r1
    split at he
    · cases he
    · rename_i k rest q'
      cases he
      exact PySem.SC.index q' ⟨.int (k : Nat), H, I.tok _, ⟨_, rfl⟩, q _ H Z [] (post_sc hz (.int _))⟩
theorem mtr_lstIndex (G : Gof g X) (hu : X.A.units + 70 < cLine) : MtR X "list.index" (rMtD g .lstIndex true) := by
  intro pins s σ H x xs v us Q I rx rs h
  obtain ⟨Z, d, ds, fx, fp, e, hz, rd, rds, he, q⟩ := h
  unfold mtD at he
  split at he <;> first | contradiction | skip
  rename_i o ys y hm
  obtain ⟨w', rfl, rw'⟩ := reps1 rds
  cases e1 : idxL y ys with
  | ok n =>
    rw [e1] at he
    cases he
    unfold idxL at e1
    split at e1
    · rename_i p ps h1 h2
      split at e1
      · rename_i hs
        rw [Bool.and_eq_true] at hs
        cases e2 : ps.findIdx? (fun z => PyData.eqv z p) with
        | none => rw [e2] at e1; cases e1
        | some k =>
          rw [e2] at e1
          cases e1
          obtain ⟨a, ws, fs, rfl, hq, rs', _⟩ := rep_lst' rd
          rw [List.findIdx?_eq_some_iff_getElem] at e2
          obtain ⟨hk, e3, e4⟩ := e2
          refine mt_indexD (by omega) pins s σ H _ _ v us Q I rx rs ⟨a, w', p, ps, n, ps[n], rfl, rfl, by rw [G.K]; exact rd.dp (by simp [py, h2]), by rw [G.K]; exact rw'.dp h1, hs.2, hs.1, by simp [hk], e3, fun j z hj hz' => ?_, q _ H Z [] (post_sc hz (.int _))⟩
          have hj' : j < ps.length := by omega
          have := e4 j hj
          rw [List.getElem?_eq_getElem hj'] at hz'
          cases hz'
          simpa using this
      · cases e1
    · cases e1
  | err c fs => rw [e1] at he; cases he
  | bad => rw [e1] at he; cases he
/-- a look-up, by the data -/
theorem dct_look (G : Gof g X) {pins : List (Addr × Obj)} {σ : L2.St} {s : Shared} {Z : Addr → Prop} {H : Hp} (I : Inv X pins σ H s) {x : D} {kvs : List (NestedKey × D)} {k : NestedKey} {y d : V} (v : DV g Z H x kvs k y d) (hl : isLeafKey k = true) (hx : leafD x = true) (ha : ∀ p ∈ kvs, isLeafKey p.1 = true) :
    ∃ a o, d = .ref a ∧ DGet H a y o ∧ (match dget kvs k with | some z => ∃ w, o = some w ∧ Rep g Z H z w [] | none => o = none) := by
  obtain ⟨a, kv, q, o, fp, rfl, ha', e1, rfl, ek, rv, _⟩ := dv_leaf I v hl hx ha
  refine ⟨a, valV kv q, rfl, DGet.k (k := q) ha', ?_⟩
  rw [e1]
  exact dget_K ek rv q
theorem atKey_at (G : Gof g X) {pins : List (Addr × Obj)} {σ : L2.St} {s : Shared} {Z : Addr → Prop} {H : Hp} (I : Inv X pins σ H s) {x : D} {kvs : List (NestedKey × D)} {k : NestedKey} {y d : V} (v : DV g Z H x kvs k y d) (ht : isTupKey k = true) (hd8 : k.depth ≤ 8) (ha : ∀ p ∈ kvs, isTupKey p.1 = true) :
    ∃ a b ys, d = .ref a ∧ y = .ref b ∧ (a == sysModules) = false ∧ s.heap.DictOfH (nestedKind X.prog X.w) a ys ∧ (nestedKind X.prog X.w).is s.heap k b ∧ (match dget kvs k with | some z => ∃ w p, atKey ys k = some p ∧ RelV w p.2 ∧ Rep g Z H z w [] | none => atKey ys k = none) := by
  obtain ⟨fq, rk⟩ := v.key
  obtain ⟨o, fp, rdd⟩ := v.dict
  have hk := (keyIn_ok v.ok).1
  obtain ⟨b, rfl⟩ := tup_rep rk hk ht
  obtain ⟨a, xs, ys, rfl, nv, _⟩ := nv_of G I rdd ha
  exact ⟨a, b, ys, rfl, rfl, nv.nosys, by rw [G.P, G.w]; exact nv.dict, ⟨KRep.is (v := .ref b) (u := .ref b) I (by rw [G.K]; exact rk.krep hk) rfl, hd8⟩, nv.look k⟩
theorem mtr_get1 (G : Gof g X) (hu : X.A.units + 70 < cLine) : MtR X "dict.get" (rMtD g .get1 true) := by
  intro pins s σ H x xs v us Q I rx rs h
  obtain ⟨Z, d, ds, fx, fp, e, hz, rd, rds, he, q⟩ := h
  unfold mtD at he
  split at he <;> first | contradiction | skip
  rename_i o kvs kd hm
  obtain ⟨w', rfl, rw'⟩ := reps1 rds
  cases e1 : keyIn kd kvs with
  | ok k =>
    rw [e1] at he
    cases he
    cases rs with
    | cons r1 rs =>
      cases rs
      have dv : DV g Z H kd kvs k w' x := ⟨⟨_, rw'⟩, ⟨_, _, rd⟩, e1⟩
      rcases (keyIn_ok e1).2 with ⟨hl, hx, ha⟩ | ⟨ht, hd8, ha⟩
      · obtain ⟨a, oo, rfl, dg, lk⟩ := dct_look G I dv hl hx ha
        cases rx
        refine d_get1 (by omega) I dg r1 fun u s' I' ru => ⟨oo.getD .non, H, I', ru, ?_⟩
        cases hd : dget kvs k with
        | some z =>
          rw [hd] at lk q
          obtain ⟨w2, rfl, r2⟩ := lk
          exact q _ H Z [] (post_sc hz r2)
        | none =>
          rw [hd] at lk q
          rw [show oo = none from lk]
          exact q _ H Z [] (post_sc hz .non)
      · obtain ⟨a, b, ys, rfl, rfl, hs, dd, hk, lk⟩ := atKey_at G I dv ht hd8 ha
        cases rx
        cases r1
        refine call_meetsIn PySem.F.slot_dict_get dd.typeIs PySem.F.entry_dict_get (PySem.F.args_dict_get_2 _ _) (meetsH_dict_get (nestedKind X.prog X.w) a b hs) ⟨(show X.A.units + 1 + 8 < cLine by omega), k, ys, hk, dd, ?_⟩
        cases hd : dget kvs k with
        | some z =>
          rw [hd] at lk q
          obtain ⟨w2, p, e2, r2, r3⟩ := lk
          rw [e2]
          exact ⟨w2, H, I.tok _, r2, q _ H Z [] (post_sc hz r3)⟩
        | none =>
          rw [hd] at lk q
          rw [show atKey ys k = none from lk]
          exact ⟨.non, H, I.tok _, rfl, q _ H Z [] (post_sc hz .non)⟩
  | err c fs => rw [e1] at he; cases he
  | bad => rw [e1] at he; cases he
theorem mtr_get2 (G : Gof g X) (hu : X.A.units + 70 < cLine) : MtR X "dict.get" (rMtD g .get2 true) := by
  intro pins s σ H x xs v us Q I rx rs h
  obtain ⟨Z, d, ds, fx, fp, e, hz, rd, rds, he, q⟩ := h
  unfold mtD at he
  split at he <;> first | contradiction | skip
  rename_i o kvs kd dx hm
  obtain ⟨w', w2, f1, f2, rfl, rw', rx2⟩ := reps2 rds
  cases e1 : keyIn kd kvs with
  | ok k =>
    rw [e1] at he
    have he : (if DI.clean dx = true then R.ok ((dget kvs k).getD dx) else .bad) = R.ok e := he
    split at he
    · rename_i hc
      cases he
      have rx3 := Rep.to0 rx2 hc
      cases rs with
      | cons r1 rs =>
        cases rs with
        | cons r2' rs =>
          cases rs
          have dv : DV g Z H kd kvs k w' x := ⟨⟨_, rw'⟩, ⟨_, _, rd⟩, e1⟩
          rcases (keyIn_ok e1).2 with ⟨hl, hx, ha⟩ | ⟨ht, hd8, ha⟩
          · obtain ⟨a, oo, rfl, dg, lk⟩ := dct_look G I dv hl hx ha
            cases rx
            refine d_get2 (by omega) I dg r1 r2' fun u s' I' ru => ⟨oo.getD w2, H, I', ru, ?_⟩
            cases hd : dget kvs k with
            | some z =>
              rw [hd] at lk q
              obtain ⟨w2, rfl, r2⟩ := lk
              exact q _ H Z [] (post_sc hz r2)
            | none =>
              rw [hd] at lk q
              rw [show oo = none from lk]
              exact q _ H Z [] (post_sc hz rx3)
          · obtain ⟨a, b, ys, rfl, rfl, hs, dd, hk, lk⟩ := atKey_at G I dv ht hd8 ha
            cases rx
            cases r1
            refine call_meetsIn PySem.F.slot_dict_get dd.typeIs PySem.F.entry_dict_get (PySem.F.args_dict_get_3 _ _ _) (meetsH_dict_get_default (nestedKind X.prog X.w) a b hs _) ⟨(show X.A.units + 1 + 8 < cLine by omega), k, ys, hk, dd, ?_⟩
            cases hd : dget kvs k with
            | some z =>
              rw [hd] at lk q
              obtain ⟨w2, p, e2, r2, r3⟩ := lk
              rw [e2]
              exact ⟨w2, H, I.tok _, r2, q _ H Z [] (post_sc hz r3)⟩
            | none =>
              rw [hd] at lk q
              rw [show atKey ys k = none from lk]
              exact ⟨w2, H, I.tok _, r2', q _ H Z [] (post_sc hz rx3)⟩
    · cases he
  | err c fs => rw [e1] at he; cases he
  | bad => rw [e1] at he; cases he
end
end DI
/-! DI, what is walked -/
namespace PySem
open Sem (wp)
set_option maxHeartbeats 1000000 in
theorem di_enumerate_new1 {v : Value} {o : Obj} {H : Heap → Prop} (B : Begins v o H) :
    Meets (Builtin.«enumerate.__new__» ⟨[.type "enumerate", v], []⟩) (fun _ R s => H s.heap ∧
      R (.ok (.ret (.ref (s.heap.push o).objs.size))) { s with heap := (s.heap.push o).push { cls := .type "enumerate", data := .fields #[.none, .bool false, .ref s.heap.objs.size, rawInt 0, .none, .none] } }) :=
  .of_wp fun prog w A R s h => by
    obtain ⟨hp, g, d, tk, os⟩ := s; obtain ⟨h1, h⟩ := h
    have hsub := sub_enumerate
    have q1 : ∀ {A' : Around} {E : Value → Shared → Prop} {Q : Value → Shared → Prop}, Q (.ref hp.objs.size) ⟨hp.push o, g, d, tk, os⟩ → wpAny (model prog w) A' (pyIter v) Q E ⟨hp, g, d, tk, os⟩ :=
      fun q => B.iter prog w _ _ ⟨hp, g, d, tk, os⟩ _ h1 q
    wp_walk using q1
    refine wpAny_stack_any fun st => wpAny_pure ?_
    split
    · rename_i c _ _ _ _ _
      cases (c == Value.type "enumerate")
      · wp_walk using q1
        exact ⟨_, rfl, h⟩
      · wp_walk using q1
        exact ⟨_, rfl, h⟩
    · wp_walk using q1
      exact ⟨_, rfl, h⟩
end PySem

namespace DI
open PySem PySem.Spec PyProof.Rows L2
/-- enumerate(v) of anything that begins so -/
theorem enum1_begins {prog : Program} {w : World} {A : Around} {E : Value → Shared → Prop} {s : Shared} {v : Value} {o : Obj} {H : Heap → Prop} {Q : Value → Shared → Prop} (B : Begins v o H) (h1 : H s.heap)
    (h : ∀ h', IsEnum h' (s.heap.objs.size + 1) s.heap.objs.size 0 .none → h'.get? s.heap.objs.size = some o → h'.objs.size = s.heap.objs.size + 2 →
      (∀ b o, s.heap.get? b = some o → h'.get? b = some o) → Q (.ref (s.heap.objs.size + 1)) { s with heap := h' }) :
    wpAny (model prog w) A (call (.type "enumerate") [v]) Q E s := by
  refine callType_new F.called_enumerate (by decide) (F.typeCall_enumerate_1 _) (F.newCall_enumerate_1 _) (fun obj => F.args_object_init_2 obj _) F.entry_enumerate_new
    (di_enumerate_new1 B) ⟨h1, ?_⟩
  have hz : (s.heap.push o).objs.size = s.heap.objs.size + 1 := Heap.size_push ..
  show _ ∧ _
  rw [hz]
  have he : IsEnum ((s.heap.push o).push { cls := .type "enumerate", data := .fields #[.none, .bool false, .ref s.heap.objs.size, rawInt 0, .none, .none] }) (s.heap.objs.size + 1) s.heap.objs.size 0 .none := by
    have := Heap.get?_push_size (s.heap.push o) (o := { cls := .type "enumerate", data := .fields #[.none, .bool false, .ref s.heap.objs.size, rawInt 0, .none, .none] }) rfl
    rw [hz] at this; exact this
  refine ⟨⟨_, he, rfl⟩, h _ he (Heap.get?_push_of_some _ (Heap.get?_push_size _ B.free)) (by rw [Heap.size_push, hz]) fun b o x => Heap.get?_push_of_some _ (Heap.get?_push_of_some _ x)⟩

/-! ### sources: a list, a tuple, a text -/
inductive SK where
  | l (a : Addr) | t (a : Addr) | s (z : Str)
def SK.val : SK → V
  | .l a => .ref a | .t a => .ref a | .s z => .str z
def chV (z : Str) : List V := z.cps.toList.map fun c => V.str ⟨#[c]⟩
/-- its items in the heap H -/
def SK.at (K : PySem.W.Frag) (H : Hp) : SK → List V → Prop
  | .l a, xs => SqL K H a xs
  | .t a, xs => SqT K H a xs
  | .s z, xs => xs = chV z
/-- its iterator stands at i -/
def SK.it (it : Addr) (i : Nat) (h : Heap) : SK → Prop
  | .l a => h.IsListIter it a i ∧ a ≠ it
  | .t a => h.IsTupleIter it a i ∧ a ≠ it
  | .s z => ∃ t, h.IsStrIter it (strIterType z) z t i
theorem SK.it_obj {it : Addr} {i : Nat} {h : Heap} : ∀ {k : SK}, k.it it i h → ∃ o, h.get? it = some o ∧ ∀ v, o.data ≠ .cell v
  | .l _, ⟨⟨o, ho, hc, hd⟩, _⟩ => ⟨o, ho, fun v q => by rw [hd] at q; cases q⟩
  | .t _, ⟨⟨o, ho, hc, hd⟩, _⟩ => ⟨o, ho, fun v q => by rw [hd] at q; cases q⟩
  | .s _, ⟨tk', o, ho, hc, hd⟩ => ⟨o, ho, fun v q => by rw [hd] at q; cases q⟩
theorem SK.it_keep {it : Addr} {i : Nat} {h h' : Heap} (hk : ∀ o, h.get? it = some o → h'.get? it = some o) : ∀ {k : SK}, k.it it i h → k.it it i h'
  | .l _, ⟨st, ne⟩ => ⟨st.at hk, ne⟩
  | .t _, ⟨st, ne⟩ => ⟨st.at hk, ne⟩
  | .s _, ⟨tk', o, ho, r⟩ => ⟨tk', o, hk o ho, r⟩
/-- what it draws in the real heap -/
theorem SK.draws {X : Cx} {pins : List (Addr × Obj)} {σ : L2.St} {H : Hp} {s : Shared} {A : Around} (I : Inv X pins σ H s) (hh : A.handled = none) {it : Addr} {i : Nat} : ∀ {k : SK} {xs : List V}, k.at X.K H xs → k.it it i s.heap →
    ∃ (fp : List Addr) (P : Nat → Value → Prop) (St : Nat → Heap → Prop), Draws X.prog X.w A it fp xs.length P St ∧ St i s.heap ∧ (∀ j u, P j u → ∃ v, xs[j]? = some v ∧ RelV v u) ∧ (∀ j h', St j h' → k.it it j h') ∧ (∀ e, s.heap.get? e ≠ none → e ≠ it → (∀ a, k.val = .ref a → a ≠ e) → e ∉ fp) ∧ it ∈ fp
  | .l a, xs, hq, ⟨st, ne⟩ => by
    obtain ⟨its, rv, p, hz⟩ := I.list hq
    refine ⟨[it, a], fun j v => its.toArray[j]? = some v, fun j h => h.IsListIter it a j ∧ h.IsList a its.toArray, ?_, ⟨st, p.isList⟩, fun j u hj => ?_, fun j h' st' => ⟨st'.1, ne⟩, fun e _ h1 h2 hm => ?_, by simp⟩
    · have := Draws.list (prog := X.prog) (w := X.w) hh it a ne its.toArray
      rw [List.size_toArray, ← rv.length] at this
      exact this
    · have hj' : its[j]? = some u := by simpa using hj
      cases e : xs[j]? with
      | none => rw [rv.none_of e] at hj'; cases hj'
      | some v =>
        obtain ⟨u', e1, r⟩ := rv.get e
        rw [hj'] at e1; cases e1
        exact ⟨v, rfl, r⟩
    · rcases List.mem_cons.mp hm with z | z
      · exact h1 z
      · exact h2 a rfl (List.mem_singleton.mp z).symm
  | .t a, xs, hq, ⟨st, ne⟩ => by
    obtain ⟨its, rv, p, hz⟩ := I.tuple hq
    have p' : s.heap.IsTuple a its.toArray := p
    refine ⟨[it, a], fun j v => its.toArray[j]? = some v, fun j h => h.IsTupleIter it a j ∧ h.IsTuple a its.toArray, ?_, ⟨st, p'⟩, fun j u hj => ?_, fun j h' st' => ⟨st'.1, ne⟩, fun e _ h1 h2 hm => ?_, by simp⟩
    · have := Draws.tuple (prog := X.prog) (w := X.w) hh it a ne its.toArray
      rw [List.size_toArray, ← rv.length] at this
      exact this
    · have hj' : its[j]? = some u := by simpa using hj
      cases e : xs[j]? with
      | none => rw [rv.none_of e] at hj'; cases hj'
      | some v =>
        obtain ⟨u', e1, r⟩ := rv.get e
        rw [hj'] at e1; cases e1
        exact ⟨v, rfl, r⟩
    · rcases List.mem_cons.mp hm with z | z
      · exact h1 z
      · exact h2 a rfl (List.mem_singleton.mp z).symm
  | .s z, xs, hq, ⟨tk', st⟩ => by
    have hq : xs = chV z := hq
    subst hq
    refine ⟨[it], fun j u => ∃ c t, z.cps[j]? = some c ∧ u = .str ⟨#[c]⟩ t, fun j h => h.IsStrIter it (strIterType z) z tk' j, ?_, st, fun j u hj => ?_, fun j h' st' => ⟨tk', st'⟩, fun e _ h1 h2 hm => h1 (List.mem_singleton.mp hm), by simp⟩
    · have := Draws.text (prog := X.prog) (w := X.w) hh it z tk'
      rw [show (chV z).length = z.cps.size by unfold chV; simp]
      exact this
    · obtain ⟨c, u', e1, rfl⟩ := hj
      refine ⟨.str ⟨#[c]⟩, ?_, ⟨u', rfl⟩⟩
      unfold chV
      rw [List.getElem?_map, Array.getElem?_toList, e1]
      rfl
theorem SK.inj {X : Cx} {pins : List (Addr × Obj)} {σ : L2.St} {H : Hp} {s : Shared} (I : Inv X pins σ H s) : ∀ {k : SK} {xs ys : List V}, k.at X.K H xs → k.at X.K H ys → xs = ys
  | .l _, _, _, h, h' => I.list_inj h h'
  | .t _, _, _, h, h' => I.tuple_inj h h'
  | .s _, _, _, h, h' => Eq.trans h (Eq.symm h')
/-- enumerate of a source: each item in a new pair -/
def IteK (K : PySem.W.Frag) (k : SK) : It :=
  ⟨fun i H => ∃ (xs : List V) (x : V), k.at K H xs ∧ xs[i]? = some x, fun i H v H' => ∃ T x, v = .ref T ∧ H T = none ∧ H' = upd H T (.tup [.int (i : Nat), x]) ∧ ∀ xs, k.at K H xs → xs[i]? = some x, fun i H => ∃ xs : List V, k.at K H xs ∧ xs.length = i⟩
theorem turn_enumK {P : Program} {w : World} {K : PySem.W.Frag} {elts : List Expr} {kk : Nat} {tpos : Pos} (k : SK) (e it : Addr) :
    Turn P w K (.Tuple elts kk tpos) (IteK K k) [e, it] e (fun i h => (∃ old, IsEnum h e it ((i : Nat) : Int) old) ∧ k.it it i h ∧ e ≠ it ∧ ∀ a, k.val = .ref a → a ≠ e) where
  mem := by simp
  obj := fun i h st b hb => by
    obtain ⟨⟨old, he⟩, hit, _⟩ := st
    have e' : b = e ∨ b = it := by simpa using hb
    rcases e' with z | z
    · rw [z]; exact ⟨_, he, fun v q => nomatch q⟩
    · rw [z]; exact SK.it_obj hit
  keep := fun i h h' st hk => let ⟨⟨old, he⟩, hi, hne⟩ := st; ⟨⟨old, hk e (by simp) _ he⟩, SK.it_keep (fun o q => hk it (by simp) o q) hi, hne⟩
  item := by
    intro X hP hw hK hc i pins s σ H E I hf st hg
    subst hP hw hK
    obtain ⟨⟨old, he⟩, hit, hne, hka⟩ := st
    obtain ⟨xs, x, hq, hx⟩ := hg
    have hel : e < s.heap.objs.size := Heap.lt_size he
    have hil : it < s.heap.objs.size := by obtain ⟨o, q, _⟩ := SK.it_obj hit; exact Heap.lt_size q
    obtain ⟨fp, Pp, St, D, st0, hP, hS, hn, hm⟩ := SK.draws (A := X.A.in1) I (show X.A.handled = none from I.ok.hd hc) hq hit
    have hlt : i < xs.length := (List.getElem?_eq_some_iff.mp hx).1
    have hef : e ∉ fp := hn e (by rw [he]; exact Option.some_ne_none _) hne hka
    refine wpAny_pyNext_enum_itemC D he st0 hlt hne hef fun u h' tk hPu ho hit' hT hsz hk => ?_
    obtain ⟨v0, e0, ru⟩ := hP i u hPu
    rw [hx] at e0; cases e0
    refine ⟨_, rfl, wpAny_letOwnedTupleGo_enum (s := { s with heap := h', toks := tk + 1 }) ho fun h'' he' sb => ?_⟩
    have hT2 : h''.get? s.heap.objs.size = some { cls := .type "tuple", data := .seq #[.int i tk, u] } := (sb.2 _ (Nat.ne_of_gt hel)).trans hT
    have new : ObjOk X.prog X.w (upd H s.heap.objs.size (.tup [.int (i : Nat), x])) h'' s.heap.objs.size (.tup [.int (i : Nat), x]) :=
      ⟨by show 2 ≤ sizeLine; decide, [.int i tk, u], .cons ⟨_, rfl⟩ (.cons ru .nil), ⟨_, hT2, rfl, _, rfl⟩⟩
    have I1 : Inv X pins σ (upd H s.heap.objs.size (.tup [.int (i : Nat), x])) { s with heap := h'', toks := tk + 1 } :=
      I.turnedNew (ch := [e, it]) (fun b ob hb q => (sb.2 b (fun z => hb (by simp [z]))).trans (hk b ob (fun z => hb (by simp [z])) (fun z => hb (by simp [z])) q)) hf (Nat.le_refl _) new
    refine ⟨.ref s.heap.objs.size, _, I1, rfl, ⟨_, x, rfl, I.hok.fresh (Nat.le_refl _), rfl, fun ys hy => by rw [SK.inj I hy hq]; exact hx⟩, ⟨⟨u, ?_⟩, SK.it_keep (fun o q => (sb.2 it (Ne.symm hne)).trans q) (hS _ _ hit'), hne, hka⟩, fun b hb => ?_⟩
    · have e1 : ((i + 1 : Nat) : Int) = (i : Int) + 1 := by omega
      rw [e1]; exact he'
    · have hb' : b < s.heap.objs.size := by
        have e' : b = e ∨ b = it := by simpa using hb
        rcases e' with z | z
        · rw [z]; exact hel
        · rw [z]; exact hil
      rw [upd_ne (Nat.ne_of_lt hb')]
      exact (hf b hb).1
  done := by
    intro X hP hw hK hc i pins s σ H E I hf st hg
    subst hP hw hK
    obtain ⟨⟨old, he⟩, hit, hne, hka⟩ := st
    obtain ⟨xs, hq, hx⟩ := hg
    obtain ⟨f0, f1, f2, f3, f4, f5⟩ := hf it (by simp)
    obtain ⟨fp, Pp, St, D, st0, hP, hS, hn, hm⟩ := SK.draws (A := X.A.in1) I (show X.A.handled = none from I.ok.hd hc) hq hit
    rw [hx] at D
    exact wpAny_pyNext_enum_endD D he st0 fun h' eb => ⟨rfl, I.turned (t' := s.toks) (fun b o hb q => eb b o hb q) f0 f1 f3 f4 f5⟩
  self := fun A i s Q E st h => let ⟨⟨_, he⟩, _⟩ := st; wpAny_pyIter_enum he h
/-- what is in the heap of a source -/
theorem SK.lt {X : Cx} {pins : List (Addr × Obj)} {σ : L2.St} {H : Hp} {s : Shared} (I : Inv X pins σ H s) : ∀ {k : SK} {xs : List V}, k.at X.K H xs → ∀ a, k.val = .ref a → a < s.heap.objs.size
  | .l a, xs, hq, b, e => by
    cases e
    obtain ⟨its, rv, p, hz⟩ := I.list hq
    exact p.lt
  | .t a, xs, hq, b, e => by
    cases e
    obtain ⟨its, rv, p, hz⟩ := I.tuple hq
    obtain ⟨o, ho, _⟩ := id p
    exact Heap.lt_size ho
  | .s z, xs, hq, b, e => nomatch e
/-- iter(v) begins -/
theorem SK.begins {X : Cx} {pins : List (Addr × Obj)} {σ : L2.St} {H : Hp} {s : Shared} (I : Inv X pins σ H s) {u : Value} : ∀ {k : SK} {xs : List V}, k.at X.K H xs → RelV k.val u →
    ∃ (o : Obj) (Hc : Heap → Prop), Begins u o Hc ∧ Hc s.heap ∧ ∀ (h' : Heap) (it : Addr), s.heap.objs.size ≤ it → h'.get? it = some o → k.it it 0 h'
  | .l a, xs, hq, r => by
    cases r
    have hlt := SK.lt I hq a rfl
    obtain ⟨its, rv, p, hz⟩ := I.list hq
    exact ⟨_, _, begins_list a its.toArray, p.isList, fun h' it hge e => ⟨⟨_, e, rfl, rfl⟩, Nat.ne_of_lt (Nat.lt_of_lt_of_le hlt hge)⟩⟩
  | .t a, xs, hq, r => by
    cases r
    have hlt := SK.lt I hq a rfl
    obtain ⟨its, rv, p, hz⟩ := I.tuple hq
    exact ⟨_, _, begins_tuple a its.toArray, p, fun h' it hge e => ⟨⟨_, e, rfl, rfl⟩, Nat.ne_of_lt (Nat.lt_of_lt_of_le hlt hge)⟩⟩
  | .s z, xs, hq, r => by
    obtain ⟨t, rfl⟩ := r
    exact ⟨_, _, begins_text z t, trivial, fun h' it hge e => ⟨t, _, e, rfl, rfl⟩⟩
def iEnumK (K : PySem.W.Frag) (ta : TA) : TI := fun σ H R => ta σ H fun vs H1 => ∃ (k : SK) (xs : List V), vs = [k.val] ∧ k.at K H1 xs ∧ R (IteK K k) H1
theorem pi_enumK {X : Cx} {e : Expr} {ta : TA} {p pos tpos : Pos} {elts : List Expr} {kk : Nat} (hg : Gl X "enumerate") (hm : X.mg "enumerate" = none) (ha : PA X [e] ta) (hs : starEach [e] X.env = [(false, eval e X.env)]) :
    PI X (.Tuple elts kk tpos) (.Call (.Name "enumerate" p) [e] [] pos) (iEnumK X.K ta) := by
  refine ⟨fun pins s σ H R I h => ?_⟩
  refine Call_ (ld_blt I hg hm boot_enumerate (PyProof.Rows.callWith_type1 (thn (ha.run pos pins s σ H _ I h) fun us s1 ⟨vs, H1, I1, r1, q1⟩ => ?_) hs rfl))
  obtain ⟨k, xs, ex, hq, q⟩ := q1
  subst ex
  cases r1 with
  | cons r rr =>
    cases rr
    obtain ⟨o, Hc, B, hc, hi⟩ := SK.begins I1 hq r
    have hlt := SK.lt I1 hq
    refine enum1_begins B hc fun h' he hit hsz hk => wpAny_pyIter_enum he ?_
    have I2 : Inv X pins σ H1 { s1 with heap := h' } := I1.kept (t' := s1.toks) hk
    refine ⟨s1.heap.objs.size + 1, [s1.heap.objs.size + 1, s1.heap.objs.size], _, _, H1, rfl, I2, turn_enumK k (s1.heap.objs.size + 1) s1.heap.objs.size, ⟨⟨.none, he⟩, hi h' _ (Nat.le_refl _) hit, Nat.succ_ne_self _, fun a ea => Nat.ne_of_lt (Nat.lt_succ_of_lt (hlt a ea))⟩, fun b hb => ?_, q⟩
    have e' : b = s1.heap.objs.size + 1 ∨ b = s1.heap.objs.size := by simpa using hb
    have hle : s1.heap.objs.size ≤ b := by
      rcases e' with z | z
      · rw [z]; exact Nat.le_add_right _ _
      · rw [z]; exact Nat.le_refl _
    exact I1.fpOk hle (I1.hok.fresh hle)
/-- a source itself, walked -/
def ItK (K : PySem.W.Frag) : SK → It
  | .l a => Itl K a
  | .t a => Itt K a
  | .s z => Its z
def iSeq (K : PySem.W.Frag) (te : TE) : TI := fun σ H R => te σ H fun x H1 => ∃ (k : SK) (xs : List V), x = k.val ∧ k.at K H1 xs ∧ R (ItK K k) H1
theorem pi_seq {X : Cx} {tg e : Expr} {te : TE} (he : PE X e te) : PI X tg e (iSeq X.K te) := by
  refine ⟨fun pins s σ H R I h => ?_⟩
  refine thn (he.run pins s σ H _ I h) fun v s1 ⟨y, H1, I1, r1, k, xs, ex, hq, q⟩ => ?_
  subst ex
  cases k with
  | l a =>
    cases r1
    obtain ⟨its, rv, p, hz⟩ := I1.list hq
    refine wpAny_pyIter_list p.isList ?_
    refine ⟨s1.heap.objs.size, [s1.heap.objs.size], _, _, H1, rfl, I1.kept (t' := s1.toks) fun b o e => Heap.get?_push_of_some _ e, turn_list a _, ⟨_, Heap.get?_push_size _ rfl, rfl, rfl⟩, fun b hb => ?_, q⟩
    have e : b = s1.heap.objs.size := by simpa using hb
    subst e
    exact I1.fpOk (Nat.le_refl _) (I1.hok.fresh (Nat.le_refl _))
  | t a =>
    cases r1
    obtain ⟨its, rv, p, hz⟩ := I1.tuple hq
    refine wpAny_pyIter_tuple (show s1.heap.IsTuple a its.toArray from p) ?_
    refine ⟨s1.heap.objs.size, [s1.heap.objs.size], _, _, H1, rfl, I1.kept (t' := s1.toks) fun b o e => Heap.get?_push_of_some _ e, turn_tuple a _, ⟨_, Heap.get?_push_size _ rfl, rfl, rfl⟩, fun b hb => ?_, q⟩
    have e : b = s1.heap.objs.size := by simpa using hb
    subst e
    exact I1.fpOk (Nat.le_refl _) (I1.hok.fresh (Nat.le_refl _))
  | s x =>
    obtain ⟨t, rfl⟩ := r1
    cases ha : x.cps.all (· < 128)
    · exact wpAny_pyIter_wide ha (pi_one (tk := s1.toks) I1 _ (turn_str _ x t "str_iterator" (.inr rfl)) ⟨_, Heap.get?_push_size _ rfl, rfl, rfl⟩ q)
    · exact wpAny_pyIter_ascii ha (pi_one (tk := s1.toks) I1 _ (turn_str _ x t "str_ascii_iterator" (.inl rfl)) ⟨_, Heap.get?_push_size _ rfl, rfl, rfl⟩ q)
end DI
/-! DI, walks upon data -/
namespace DI
open PySem PySem.Spec PyProof.Rows L2

structure Wk (g : Gv) (Z : Addr → Prop) (fp : List Addr) (H : Hp) (J : It) (xs : List D) : Prop where
  go : ∀ H' i, Kp Z fp H H' → i < xs.length → J.go i H'
  stop : ∀ H', Kp Z fp H H' → J.stop xs.length H'
  yld : ∀ H' H'' i v x, Kp Z fp H H' → xs[i]? = some x → J.yld i H' v H'' → Same H' H'' ∧ Rep g Z H'' x v []

section
variable {X : Cx} {g : Gv} {W : L2.WX} {Z : Addr → Prop} {H : Hp} {fp : List Addr}
theorem reps_chars (z : List Nat) : Reps g Z H (z.map oneOf) (z.map fun c => V.str ⟨#[c]⟩) [] := by
  induction z with
  | nil => exact .nil
  | cons c r ih => exact .cons (f := []) (fs := []) (.str _) ih
theorem src_lst {o : Bool} {ys : List D} {v : V} {xs : List D} (r : Rep g Z H (.lst o ys) v fp) (e : itemsD (.lst o ys) = .ok xs) : ∃ a vs, v = .ref a ∧ (∀ H', Kp Z fp H H' → SqL g.K H' a vs) ∧ Reps g Z H xs vs [] := by
  have e : (if cleanL ys = true then R.ok ys else .bad) = .ok xs := e
  by_cases hc : cleanL ys = true
  · rw [if_pos hc] at e
    cases e
    cases r with
    | @lst a vs _ _ fs _ h hs w => exact ⟨a, vs, rfl, fun H' k => .inl (.inl (w.at k h)), hs.to0 hc⟩
    | @lstR a vs _ h hs => exact ⟨a, vs, rfl, fun H' k => (sqF_keep k.frz h).sqL, hs⟩
  · rw [if_neg hc] at e; cases e
theorem src_tup {ys : List D} {v : V} {xs : List D} (r : Rep g Z H (.tup ys) v fp) (e : itemsD (.tup ys) = .ok xs) : ∃ a vs, v = .ref a ∧ (∀ H', Kp Z fp H H' → SqT g.K H' a vs) ∧ Reps g Z H xs vs [] := by
  have e : (if cleanL ys = true then R.ok ys else .bad) = .ok xs := e
  by_cases hc : cleanL ys = true
  · rw [if_pos hc] at e
    cases e
    obtain ⟨a, vs, rfl, h, hs⟩ := rep_tup r
    exact ⟨a, vs, rfl, fun H' k => sqT_keep k.tup h, hs.to0 hc⟩
  · rw [if_neg hc] at e; cases e
theorem src_of {d : D} {v : V} {xs : List D} (r : Rep g Z H d v fp) (e : itemsD d = .ok xs) : ∃ (k : SK) (vs : List V), v = k.val ∧ (∀ H', Kp Z fp H H' → k.at g.K H' vs) ∧ Reps g Z H xs vs [] := by
  cases d with
  | lst o ys =>
    obtain ⟨a, vs, rfl, h, hs⟩ := src_lst r e
    exact ⟨.l a, vs, rfl, h, hs⟩
  | tup ys =>
    obtain ⟨a, vs, rfl, h, hs⟩ := src_tup r e
    exact ⟨.t a, vs, rfl, h, hs⟩
  | str z =>
    have e : R.ok (z.cps.toList.map oneOf) = .ok xs := e
    cases e
    obtain ⟨rfl, _⟩ := rep_str r
    exact ⟨.s z, chV z, rfl, fun H' k => rfl, reps_chars _⟩
  | _ => cases e
theorem kp_nil {H' : Hp} (k : Kp Z fp H H') : Kp Z [] H H' := k.out
theorem wk_seq {k : SK} {xs : List D} {vs : List V} (hk : ∀ H', Kp Z fp H H' → k.at g.K H' vs) (rs : Reps g Z H xs vs []) : Wk g Z fp H (ItK g.K k) xs := by
  have hl := rs.length
  refine ⟨fun H' i kp hi => ?_, fun H' kp => ?_, fun H' H'' i v x kp hx y => ?_⟩
  · obtain ⟨v, f, e, _⟩ := rs.get i xs[i] (List.getElem?_eq_getElem hi)
    have hat := hk H' kp
    cases k with
    | l a => exact ⟨vs, v, hat, e⟩
    | t a => exact ⟨vs, v, hat, e⟩
    | s z =>
      have hat : vs = chV z := hat
      subst hat
      have : (chV z).length = z.cps.size := by unfold chV; simp
      show i < z.cps.size
      omega
  · have hat := hk H' kp
    cases k with
    | l a => exact ⟨vs, hat, by omega⟩
    | t a => exact ⟨vs, hat, by omega⟩
    | s z =>
      have hat : vs = chV z := hat
      subst hat
      have : (chV z).length = z.cps.size := by unfold chV; simp
      show z.cps.size ≤ xs.length
      omega
  · have hat := hk H' kp
    obtain ⟨u, f, e, r, hf, _⟩ := rs.get i x hx
    have ef : f = [] := List.eq_nil_iff_forall_not_mem.mpr fun a ha => nomatch hf a ha
    subst ef
    have r2 := r.keep (fun _ z => z) kp.out
    cases k with
    | l a =>
      obtain ⟨rfl, q⟩ := y
      have e2 := q vs hat
      rw [e] at e2
      cases e2
      exact ⟨same_refl _, r2⟩
    | t a =>
      obtain ⟨rfl, q⟩ := y
      have e2 := q vs hat
      rw [e] at e2
      cases e2
      exact ⟨same_refl _, r2⟩
    | s z =>
      have hat : vs = chV z := hat
      subst hat
      obtain ⟨rfl, c, q, rfl⟩ := y
      unfold chV at e
      rw [List.getElem?_map, Array.getElem?_toList, q] at e
      cases e
      exact ⟨same_refl _, r2⟩
theorem enumL_length : ∀ (k : Nat) (xs : List D), (enumL k xs).length = xs.length
  | _, [] => rfl
  | k, x :: xs => by rw [enumL, List.length_cons, List.length_cons, enumL_length]
theorem enumL_get : ∀ (k : Nat) (xs : List D) (i : Nat), (enumL k xs)[i]? = xs[i]?.map fun x => .tup [.int ((k + i : Nat) : Int), x]
  | _, [], _ => rfl
  | k, x :: xs, 0 => rfl
  | k, x :: xs, i + 1 => by
    rw [enumL, List.getElem?_cons_succ, List.getElem?_cons_succ, enumL_get (k + 1) xs i, show k + 1 + i = k + (i + 1) by omega]
theorem wk_enum {k : SK} {xs : List D} {vs : List V} (hk : ∀ H', Kp Z fp H H' → k.at g.K H' vs) (rs : Reps g Z H xs vs []) : Wk g Z fp H (IteK g.K k) (enumL 0 xs) := by
  have hl := rs.length
  refine ⟨fun H' i kp hi => ?_, fun H' kp => ?_, fun H' H'' i v x kp hx y => ?_⟩
  · rw [enumL_length] at hi
    obtain ⟨v, f, e, _⟩ := rs.get i xs[i] (List.getElem?_eq_getElem hi)
    exact ⟨vs, v, hk H' kp, e⟩
  · exact ⟨vs, hk H' kp, by rw [enumL_length]; exact hl.symm⟩
  · rw [enumL_get, Nat.zero_add] at hx
    cases hx0 : xs[i]? with
    | none => rw [hx0] at hx; cases hx
    | some x0 =>
      rw [hx0] at hx
      cases hx
      obtain ⟨u, f, e, r, hf, _⟩ := rs.get i x0 hx0
      have ef : f = [] := List.eq_nil_iff_forall_not_mem.mpr fun a ha => nomatch hf a ha
      subst ef
      have r2 := r.keep (fun _ z => z) kp.out
      obtain ⟨T, y, rfl, nT, rfl, q⟩ := y
      have e2 := q vs (hk H' kp)
      rw [e] at e2
      cases e2
      have s := same_upd (o := .tup [.int (i : Nat), u]) nT
      refine ⟨s, .tup (.inl (.inl upd_same)) ?_⟩
      exact .cons (f := []) (fs := []) (.int _) (.cons (f := []) (fs := []) (r2.same (fun _ z => z) s) .nil)
theorem rngL_get (lo : Int) (n i : Nat) : (rngL lo n)[i]? = if i < n then some (.int (lo + (i : Int))) else none := by
  unfold rngL
  rw [List.getElem?_map]
  by_cases h : i < n
  · rw [List.getElem?_range h, if_pos h]; rfl
  · rw [List.getElem?_eq_none (by simp; omega), if_neg h]; rfl
theorem rngL_length (lo : Int) (n : Nat) : (rngL lo n).length = n := by unfold rngL; simp
theorem wk_rng (lo : Int) (n : Nat) : Wk g Z fp H (Itr lo n) (rngL lo n) := by
  refine ⟨fun H' i kp hi => ?_, fun H' kp => ?_, fun H' H'' i v x kp hx y => ?_⟩
  · rw [rngL_length] at hi; exact hi
  · rw [rngL_length]; exact Nat.le_refl n
  · obtain ⟨rfl, rfl⟩ := y
    rw [rngL_get] at hx
    by_cases h : i < n
    · rw [if_pos h] at hx; cases hx
      exact ⟨same_refl _, .int _⟩
    · rw [if_neg h] at hx; cases hx
theorem zipL_get : ∀ (xs ys : List D) (i : Nat), (zipL xs ys)[i]? = (xs[i]?).bind fun x => (ys[i]?).map fun y => .tup [x, y]
  | [], _, _ => by rw [zipL]; rfl; intros; contradiction
  | x :: xs, [], i => by
    rw [zipL]
    · cases (x :: xs)[i]? <;> rfl
    · intros; contradiction
  | x :: xs, y :: ys, 0 => rfl
  | x :: xs, y :: ys, i + 1 => by
    rw [zipL, List.getElem?_cons_succ, List.getElem?_cons_succ, List.getElem?_cons_succ, zipL_get xs ys i]
theorem zipL_length : ∀ (xs ys : List D), (zipL xs ys).length = min xs.length ys.length
  | [], _ => by rw [zipL]; simp; intros; contradiction
  | x :: xs, [] => by rw [zipL]; simp; intros; contradiction
  | x :: xs, y :: ys => by
    rw [zipL, List.length_cons, List.length_cons, List.length_cons, zipL_length xs ys]; omega
/-- a walk of pairs of two sequences, as the kit has it -/
structure ZipIt (J : It) (atx aty : Hp → List V → Prop) : Prop where
  go : ∀ i H xs ys x y, atx H xs → aty H ys → xs[i]? = some x → ys[i]? = some y → J.go i H
  stop : ∀ i H xs ys, atx H xs → aty H ys → (xs.length ≤ i ∨ ys.length ≤ i) → J.stop i H
  yld : ∀ i H v H', J.yld i H v H' → ∃ T x y, v = .ref T ∧ H T = none ∧ H' = upd H T (.tup [x, y]) ∧ (∀ xs, atx H xs → xs[i]? = some x) ∧ ∀ ys, aty H ys → ys[i]? = some y
theorem zipItT (K : PySem.W.Frag) (a b : Addr) : ZipIt (RZ.ItzT K a b) (fun H xs => SqT K H a xs) (fun H ys => SqT K H b ys) :=
  ⟨fun i H xs ys x y h1 h2 h3 h4 => ⟨xs, ys, x, y, h1, h2, h3, h4⟩, fun i H xs ys h1 h2 h3 => ⟨xs, ys, h1, h2, h3⟩, fun i H v H' h => h⟩
theorem zipItL (K : PySem.W.Frag) (a b : Addr) : ZipIt (Itz K a b) (fun H xs => SqL K H a xs) (fun H ys => SqL K H b ys) :=
  ⟨fun i H xs ys x y h1 h2 h3 h4 => ⟨xs, ys, x, y, h1, h2, h3, h4⟩, fun i H xs ys h1 h2 h3 => ⟨xs, ys, h1, h2, h3⟩, fun i H v H' h => h⟩
theorem wk_zip {J : It} {atx aty : Hp → List V → Prop} {xs ys : List D} {vs us : List V} (J0 : ZipIt J atx aty) (h1 : ∀ H', Kp Z fp H H' → atx H' vs) (h2 : ∀ H', Kp Z fp H H' → aty H' us) (r1 : Reps g Z H xs vs []) (r2 : Reps g Z H ys us []) : Wk g Z fp H J (zipL xs ys) := by
  have l1 := r1.length
  have l2 := r2.length
  refine ⟨fun H' i kp hi => ?_, fun H' kp => ?_, fun H' H'' i v x kp hx y => ?_⟩
  · rw [zipL_length] at hi
    obtain ⟨v, f, e, _⟩ := r1.get i xs[i] (List.getElem?_eq_getElem (by omega))
    obtain ⟨v', f', e', _⟩ := r2.get i ys[i] (List.getElem?_eq_getElem (by omega))
    exact J0.go i H' vs us v v' (h1 H' kp) (h2 H' kp) e e'
  · refine J0.stop _ H' vs us (h1 H' kp) (h2 H' kp) ?_
    rw [zipL_length]
    omega
  · rw [zipL_get] at hx
    cases hx0 : xs[i]? with
    | none => rw [hx0] at hx; cases hx
    | some x0 =>
      cases hy0 : ys[i]? with
      | none => rw [hx0, hy0] at hx; cases hx
      | some y0 =>
        rw [hx0, hy0] at hx
        cases hx
        obtain ⟨u, f, e, r, hf, _⟩ := r1.get i x0 hx0
        have ef : f = [] := List.eq_nil_iff_forall_not_mem.mpr fun a ha => nomatch hf a ha
        subst ef
        obtain ⟨u', f', e', r', hf', _⟩ := r2.get i y0 hy0
        have ef' : f' = [] := List.eq_nil_iff_forall_not_mem.mpr fun a ha => nomatch hf' a ha
        subst ef'
        have q1 := r.keep (fun _ z => z) kp.out
        have q2 := r'.keep (fun _ z => z) kp.out
        obtain ⟨T, x, y, rfl, nT, rfl, qx, qy⟩ := J0.yld _ _ _ _ y
        have e2 := qx vs (h1 H' kp)
        rw [e] at e2
        cases e2
        have e3 := qy us (h2 H' kp)
        rw [e'] at e3
        cases e3
        have s := same_upd (o := .tup [u, u']) nT
        refine ⟨s, .tup (.inl (.inl upd_same)) ?_⟩
        exact .cons (f := []) (fs := []) (q1.same (fun _ z => z) s) (.cons (f := []) (fs := []) (q2.same (fun _ z => z) s) .nil)

/-- the reading of what is walked -/
def tIW (g : Gv) (W : L2.WX) (b : Bool) (f : Sl → R (List D)) : TI := fun σ H R => ∃ H0 Z fps σl, SR g H0 Z fps σl σ H ∧ Out g W Z σ H (f σl) fun xs => ∀ J H' Z' fp, Same H H' → Zx Z Z' H H' → Wk g Z' fp H' J xs → (∀ a ∈ fp, H' a ≠ none) → (b = true → ∀ a ∈ fp, H a = none ∧ ¬ Z' a) → R J H'
variable {e e2 tg : Expr} {f : Sl → R D} {b : Bool} {p pos tpos : Pos} {elts : List Expr} {kk : Nat}
theorem items_noerr (d : D) : ∀ c fs, itemsD d ≠ .err c fs := fun c fs e => by
  cases d with
  | lst o ys =>
    have e : (if cleanL ys = true then R.ok ys else .bad) = .err c fs := e
    by_cases hc : cleanL ys = true
    · rw [if_pos hc] at e; cases e
    · rw [if_neg hc] at e; cases e
  | tup ys =>
    have e : (if cleanL ys = true then R.ok ys else .bad) = .err c fs := e
    by_cases hc : cleanL ys = true
    · rw [if_pos hc] at e; cases e
    · rw [if_neg hc] at e; cases e
  | _ => cases e
theorem si_seq (G : Gof g X) (he : PE X e (tI g W b f)) : PI X tg e (tIW g W b fun σ => (f σ).bind itemsD) := (pi_seq he).imp fun σ H Q q => by
  obtain ⟨H0, Z, fps, σl, sr, o⟩ := q
  refine ⟨H0, Z, fps, σl, sr, o.bind.imp fun d h v H' Z' fp p => ?_⟩
  cases hi : itemsD d with
  | ok xs =>
    rw [hi] at h
    obtain ⟨k, vs, rfl, hk, rs⟩ := src_of p.rep hi
    rw [G.K]
    exact ⟨k, vs, rfl, hk H' (.of_same (same_refl H')), h _ H' Z' fp p.same p.zx (wk_seq hk rs) (Rep.there p.rep) fun e => (p.own e).2⟩
  | err c fs => exact absurd hi (items_noerr d c fs)
  | bad => rw [hi] at h; exact h.elim
def enumD : List D → R (List D)
  | [x] => (itemsD x).bind fun xs => .ok (enumL 0 xs)
  | _ => .bad
theorem si_enum (G : Gof g X) (hg : Gl X "enumerate") (hm : X.mg "enumerate" = none) (ha : PA X [e] (tIA g W b f)) (hs : starEach [e] X.env = [(false, eval e X.env)]) :
    PI X (.Tuple elts kk tpos) (.Call (.Name "enumerate" p) [e] [] pos) (tIW g W b fun σ => (f σ).bind fun r => (tupOf r).bind enumD) := (pi_enumK hg hm ha hs).imp fun σ H Q q => by
  obtain ⟨H0, Z, fps, σl, sr, o⟩ := q
  refine ⟨H0, Z, fps, σl, sr, o.bind.imp fun r h => ?_⟩
  cases r with
  | tup ds =>
    have h : Out g W Z σ H (enumD ds) _ := h
    refine ⟨ds, rfl, fun vs H' Z' fp p => ?_⟩
    cases ds with
    | nil => exact h.elim
    | cons x r' =>
      cases r' with
      | cons y r' => exact h.elim
      | nil =>
        have h : Out g W Z σ H ((itemsD x).bind fun xs => .ok (enumL 0 xs)) _ := h
        obtain ⟨xs, hi, h⟩ := h.bind.okOf (items_noerr x)
        obtain ⟨v, rfl, rx⟩ := reps1 p.rep
        obtain ⟨k, vs, rfl, hk, rs⟩ := src_of rx hi
        rw [G.K]
        exact ⟨k, vs, rfl, hk H' (.of_same (same_refl H')), h _ H' Z' fp p.same p.zx (wk_enum hk rs) (Reps.there p.rep) fun e => (p.own e).2⟩
  | _ => exact h.elim
noncomputable def rng1D : List D → R (List D)
  | [.int i] => if small62 i = true then .ok (rngL 0 i.toNat) else .bad
  | _ => .bad
noncomputable def rng2D : List D → R (List D)
  | [.int i, .int j] => if (small62 i && small62 j) = true then .ok (rngL i (j - i).toNat) else .bad
  | _ => .bad
theorem small62_iff {i : Int} (h : small62 i = true) : -(2 ^ 62) ≤ i ∧ i < 2 ^ 62 := by
  unfold small62 at h
  simp only [Bool.and_eq_true, decide_eq_true_eq, lim62_eq] at h
  exact h
theorem rng1_inv {σ : L2.St} {ds : List D} {P : List D → Prop} (h : Out g W Z σ H (rng1D ds) P) : ∃ i, ds = [.int i] ∧ small62 i = true ∧ P (rngL 0 i.toNat) := by
  unfold rng1D at h
  split at h
  · obtain ⟨hs, h⟩ := Out.guard h
    exact ⟨_, rfl, hs, h⟩
  · exact h.elim
theorem rng2_inv {σ : L2.St} {ds : List D} {P : List D → Prop} (h : Out g W Z σ H (rng2D ds) P) : ∃ i j, ds = [.int i, .int j] ∧ (small62 i && small62 j) = true ∧ P (rngL i (j - i).toNat) := by
  unfold rng2D at h
  split at h
  · obtain ⟨hs, h⟩ := Out.guard h
    exact ⟨_, _, rfl, hs, h⟩
  · exact h.elim
theorem si_rng1 (hg : Gl X "range") (hm : X.mg "range" = none) (ha : PA X [e] (tIA g W b f)) (hs : starEach [e] X.env = [(false, eval e X.env)]) :
    PI X tg (.Call (.Name "range" p) [e] [] pos) (tIW g W true fun σ => (f σ).bind fun r => (tupOf r).bind rng1D) := (pi_range1 hg hm ha hs).imp fun σ H Q q => by
  obtain ⟨H0, Z, fps, σl, sr, o⟩ := q
  refine ⟨H0, Z, fps, σl, sr, o.bind.imp fun r h => ?_⟩
  cases r with
  | tup ds =>
    have h : Out g W Z σ H (rng1D ds) _ := h
    refine ⟨ds, rfl, fun vs H' Z' fp p => ?_⟩
    obtain ⟨i, rfl, hs, h⟩ := rng1_inv h
    obtain ⟨v, rfl, rx⟩ := reps1 p.rep
    obtain ⟨rfl, _⟩ := rep_int rx
    obtain ⟨h1, h2⟩ := small62_iff hs
    exact ⟨i, rfl, h1, h2, h _ H' Z' [] p.same p.zx (wk_rng 0 _) (fun a m => nomatch m) fun _ a m => nomatch m⟩
  | _ => exact h.elim
theorem si_rng2 (hg : Gl X "range") (hm : X.mg "range" = none) (ha : PA X [e, e2] (tIA g W b f)) (hs : starEach [e, e2] X.env = [(false, eval e X.env), (false, eval e2 X.env)]) (hs2 : starEach [e2] X.env = [(false, eval e2 X.env)]) :
    PI X tg (.Call (.Name "range" p) [e, e2] [] pos) (tIW g W true fun σ => (f σ).bind fun r => (tupOf r).bind rng2D) := (pi_range2 hg hm ha hs hs2).imp fun σ H Q q => by
  obtain ⟨H0, Z, fps, σl, sr, o⟩ := q
  refine ⟨H0, Z, fps, σl, sr, o.bind.imp fun r h => ?_⟩
  cases r with
  | tup ds =>
    have h : Out g W Z σ H (rng2D ds) _ := h
    refine ⟨ds, rfl, fun vs H' Z' fp p => ?_⟩
    obtain ⟨i, j, rfl, hs, h⟩ := rng2_inv h
    simp only [Bool.and_eq_true] at hs
    obtain ⟨v, u, f1, f2, rfl, rx, ry⟩ := reps2 p.rep
    obtain ⟨rfl, _⟩ := rep_int rx
    obtain ⟨rfl, _⟩ := rep_int ry
    obtain ⟨h1, h2⟩ := small62_iff hs.1
    obtain ⟨h3, h4⟩ := small62_iff hs.2
    exact ⟨i, j, rfl, ⟨h1, h2, h3, h4⟩, h _ H' Z' [] p.same p.zx (wk_rng i _) (fun a m => nomatch m) fun _ a m => nomatch m⟩
  | _ => exact h.elim
def zipD : List D → R (List D)
  | [.lst o xs, .lst o' ys] => (itemsD (.lst o xs)).bind fun xs => (itemsD (.lst o' ys)).bind fun ys => .ok (zipL xs ys)
  | [.tup xs, .tup ys] => (itemsD (.tup xs)).bind fun xs => (itemsD (.tup ys)).bind fun ys => .ok (zipL xs ys)
  | _ => .bad
theorem kp_left {fp fp' : List Addr} {H' : Hp} (k : Kp Z (fp ++ fp') H H') : Kp Z fp H H' := k.sub fun a m => List.mem_append_left _ m
theorem reps2' {x y : D} {vs : List V} (r : Reps g Z H [x, y] vs fp) : ∃ v u f f', vs = [v, u] ∧ Rep g Z H x v f ∧ Rep g Z H y u f' ∧ (∀ a ∈ f, a ∈ fp) ∧ ∀ a ∈ f', a ∈ fp := by
  cases r with
  | cons h hs =>
    obtain ⟨u, rfl, h2⟩ := reps1 hs
    exact ⟨_, _, _, _, rfl, h, h2, fun a m => List.mem_append_left _ m, fun a m => List.mem_append_right _ m⟩
theorem zip_inv {σ : L2.St} {ds : List D} {P : List D → Prop} (h : Out g W Z σ H (zipD ds) P) : ∃ x y xs ys, ds = [x, y] ∧ itemsD x = .ok xs ∧ itemsD y = .ok ys ∧ P (zipL xs ys) ∧ ((∃ o l o' l', x = .lst o l ∧ y = .lst o' l') ∨ ∃ l l', x = .tup l ∧ y = .tup l') := by
  unfold zipD at h
  split at h
  · obtain ⟨xs, hi, h⟩ := h.bind.okOf (items_noerr _)
    obtain ⟨ys, hj, h⟩ := h.bind.okOf (items_noerr _)
    exact ⟨_, _, xs, ys, rfl, hi, hj, h, .inl ⟨_, _, _, _, rfl, rfl⟩⟩
  · obtain ⟨xs, hi, h⟩ := h.bind.okOf (items_noerr _)
    obtain ⟨ys, hj, h⟩ := h.bind.okOf (items_noerr _)
    exact ⟨_, _, xs, ys, rfl, hi, hj, h, .inr ⟨_, _, rfl, rfl⟩⟩
  · exact h.elim
theorem si_zip (G : Gof g X) (hg : Gl X "zip") (hm : X.mg "zip" = none) (ha : PA X [e, e2] (tIA g W b f)) (hs : starEach [e, e2] X.env = (false, eval e X.env) :: starEach [e2] X.env) (hpl : (backTo pos (starEach [e2] X.env)).any (·.1) = false) :
    PI X (.Tuple elts kk tpos) (.Call (.Name "zip" p) [e, e2] [] pos) (tIW g W b fun σ => (f σ).bind fun r => (tupOf r).bind zipD) := (RZ.pi_zipA hg hm ha hs hpl).imp fun σ H Q q => by
  obtain ⟨H0, Z, fps, σl, sr, o⟩ := q
  refine ⟨H0, Z, fps, σl, sr, o.bind.imp fun r h => ?_⟩
  cases r with
  | tup ds =>
    have h : Out g W Z σ H (zipD ds) _ := h
    refine ⟨ds, rfl, fun vs H' Z' fp p => ?_⟩
    obtain ⟨x, y, xs, ys, rfl, hi, hj, h, hd⟩ := zip_inv h
    obtain ⟨v, u, f1, f2, rfl, rx, ry, hf1, hf2⟩ := reps2' p.rep
    have s0 : Kp Z' fp H' H' := .of_same (same_refl H')
    have fin := fun J wk => h J H' Z' fp p.same p.zx wk (Reps.there p.rep) fun e => (p.own e).2
    rcases hd with ⟨o1, l1, o2, l2, rfl, rfl⟩ | ⟨l1, l2, rfl, rfl⟩
    · obtain ⟨a, vs, rfl, hk, rs⟩ := src_lst rx hi
      obtain ⟨b, us, rfl, hk', rs'⟩ := src_lst ry hj
      rw [G.K]
      exact ⟨a, b, vs, us, rfl, .inl ⟨hk H' (s0.sub hf1), hk' H' (s0.sub hf2), fin _ (wk_zip (zipItL g.K a b) (fun H'' k => hk H'' (k.sub hf1)) (fun H'' k => hk' H'' (k.sub hf2)) rs rs')⟩⟩
    · obtain ⟨a, vs, rfl, hk, rs⟩ := src_tup rx hi
      obtain ⟨b, us, rfl, hk', rs'⟩ := src_tup ry hj
      rw [G.K]
      exact ⟨a, b, vs, us, rfl, .inr ⟨hk H' (s0.sub hf1), hk' H' (s0.sub hf2), fin _ (wk_zip (zipItT g.K a b) (fun H'' k => hk H'' (k.sub hf1)) (fun H'' k => hk' H'' (k.sub hf2)) rs rs')⟩⟩
  | _ => exact h.elim
end
end DI
/-! DI, statements -/
namespace DI
open PySem PySem.Spec PyProof.Rows L2

/-! ### footprints by slots -/
theorem mem_set0 : ∀ {fps : List (List Addr)} {i : Nat} {a : Addr}, a ∈ (fps.set i []).flatten → a ∈ fps.flatten
  | [], _, _, h => h
  | f :: fs, 0, a, h => by
    rw [List.set_cons_zero, List.flatten_cons, List.nil_append] at h
    rw [List.flatten_cons]; exact List.mem_append_right _ h
  | f :: fs, i + 1, a, h => by
    rw [List.set_cons_succ, List.flatten_cons] at h
    rw [List.flatten_cons]
    rcases List.mem_append.mp h with h | h
    · exact List.mem_append_left _ h
    · exact List.mem_append_right _ (mem_set0 h)
theorem mem_set1 : ∀ {fps : List (List Addr)} {i : Nat} {fp : List Addr} {a : Addr}, a ∈ (fps.set i fp).flatten → a ∈ fp ∨ a ∈ (fps.set i []).flatten
  | [], _, _, _, h => nomatch h
  | f :: fs, 0, fp, a, h => by
    rw [List.set_cons_zero, List.flatten_cons] at h
    rw [List.set_cons_zero, List.flatten_cons, List.nil_append]
    exact List.mem_append.mp h
  | f :: fs, i + 1, fp, a, h => by
    rw [List.set_cons_succ, List.flatten_cons] at h
    rw [List.set_cons_succ, List.flatten_cons]
    rcases List.mem_append.mp h with h | h
    · exact .inr (List.mem_append_left _ h)
    · rcases mem_set1 h with h | h
      · exact .inl h
      · exact .inr (List.mem_append_right _ h)
theorem nd_set0 : ∀ {fps : List (List Addr)} {i : Nat}, fps.flatten.Nodup → (fps.set i []).flatten.Nodup
  | [], _, h => h
  | f :: fs, 0, h => by
    rw [List.flatten_cons] at h
    rw [List.set_cons_zero, List.flatten_cons, List.nil_append]
    exact (List.nodup_append.mp h).2.1
  | f :: fs, i + 1, h => by
    rw [List.flatten_cons] at h
    obtain ⟨h1, h2, h3⟩ := List.nodup_append.mp h
    rw [List.set_cons_succ, List.flatten_cons]
    exact List.nodup_append.mpr ⟨h1, nd_set0 h2, fun a ha b hb => h3 a ha b (mem_set0 hb)⟩
theorem nd_set1 : ∀ {fps : List (List Addr)} {i : Nat} {fp : List Addr}, (fps.set i []).flatten.Nodup → fp.Nodup → (∀ a ∈ fp, a ∉ (fps.set i []).flatten) → (fps.set i fp).flatten.Nodup
  | [], _, _, h, _, _ => h
  | f :: fs, 0, fp, h, hf, hd => by
    rw [List.set_cons_zero, List.flatten_cons, List.nil_append] at h hd
    rw [List.set_cons_zero, List.flatten_cons]
    exact List.nodup_append.mpr ⟨hf, h, fun a ha b hb e => hd a ha (by rw [e]; exact hb)⟩
  | f :: fs, i + 1, fp, h, hf, hd => by
    rw [List.set_cons_succ, List.flatten_cons] at h hd
    obtain ⟨h1, h2, h3⟩ := List.nodup_append.mp h
    rw [List.set_cons_succ, List.flatten_cons]
    refine List.nodup_append.mpr ⟨h1, nd_set1 h2 hf fun a ha q => hd a ha (List.mem_append_right _ q), fun a ha b hb e => ?_⟩
    rcases mem_set1 hb with q | q
    · exact hd b q (List.mem_append_left _ (by rw [← e]; exact ha))
    · exact h3 a ha b q e
theorem mem_at : ∀ {fps : List (List Addr)} {i : Nat} {fp : List Addr}, fps[i]? = some fp → ∀ a ∈ fp, a ∈ fps.flatten
  | [], _, _, e, _, _ => by simp at e
  | f :: fs, 0, fp, e, a, h => by
    simp at e; subst e
    rw [List.flatten_cons]; exact List.mem_append_left _ h
  | f :: fs, i + 1, fp, e, a, h => by
    rw [List.flatten_cons]; exact List.mem_append_right _ (mem_at (by simpa using e) a h)
theorem nd_at : ∀ {fps : List (List Addr)} {i : Nat} {fp : List Addr}, fps.flatten.Nodup → fps[i]? = some fp → fp.Nodup
  | [], _, _, _, e => by simp at e
  | f :: fs, 0, fp, h, e => by
    simp at e; subst e
    rw [List.flatten_cons] at h; exact (List.nodup_append.mp h).1
  | f :: fs, i + 1, fp, h, e => by
    rw [List.flatten_cons] at h; exact nd_at (List.nodup_append.mp h).2.1 (by simpa using e)
theorem mem_apart : ∀ {fps : List (List Addr)} {i : Nat} {fp : List Addr}, fps.flatten.Nodup → fps[i]? = some fp → ∀ a ∈ fp, a ∉ (fps.set i []).flatten
  | [], _, _, _, e, _, _ => by simp at e
  | f :: fs, 0, fp, h, e, a, ha => by
    simp at e; subst e
    rw [List.flatten_cons] at h
    rw [List.set_cons_zero, List.flatten_cons, List.nil_append]
    exact fun q => (List.nodup_append.mp h).2.2 a ha a q rfl
  | f :: fs, i + 1, fp, h, e, a, ha => by
    rw [List.flatten_cons] at h
    obtain ⟨h1, h2, h3⟩ := List.nodup_append.mp h
    have e' : fs[i]? = some fp := by simpa using e
    rw [List.set_cons_succ, List.flatten_cons]
    intro q
    rcases List.mem_append.mp q with q | q
    · exact h3 a q a (mem_at e' a ha) rfl
    · exact mem_apart h2 e' a ha q
theorem mem_other : ∀ {fps : List (List Addr)} {i j : Nat} {fp : List Addr}, fps[j]? = some fp → j ≠ i → ∀ a ∈ fp, a ∈ (fps.set i []).flatten := fun {fps i j fp} e ne a ha =>
  mem_at (i := j) (by rw [List.getElem?_set_ne (Ne.symm ne)]; exact e) a ha

/-! ### changes of the state -/
/-- what an owned thing is -/
def Owd (P : Program) (w : World) (a : Addr) (u : Option HO) : Prop := (∃ xs, u = some (.lst xs)) ∨ (∃ kv, u = some (.dK kv)) ∨ ∃ xs, u = some (rawN P w a xs)
section
variable {g : Gv} {W : L2.WX} {Z0 Z Z1 Z' : Addr → Prop} {H0 H H1 H' : Hp} {fps : List (List Addr)} {σl : Sl} {σ : L2.St}
mutual
theorem Rep.owd : ∀ {d : D} {v : V} {fp : List Addr}, Rep g Z H d v fp → ∀ a ∈ fp, Owd g.P g.w a (H a)
  | _, _, _, .non, _, h => nomatch h
  | _, _, _, .bl b, _, h => nomatch h
  | _, _, _, .int i, _, h => nomatch h
  | _, _, _, .str x, _, h => nomatch h
  | _, _, _, .tup _ hs, a, h => Reps.owd hs a h
  | _, _, _, .lst e hs w, a, h => by
    rcases w with ⟨_, q⟩ | ⟨_, _, q, _⟩
    · rw [q] at h
      rcases List.mem_cons.mp h with rfl | h
      · exact .inl ⟨_, e⟩
      · exact Reps.owd hs a h
    · rw [q] at h; cases h
  | _, _, _, .lstR h hs, _, h' => nomatch h'
  | _, _, _, .dK e _ hs w, a, h => by
    rcases w with ⟨_, q⟩ | ⟨_, _, q, _⟩
    · rw [q] at h
      rw [List.mem_singleton.mp h]; exact .inr (.inl ⟨_, e⟩)
    · rw [q] at h; cases h
  | _, _, _, .dN e _ _ _ hs w, a, h => by
    rcases w with ⟨_, q⟩ | ⟨_, _, q, _⟩
    · rw [q] at h
      rw [List.mem_singleton.mp h]; exact .inr (.inr ⟨_, e⟩)
    · rw [q] at h; cases h
theorem Reps.owd : ∀ {d : List D} {v : List V} {fp : List Addr}, Reps g Z H d v fp → ∀ a ∈ fp, Owd g.P g.w a (H a)
  | _, _, _, .nil, _, h => nomatch h
  | _, _, _, .cons r hs, a, h => by
    rcases List.mem_append.mp h with h | h
    · exact Rep.owd r a h
    · exact Reps.owd hs a h
end
theorem kp_upd {P : Program} {w : World} {fp : List Addr} {a : Addr} {u : HO} (ho : Owd P w a (H a)) (hz : ¬ Z a) (hf : a ∉ fp) : Kp Z fp H (upd H a u) where
  tup b vs h := by
    have ne : b ≠ a := fun e => by
      subst e
      rcases h with h | ⟨o, h⟩ <;> rcases ho with ⟨_, q⟩ | ⟨_, q⟩ | ⟨_, q⟩ <;> (rw [h] at q; cases q)
    rcases h with h | ⟨o, h⟩
    · exact .inl (by rw [upd_ne ne]; exact h)
    · exact .inr ⟨o, by rw [upd_ne ne]; exact h⟩
  frz b ob vs h := by
    have ne : b ≠ a := fun e => by
      subst e
      rcases ho with ⟨_, q⟩ | ⟨_, q⟩ | ⟨_, q⟩ <;> (rw [h] at q; cases q)
    rw [upd_ne ne]; exact h
  z b o hb h := by
    have ne : b ≠ a := fun e => hz (by rw [← e]; exact hb)
    rw [upd_ne ne]; exact h
  own b o hb h := by
    have ne : b ≠ a := fun e => hf (by rw [← e]; exact hb)
    rw [upd_ne ne]; exact h
theorem Kp.trans {fp : List Addr} (le : ∀ a, Z a → Z1 a) (a : Kp Z fp H H1) (b : Kp Z1 fp H1 H') : Kp Z fp H H' :=
  ⟨fun x vs h => b.tup x vs (a.tup x vs h), fun x ob vs h => b.frz x ob vs (a.frz x ob vs h), fun x o hz h => b.z x o (le x hz) (a.z x o hz h), fun x o m h => b.own x o m (a.own x o m h)⟩
theorem same_updO {a : Addr} {u : HO} (s : Same H0 H) (h : H0 a = none) : Same H0 (upd H a u) := fun b x e => by
  rw [upd_ne (ne_of_none e h)]; exact s b x e
theorem upd_some {a b : Addr} {u : HO} (h : H b ≠ none) : upd H a u b ≠ none := fun e => by
  by_cases q : b = a
  · rw [q, upd_same] at e; cases e
  · rw [upd_ne q] at e; exact h e
theorem set_self {α : Type} {xs : List α} {i : Nat} {x : α} (e : xs[i]? = some x) : xs.set i x = xs := by
  apply List.ext_getElem?
  intro j
  by_cases h : i = j
  · subst h
    rw [List.getElem?_set_self (List.getElem?_eq_some_iff.mp e).1, e]
  · rw [List.getElem?_set_ne h]
theorem lt_of_get {α : Type} {xs : List α} {i : Nat} {x : α} (e : xs[i]? = some x) : i < xs.length := (List.getElem?_eq_some_iff.mp e).1

theorem SR.put (r : SR g H0 Z fps σl σ H) {i : Nat} {d : D} {v : V} {fp : List Addr} (sm : Same H0 H') (le : ∀ a, Z a → Z' a) (inn : ∀ a, Z' a → H' a ≠ none) (kp : Kp Z (fps.set i []).flatten H H') (oth : ∀ a ∈ (fps.set i []).flatten, ¬ Z' a)
    (rp : Rep g Z' H' d v fp) (nf : fp.Nodup) (hf : ∀ a ∈ fp, a ∉ (fps.set i []).flatten ∧ ¬ Z' a ∧ H0 a = none) : SR g H0 Z' (fps.set i fp) (σl.set i (some d)) (σ.set i (some v)) H' where
  len := by rw [List.length_set, List.length_set, r.len]
  lenf := by rw [List.length_set, List.length_set, r.lenf]
  slot j d' e := by
    by_cases h : i = j
    · subst h
      have hl : i < σl.length := by have := lt_of_get e; rwa [List.length_set] at this
      rw [List.getElem?_set_self hl] at e
      cases e
      exact ⟨v, fp, List.getElem?_set_self (by rw [← r.len]; exact hl), List.getElem?_set_self (by rw [r.lenf, ← r.len]; exact hl), rp⟩
    · rw [List.getElem?_set_ne h] at e
      obtain ⟨v', fp', e1, e2, rp'⟩ := r.slot j d' e
      exact ⟨v', fp', by rw [List.getElem?_set_ne h]; exact e1, by rw [List.getElem?_set_ne h]; exact e2, rp'.keep le (kp.sub (mem_other e2 (Ne.symm h)))⟩
  gone j e := by
    by_cases h : i = j
    · subst h
      have hl : i < σl.length := by have := lt_of_get e; rwa [List.length_set] at this
      rw [List.getElem?_set_self hl] at e
      cases e
    · rw [List.getElem?_set_ne h] at e ⊢
      exact r.gone j e
  nd := nd_set1 (nd_set0 r.nd) nf fun a ha => (hf a ha).1
  own a ha := by
    rcases mem_set1 ha with q | q
    · exact ⟨(hf a q).2.1, (hf a q).2.2, Rep.there rp a q⟩
    · obtain ⟨_, h2, h3⟩ := r.own a (mem_set0 q)
      refine ⟨oth a q, h2, ?_⟩
      cases e : H a with
      | none => exact absurd e h3
      | some o => rw [kp.own a o q e]; exact Option.some_ne_none _
  z := inn
  same := sm
theorem SR.drop (r : SR g H0 Z fps σl σ H) (i : Nat) (sm : Same H0 H') (le : ∀ a, Z a → Z' a) (inn : ∀ a, Z' a → H' a ≠ none) (kp : Kp Z (fps.set i []).flatten H H') (oth : ∀ a ∈ (fps.set i []).flatten, ¬ Z' a) : SR g H0 Z' (fps.set i []) (σl.set i none) σ H' where
  len := by rw [List.length_set, r.len]
  lenf := by rw [List.length_set, r.lenf]
  slot j d' e := by
    by_cases h : i = j
    · subst h
      have hl : i < σl.length := by have := lt_of_get e; rwa [List.length_set] at this
      rw [List.getElem?_set_self hl] at e
      cases e
    · rw [List.getElem?_set_ne h] at e
      obtain ⟨v', fp', e1, e2, rp'⟩ := r.slot j d' e
      exact ⟨v', fp', e1, by rw [List.getElem?_set_ne h]; exact e2, rp'.keep le (kp.sub (mem_other e2 (Ne.symm h)))⟩
  gone j e := by
    by_cases h : i = j
    · subst h
      have hl : i < σl.length := by have := lt_of_get e; rwa [List.length_set] at this
      exact List.getElem?_set_self (by rw [r.lenf, ← r.len]; exact hl)
    · rw [List.getElem?_set_ne h] at e ⊢
      exact r.gone j e
  nd := nd_set0 r.nd
  own a q := by
    obtain ⟨_, h2, h3⟩ := r.own a (mem_set0 q)
    refine ⟨oth a q, h2, ?_⟩
    cases e : H a with
    | none => exact absurd e h3
    | some o => rw [kp.own a o q e]; exact Option.some_ne_none _
  z := inn
  same := sm
theorem SR.owd (r : SR g H0 Z fps σl σ H) : ∀ a ∈ fps.flatten, Owd g.P g.w a (H a) := fun a ha => by
  obtain ⟨f, hf, hm⟩ := List.mem_flatten.mp ha
  obtain ⟨i, hi, e⟩ := List.mem_iff_getElem.mp hf
  have e1 : fps[i]? = some f := by rw [List.getElem?_eq_getElem hi, e]
  have hl : i < σl.length := by rw [r.len, ← r.lenf]; exact hi
  cases q : σl[i]? with
  | none => rw [List.getElem?_eq_getElem hl] at q; cases q
  | some o =>
    cases o with
    | none =>
      rw [r.gone i q] at e1; cases e1
      cases hm
    | some d =>
      obtain ⟨v, fp, _, e2, rp⟩ := r.slot i d q
      rw [e1] at e2; cases e2
      exact rp.owd a hm
/-- a slot takes what an expression has told -/
theorem SR.bind (r : SR g H0 Z fps σl σ H) (i : Nat) {d : D} {v : V} {fp : List Addr} (p : PostE g true Z Z' H H' d v fp) : SR g H0 Z' (fps.set i fp) (σl.set i (some d)) (σ.set i (some v)) H' := by
  have r1 := r.step p.same p.zx
  obtain ⟨n, o⟩ := p.own rfl
  refine r1.put r1.same (fun _ z => z) r1.z (.of_same (same_refl _)) (fun a ha => (r1.own a (mem_set0 ha)).1) p.rep n fun a ha => ⟨fun q => ?_, (o a ha).2, same_none r.same (o a ha).1⟩
  exact (r.own a (mem_set0 q)).2.2 (o a ha).1
/-- a slot takes a clean thing -/
theorem SR.bind0 (r : SR g H0 Z fps σl σ H) (i : Nat) {d : D} {v : V} (p : Rep g Z H d v []) : SR g H0 Z (fps.set i []) (σl.set i (some d)) (σ.set i (some v)) H :=
  r.put r.same (fun _ z => z) r.z (.of_same (same_refl _)) (fun a ha => (r.own a (mem_set0 ha)).1) p List.nodup_nil fun a ha => nomatch ha

/-- the state of a def's body: its entry's heap and zone -/
structure SS (g : Gv) (H0 : Hp) (Z0 Z : Addr → Prop) (fps : List (List Addr)) (σl : Sl) (σ : L2.St) (H : Hp) : Prop where
  sr : SR g H0 Z fps σl σ H
  z0 : ∀ a, Z0 a → Z a
  zn : ∀ a, Z a → Z0 a ∨ H0 a = none
theorem SS.step (r : SS g H0 Z0 Z fps σl σ H) (s : Same H H1) (z : Zx Z Z1 H H1) : SS g H0 Z0 Z1 fps σl σ H1 :=
  ⟨r.sr.step s z, fun a h => z.le a (r.z0 a h), fun a h => by
    rcases z.new a h with q | q
    · exact r.zn a q
    · exact .inr (same_none r.sr.same q)⟩
theorem SS.bind (r : SS g H0 Z0 Z fps σl σ H) (i : Nat) {d : D} {v : V} {fp : List Addr} (p : PostE g true Z Z' H H' d v fp) : SS g H0 Z0 Z' (fps.set i fp) (σl.set i (some d)) (σ.set i (some v)) H' :=
  ⟨r.sr.bind i p, (r.step p.same p.zx).z0, (r.step p.same p.zx).zn⟩

structure Ev (Z Z' : Addr → Prop) (H H' : Hp) : Prop where
  le : ∀ a, Z a → Z' a
  kp : Kp Z [] H H'
theorem Ev.refl : Ev Z Z H H := ⟨fun _ z => z, .of_same (same_refl H)⟩
theorem Ev.trans (a : Ev Z Z1 H H1) (b : Ev Z1 Z' H1 H') : Ev Z Z' H H' := ⟨fun x z => b.le x (a.le x z), a.kp.trans a.le b.kp⟩
theorem Ev.of_zx (s : Same H H') (z : Zx Z Z' H H') : Ev Z Z' H H' := ⟨z.le, .of_same s⟩

inductive RS where
  | nx (σ : Sl) | rt (d : D) | bk (σ : Sl) | ct (σ : Sl) | er (c : Nat) (fs : List D) (σ : Sl) | bad
abbrev SF := Sl → RS
def OutS (g : Gv) (W : L2.WX) (H0 : Hp) (Z0 Z : Addr → Prop) (H : Hp) (E : Ends) : RS → Prop
  | .nx σl => ∀ σ' H' Z' fps', SS g H0 Z0 Z' fps' σl σ' H' → Ev Z Z' H H' → E.nx σ' H'
  | .rt d => ∀ v H' Z' fp, PostE g true Z0 Z' H0 H' d v fp → E.rt v H'
  | .bk σl => ∀ σ' H' Z' fps', SS g H0 Z0 Z' fps' σl σ' H' → Ev Z Z' H H' → E.bk σ' H'
  | .ct σl => ∀ σ' H' Z' fps', SS g H0 Z0 Z' fps' σl σ' H' → Ev Z Z' H H' → E.ct σ' H'
  | .er c fs σl => ∀ σ' H' Z' fps' cls d, SS g H0 Z0 Z' fps' σl σ' H' → Ev Z Z' H H' → ExR g c fs cls d H' → W cls d σ' H'
  | .bad => False
def tS (g : Gv) (W : L2.WX) (f : SF) : TS := fun E σ H => ∃ H0 Z0 Z fps σl, SS g H0 Z0 Z fps σl σ H ∧ OutS g W H0 Z0 Z H E (f σl)
theorem OutS.pre {E : Ends} {r : RS} (e : Ev Z Z1 H H1) (o : OutS g W H0 Z0 Z H E r) : OutS g W H0 Z0 Z1 H1 E r := by
  cases r with
  | nx σl => exact fun σ' H' Z' fps' s e' => o σ' H' Z' fps' s (e.trans e')
  | rt d => exact o
  | bk σl => exact fun σ' H' Z' fps' s e' => o σ' H' Z' fps' s (e.trans e')
  | ct σl => exact fun σ' H' Z' fps' s e' => o σ' H' Z' fps' s (e.trans e')
  | er c fs σl => exact fun σ' H' Z' fps' cls d s e' => o σ' H' Z' fps' cls d s (e.trans e')
  | bad => exact o
/-- a result at a state -/
def rS {α : Type} (r : R α) (σ : Sl) (k : α → RS) : RS :=
  match r with
  | .ok a => k a
  | .err c fs => .er c fs σ
  | .bad => .bad
theorem OutS.rS {α : Type} {E : Ends} {r : R α} {k : α → RS} (ss : SS g H0 Z0 Z fps σl σ H) (o : OutS g W H0 Z0 Z H E (DI.rS r σl k)) : Out g W Z σ H r fun a => OutS g W H0 Z0 Z H E (k a) := by
  cases r with
  | ok a => exact o
  | err c fs => exact fun H' Z' cls d s z e => o σ H' Z' fps cls d (ss.step s z) (.of_zx s z) e
  | bad => exact o
theorem OutS.guard {E : Ends} {c : Prop} [Decidable c] {r : RS} (h : OutS g W H0 Z0 Z H E (if c then r else .bad)) : c ∧ OutS g W H0 Z0 Z H E r := by
  by_cases hc : c
  · rw [if_pos hc] at h; exact ⟨hc, h⟩
  · rw [if_neg hc] at h; exact h.elim

/-! ### the statements' functions -/
def sSkip : SF := .nx
def RS.andThen (r : RS) (k : SF) : RS :=
  match r with
  | .nx σ' => k σ'
  | r => r
def sSeq (f k : SF) : SF := fun σ => (f σ).andThen k
def sSet (i : Nat) (f : Sl → R D) : SF := fun σ => rS (f σ) σ fun d => .nx (σ.set i (some d))
def cond (d : D) (r s : RS) : RS :=
  match d with
  | .bl b => if b = true then r else s
  | _ => .bad
def sIf (c : Sl → R D) (f k : SF) : SF := fun σ => rS (c σ) σ fun d => cond d (f σ) (k σ)
def sRet (f : Sl → R D) : SF := fun σ => rS (f σ) σ .rt
def sRetV (i : Nat) : SF := fun σ => rS (getS σ i) σ .rt
def sRetN : SF := fun _ => .rt .non
def sBrk : SF := .bk
def sCnt : SF := .ct
def sFz (i : Nat) (k : SF) : SF := fun σ => rS (getS σ i) σ fun d => k (σ.set i (some (frz d)))
def sDrop (f : Sl → R D) : SF := fun σ => rS (f σ) σ fun _ => .nx σ
def sUnp (p : Pat) (f : Sl → R D) : SF := fun σ => rS (f σ) σ fun d => if clean d = true then rS (bindP σ p d) σ .nx else .bad
def lstOf : D → R (List D)
  | .lst true xs => .ok xs
  | _ => .bad
def sApp (i : Nat) (f : Sl → R D) : SF := fun σ => rS ((getS σ i).bind lstOf) σ fun xs => rS (f σ) σ fun y => if xs.length < sizeLine then .nx (σ.set i (some (.lst true (xs ++ [y])))) else .bad
def lp (c : Sl → R D) (f : SF) : Nat → SF
  | 0, _ => .bad
  | n + 1, σ => rS (c σ) σ fun d =>
    match d with
    | .bl b => if b = true then (match f σ with
      | .nx σ' => lp c f n σ'
      | .ct σ' => lp c f n σ'
      | .bk σ' => .nx σ'
      | r => r) else .nx σ
    | _ => .bad
open Classical in
noncomputable def sWhl (c : Sl → R D) (f : SF) : SF := fun σ => if h : ∃ n, lp c f n σ ≠ .bad then lp c f (Classical.choose h) σ else .bad
def fr (p : Pat) (f : SF) : List D → SF
  | [], σ => .nx σ
  | x :: xs, σ => rS (bindP σ p x) σ fun σ1 =>
    match f σ1 with
    | .nx σ' => fr p f xs σ'
    | .ct σ' => fr p f xs σ'
    | .bk σ' => .nx σ'
    | r => r
def sFor (p : Pat) (src : Sl → R (List D)) (f : SF) : SF := fun σ => rS (src σ) σ fun xs => fr p f xs σ
theorem lp_up {c : Sl → R D} {f : SF} : ∀ (n : Nat) (σ : Sl), lp c f n σ ≠ .bad → lp c f (n + 1) σ = lp c f n σ
  | 0, σ, h => absurd rfl h
  | n + 1, σ, h => by
    have go : ∀ σ', lp c f n σ' ≠ .bad → lp c f (n + 1) σ' = lp c f n σ' := fun σ' => lp_up n σ'
    rw [lp] at h ⊢
    conv => rhs; rw [lp]
    cases hc : c σ with
    | err _ _ => rfl
    | bad => rfl
    | ok d =>
      rw [hc] at h
      cases d with
      | bl b =>
        cases b with
        | false => rfl
        | true =>
          simp only [DI.rS, if_pos] at h ⊢
          cases hf : f σ with
          | nx σ' => rw [hf] at h; exact go σ' h
          | ct σ' => rw [hf] at h; exact go σ' h
          | _ => rfl
      | _ => rfl
theorem lp_le {c : Sl → R D} {f : SF} {n m : Nat} {σ : Sl} (h : lp c f n σ ≠ .bad) (hm : n ≤ m) : lp c f m σ = lp c f n σ := by
  induction hm with
  | refl => rfl
  | step hm ih => rw [lp_up _ σ (by rw [ih]; exact h), ih]
theorem whl_eq {c : Sl → R D} {f : SF} {n : Nat} {σ : Sl} {r : RS} (h : lp c f n σ = r) (hr : r ≠ .bad) : sWhl c f σ = r := by
  have hex : ∃ n, lp c f n σ ≠ .bad := ⟨n, by rw [h]; exact hr⟩
  have hc : lp c f (Classical.choose hex) σ ≠ .bad := Classical.choose_spec hex
  unfold sWhl
  rw [dif_pos hex]
  rcases Nat.le_total n (Classical.choose hex) with q | q
  · rw [lp_le (by rw [h]; exact hr) q, h]
  · rw [← lp_le hc q, h]
theorem whl_ex {c : Sl → R D} {f : SF} {σ : Sl} (h : sWhl c f σ ≠ .bad) : ∃ n, lp c f n σ = sWhl c f σ := by
  unfold sWhl at h ⊢
  by_cases hex : ∃ n, lp c f n σ ≠ .bad
  · rw [dif_pos hex]; exact ⟨_, rfl⟩
  · rw [dif_neg hex] at h; exact absurd rfl h
end

/-! ### their proofs -/
section
variable {X : Cx} {g : Gv} {W : L2.WX} {st : Stmt} {sts : List Stmt} {e a : Expr} {fe fc : Sl → R D} {f k : SF} {pos : Pos} {b : Bool} {i : Nat}
theorem ss_nil : PSs X [] (tS g W sSkip) := pss_nil.imp fun E σ H q => by
  obtain ⟨H0, Z0, Z, fps, σl, ss, o⟩ := q
  exact o σ H Z fps ss .refl
theorem ss_pass : PS X (.Pass pos) (tS g W sSkip) := ps_pass.imp fun E σ H q => by
  obtain ⟨H0, Z0, Z, fps, σl, ss, o⟩ := q
  exact o σ H Z fps ss .refl
theorem ss_cons (h1 : PS X st (tS g W f)) (h2 : PSs X sts (tS g W k)) : PSs X (st :: sts) (tS g W (sSeq f k)) := (pss_cons h1 h2).imp fun E σ H q => by
  obtain ⟨H0, Z0, Z, fps, σl, ss, o⟩ := q
  refine ⟨H0, Z0, Z, fps, σl, ss, ?_⟩
  have o : OutS g W H0 Z0 Z H E ((f σl).andThen k) := o
  cases h : f σl with
  | nx σl1 => rw [h] at o; exact fun σ' H' Z' fps' s e => ⟨H0, Z0, Z', fps', σl1, s, o.pre e⟩
  | rt d => rw [h] at o; exact o
  | bk σl => rw [h] at o; exact o
  | ct σl => rw [h] at o; exact o
  | er c fs σl => rw [h] at o; exact o
  | bad => rw [h] at o; exact o
theorem ss_one (h1 : PS X st (tS g W f)) : PSs X [st] (tS g W f) := pss_one h1
theorem ss_set {x : Str} {pos' : Pos} (hN : X.N.Nodup) (hi : X.N[i]? = some x) (hx : Loc X.env.scope x) (he : PE X e (tI g W true fe)) (hs : swapsWith e (some (.Name x pos')) pos.line X.env = pure false) (hf : X.fn x = true ∨ X.env.scope.names.lookup x = some .local) :
    PS X (.Assign [.Name x pos'] e pos) (tS g W (sSet i fe)) := (ps_set hN hi hx he hs hf).imp fun E σ H q => by
  obtain ⟨H0, Z0, Z, fps, σl, ss, o⟩ := q
  refine ⟨H0, Z, fps, σl, ss.sr, (OutS.rS ss o).imp fun d o v H' Z' fp p => ?_⟩
  exact o _ H' Z' _ (ss.bind i p) (.of_zx p.same p.zx)
theorem ss_if {c : Expr} {p q : List Stmt} (hc : PT X c (tIT g W fc)) (ha : PSs X p (tS g W f)) (hb : PSs X q (tS g W k)) : PS X (.If c p q pos) (tS g W (sIf fc f k)) := (ps_if hc ha hb).imp fun E σ H q => by
  obtain ⟨H0, Z0, Z, fps, σl, ss, o⟩ := q
  refine ⟨H0, Z, fps, σl, ss.sr, (OutS.rS ss o).imp fun d o => ?_⟩
  cases d with
  | bl b =>
    refine ⟨b, rfl, fun H' Z' s z => ?_⟩
    cases b with
    | true => exact ⟨H0, Z0, Z', fps, σl, ss.step s z, OutS.pre (.of_zx s z) o⟩
    | false => exact ⟨H0, Z0, Z', fps, σl, ss.step s z, OutS.pre (.of_zx s z) o⟩
  | _ => exact o.elim
theorem SS.ret {Z0 Z Z' : Addr → Prop} {H0 H H' : Hp} {fps : List (List Addr)} {σl : Sl} {σ : L2.St} {d : D} {v : V} {fp : List Addr} (ss : SS g H0 Z0 Z fps σl σ H) (p : PostE g true Z Z' H H' d v fp) : PostE g true Z0 Z' H0 H' d v fp := by
  refine ⟨same_trans ss.sr.same p.same, ⟨fun a z => p.zx.le a (ss.z0 a z), fun a z => ?_, p.zx.inn⟩, p.rep, fun _ => ⟨(p.own rfl).1, fun a ha => ⟨same_none ss.sr.same ((p.own rfl).2 a ha).1, ((p.own rfl).2 a ha).2⟩⟩⟩
  exact (ss.step p.same p.zx).zn a z
theorem ss_ret (he : PE X e (tI g W true fe)) : PS X (.Return (some e) pos) (tS g W (sRet fe)) := (ps_ret he).imp fun E σ H q => by
  obtain ⟨H0, Z0, Z, fps, σl, ss, o⟩ := q
  exact ⟨H0, Z, fps, σl, ss.sr, (OutS.rS ss o).imp fun d o v H' Z' fp p => o v H' Z' fp (ss.ret p)⟩
theorem ss_retN : PS X (.Return none pos) (tS g W sRetN) := ps_retN.imp fun E σ H q => by
  obtain ⟨H0, Z0, Z, fps, σl, ss, o⟩ := q
  exact o .non H Z [] (ss.ret (post_sc ss.sr.z .non))
theorem getS_ok {σl : Sl} {d : D} (h : getS σl i = .ok d) : σl[i]? = some (some d) := by
  unfold getS at h
  split at h
  · cases h; assumption
  · cases h
theorem getS_err {σl : Sl} {c : Nat} {fs : List D} : getS σl i ≠ .err c fs := fun h => by
  unfold getS at h
  split at h <;> cases h
theorem ss_retV {x : Str} {p : Pos} (hN : X.N[i]? = some x) (hv : Vis X.env.scope x) (hd : (x == ("__debug__" : Str)) = false) (hcd : (x == ("__classdict__" : Str)) = false) : PS X (.Return (some (.Name x p)) pos) (tS g W (sRetV i)) := (ps_ret (pe_var hN hv hd hcd)).imp fun E σ H q => by
  obtain ⟨H0, Z0, Z, fps, σl, ss, o⟩ := q
  obtain ⟨d, e, o⟩ := (OutS.rS ss o).okOf fun c fs => getS_err
  obtain ⟨v, fp, e1, e2, rp⟩ := ss.sr.slot i d (getS_ok e)
  refine ⟨v, e1, o v H Z fp ⟨ss.sr.same, ⟨ss.z0, ss.zn, ss.sr.z⟩, rp, fun _ => ⟨nd_at ss.sr.nd e2, fun a ha => ?_⟩⟩⟩
  obtain ⟨h1, h2, _⟩ := ss.sr.own a (mem_at e2 a ha)
  exact ⟨h2, h1⟩
theorem ss_brk : PS X (.Break pos) (tS g W sBrk) := ps_break.imp fun E σ H q => by
  obtain ⟨H0, Z0, Z, fps, σl, ss, o⟩ := q
  exact o σ H Z fps ss .refl
theorem ss_cnt : PS X (.Continue pos) (tS g W sCnt) := ps_continue.imp fun E σ H q => by
  obtain ⟨H0, Z0, Z, fps, σl, ss, o⟩ := q
  exact o σ H Z fps ss .refl
theorem ss_drop (he : PE X e (tI g W b fe)) (hs : swapsWith e none pos.line X.env = pure false) : PS X (.Expr e pos) (tS g W (sDrop fe)) := (ps_expr he hs).imp fun E σ H q => by
  obtain ⟨H0, Z0, Z, fps, σl, ss, o⟩ := q
  refine ⟨H0, Z, fps, σl, ss.sr, (OutS.rS ss o).imp fun d o v H' Z' fp p => ?_⟩
  exact o σ H' Z' fps (ss.step p.same p.zx) (.of_zx p.same p.zx)
theorem ss_fz (h : PSs X sts (tS g W k)) : PSs X sts (tS g W (sFz i k)) := h.imp fun E σ H q => by
  obtain ⟨H0, Z0, Z, fps, σl, ss, o⟩ := q
  obtain ⟨d, e, o⟩ := (OutS.rS ss o).okOf fun c fs => getS_err
  obtain ⟨v, fp, e1, e2, rp⟩ := ss.sr.slot i d (getS_ok e)
  have own := fun a ha => ss.sr.own a (mem_at e2 a ha)
  have r2 : SR g H0 (fun a => Z a ∨ a ∈ fp) (fps.set i []) (σl.set i (some (frz d))) (σ.set i (some v)) H :=
    ss.sr.put ss.sr.same (fun a z => .inl z) (fun a z => by
      rcases z with z | m
      · exact ss.sr.z a z
      · exact (own a m).2.2) (.of_same (same_refl H)) (fun a ha q => by
      rcases q with z | m
      · exact (ss.sr.own a (mem_set0 ha)).1 z
      · exact mem_apart ss.sr.nd e2 a m ha) (rp.frz (fun a z => .inl z) fun a m => .inr m) List.nodup_nil fun a ha => nomatch ha
  rw [set_self e1] at r2
  refine ⟨H0, Z0, fun a => Z a ∨ a ∈ fp, _, _, ⟨r2, fun a z => .inl (ss.z0 a z), fun a z => ?_⟩, OutS.pre ⟨fun a z => .inl z, .of_same (same_refl H)⟩ o⟩
  rcases z with z | m
  · exact ss.zn a z
  · exact .inr (own a m).2.1
end
end DI
/-! DI, targets, loops, append -/
namespace DI
open PySem PySem.Spec PyProof.Rows L2
theorem _root_.L2.PG.imp {X : Cx} {e : Expr} {t t' : TG} (h : PG X e t) (hi : ∀ v σ H Q, t' v σ H Q → t v σ H Q) : PG X e t' := ⟨fun pins s σ H v u Q I r q => h.run pins s σ H v u Q I r (hi _ _ _ _ q)⟩
theorem _root_.L2.PGs.imp {X : Cx} {e : List Expr} {t t' : TGs} (h : PGs X e t) (hi : ∀ v σ H Q, t' v σ H Q → t v σ H Q) : PGs X e t' := ⟨fun pins s σ H v u Q I r q => h.run pins s σ H v u Q I r (hi _ _ _ _ q)⟩

section
variable {X : Cx} {g : Gv} {W : L2.WX} {e a : Expr} {es : List Expr} {fe fc : Sl → R D} {f k : SF} {pos : Pos} {b : Bool} {i : Nat} {is : List Nat}
def psl : Pat → List Nat
  | .one i => [i]
  | .many is => is
theorem wipe_get {σ : L2.St} {j : Nat} : ∀ {vs : List Nat}, (wipe σ vs)[j]? = if j ∈ vs ∧ j < σ.length then some none else σ[j]?
  | [] => by simp [wipe]
  | v :: vs => by
    show ((wipe σ vs).set v none)[j]? = _
    by_cases h : v = j
    · subst h
      by_cases hl : v < σ.length
      · rw [List.getElem?_set_self (by rw [wipe_length]; exact hl), if_pos ⟨List.mem_cons_self, hl⟩]
      · rw [List.getElem?_eq_none (by rw [List.length_set, wipe_length]; omega), if_neg (fun q => hl q.2), List.getElem?_eq_none (by omega)]
    · rw [List.getElem?_set_ne h, wipe_get]
      by_cases hm : j ∈ vs ∧ j < σ.length
      · rw [if_pos hm, if_pos ⟨List.mem_cons_of_mem _ hm.1, hm.2⟩]
      · rw [if_neg hm, if_neg (fun q => hm ⟨by
          rcases List.mem_cons.mp q.1 with e | e
          · exact absurd e.symm h
          · exact e, q.2⟩)]
theorem wipe_set {σ : L2.St} {i : Nat} {x : Option V} {vs : List Nat} (h : i ∈ vs) : wipe (σ.set i x) vs = wipe σ vs := by
  apply List.ext_getElem?
  intro j
  rw [wipe_get, wipe_get, List.length_set]
  by_cases hm : j ∈ vs ∧ j < σ.length
  · rw [if_pos hm, if_pos hm]
  · rw [if_neg hm, if_neg hm]
    by_cases e : i = j
    · subst e
      have hl : ¬ i < σ.length := fun q => hm ⟨h, q⟩
      rw [List.getElem?_eq_none (by rw [List.length_set]; omega), List.getElem?_eq_none (by omega)]
    · rw [List.getElem?_set_ne e]
theorem wipe_wipe {σ : L2.St} {vs : List Nat} : wipe (wipe σ vs) vs = wipe σ vs := by
  apply List.ext_getElem?
  intro j
  rw [wipe_get, wipe_length]
  by_cases hm : j ∈ vs ∧ j < σ.length
  · rw [if_pos hm, wipe_get, if_pos hm]
  · rw [if_neg hm]
/-- wiped alike where the pattern's slots are wiped -/
def Wa (is : List Nat) (σ σ' : L2.St) : Prop := ∀ vs : List Nat, (∀ j ∈ is, j ∈ vs) → wipe σ' vs = wipe σ vs
def tG (g : Gv) (p : Pat) : TG := fun v σ H Q => ∃ H0 Z fps σl x σl', SR g H0 Z fps σl σ H ∧ Rep g Z H x v [] ∧ bindP σl p x = .ok σl' ∧ ∀ σ' fps', SR g H0 Z fps' σl' σ' H → Wa (psl p) σ σ' → Q σ' H
def tGs (g : Gv) (is : List Nat) : TGs := fun vs σ H Q => ∃ H0 Z fps σl xs σl', SR g H0 Z fps σl σ H ∧ Reps g Z H xs vs [] ∧ putAll σl is xs = .ok σl' ∧ ∀ σ' fps', SR g H0 Z fps' σl' σ' H → Wa is σ σ' → Q σ' H
theorem sg_one {x : Str} (hN : X.N.Nodup) (hi : X.N[i]? = some x) (hx : Loc X.env.scope x) (hf : X.fn x = true ∨ X.env.scope.names.lookup x = some .local) : PG X (.Name x pos) (tG g (.one i)) := (pg_name hN hi hx hf).imp fun v σ H Q q => by
  obtain ⟨H0, Z, fps, σl, x, σl', sr, r, e, q⟩ := q
  cases e
  exact q _ _ (sr.bind0 i r) fun vs h => wipe_set (h i (List.mem_singleton.mpr rfl))
theorem sgs_nil : PGs X [] (tGs g []) := pgs_nil.imp fun v σ H Q q => by
  obtain ⟨H0, Z, fps, σl, xs, σl', sr, r, e, q⟩ := q
  cases xs with
  | nil => cases e; cases r; exact ⟨rfl, q σ fps sr fun vs h => rfl⟩
  | cons x xs => cases e
theorem sgs_cons (h1 : PG X e (tG g (.one i))) (h2 : PGs X es (tGs g is)) (hs : (assignEach (e :: es) X.env).map (·.2) = assign e X.env :: (assignEach es X.env).map (·.2)) : PGs X (e :: es) (tGs g (i :: is)) := (pgs_cons h1 h2 hs).imp fun v σ H Q q => by
  obtain ⟨H0, Z, fps, σl, xs, σl', sr, r, e, q⟩ := q
  cases xs with
  | nil => cases e
  | cons x xs =>
    generalize hfp : ([] : List Addr) = fp at r
    cases r with
    | cons h hs =>
      obtain ⟨e1, e2⟩ := List.append_eq_nil_iff.mp hfp.symm
      subst e1 e2
      refine ⟨_, _, rfl, H0, Z, fps, σl, x, _, sr, h, rfl, fun σ1 fps1 sr1 wa => ?_⟩
      exact ⟨H0, Z, fps1, _, xs, σl', sr1, hs, e, fun σ2 fps2 sr2 wa2 => q σ2 fps2 sr2 fun vs hv => (wa2 vs fun j hj => hv j (List.mem_cons_of_mem _ hj)).trans (wa vs fun j hj => hv j (by rw [List.mem_singleton.mp hj]; exact List.mem_cons_self))⟩
theorem putAll_len : ∀ {is : List Nat} {xs : List D} {σ σ' : Sl}, putAll σ is xs = .ok σ' → is.length = xs.length
  | [], [], _, _, _ => rfl
  | [], _ :: _, _, _, h => by cases h
  | _ :: _, [], _, _, h => by cases h
  | i :: is, x :: xs, σ, σ', h => by rw [List.length_cons, List.length_cons, putAll_len (is := is) (xs := xs) h]
theorem sg_many {kk : Nat} (G : Gof g X) (hc : X.calm = true) (h : PGs X es (tGs g is)) (hn : (assignEach es X.env).length = is.length) (hst : (assignEach es X.env).findIdx? (·.1) = none) : PG X (.Tuple es kk pos) (tG g (.many is)) := (pg_tup hc h hn hst).imp fun v σ H Q q => by
  obtain ⟨H0, Z, fps, σl, x, σl', sr, r, e, q⟩ := q
  cases x with
  | tup xs =>
    obtain ⟨a, vs, rfl, hq, rs⟩ := rep_tup r
    have e : putAll σl is xs = .ok σl' := e
    rw [G.K]
    exact ⟨a, vs, rfl, hq, by rw [← rs.length, putAll_len e], H0, Z, fps, σl, xs, σl', sr, rs, e, q⟩
  | _ => cases e
theorem bindP_err {σ : Sl} {p : Pat} {d : D} {c : Nat} {fs : List D} : bindP σ p d ≠ .err c fs := fun h => by
  have go : ∀ {is : List Nat} {xs : List D} {σ : Sl}, putAll σ is xs ≠ .err c fs := by
    intro is
    induction is with
    | nil => intro xs σ h; cases xs <;> cases h
    | cons i is ih => intro xs σ h; cases xs with
      | nil => cases h
      | cons x xs => exact ih h
  cases p with
  | one i => cases h
  | many is =>
    cases d with
    | tup xs => exact go (show putAll σ is xs = _ from h)
    | _ => cases h
theorem ss_unp {tg : Expr} {p : Pat} (he : PE X e (tI g W b fe)) (hg : PG X tg (tG g p)) (hs : swapsWithSole [tg] e pos.line X.env = pure false) (hw : swappedStores [tg] e X.env = pure none) (h1 : (assignEach [tg] X.env).map (·.2) = [assign tg X.env]) :
    PS X (.Assign [tg] e pos) (tS g W (sUnp p fe)) := (ps_asg he hg hs hw h1).imp fun E σ H q => by
  obtain ⟨H0, Z0, Z, fps, σl, ss, o⟩ := q
  refine ⟨H0, Z, fps, σl, ss.sr, (OutS.rS ss o).imp fun d o v H' Z' fp pp => ?_⟩
  obtain ⟨hc, o⟩ := OutS.guard o
  have ss1 := ss.step pp.same pp.zx
  obtain ⟨σl', e, o⟩ := (OutS.rS ss o).okOf fun c fs => bindP_err
  refine ⟨H0, Z', fps, σl, d, σl', ss1.sr, pp.rep.to0 hc, e, fun σ' fps' sr _ => ?_⟩
  exact o σ' H' Z' fps' ⟨sr, ss1.z0, ss1.zn⟩ (.of_zx pp.same pp.zx)

theorem ss_while {c : Expr} {body : List Stmt} (hp : PassesOwn (model X.prog X.w) X.A X.env X.xe) (hc : PT X c (tIT g W fc)) (hb : PSs X body (tS g W f)) : PS X (.While c body [] pos) (tS g W (sWhl fc f)) := (ps_while hp hc hb).imp fun E σ H q => by
  obtain ⟨H0, Z0, Z, fps, σl, ss, o⟩ := q
  obtain ⟨n, hn⟩ := whl_ex (c := fc) (f := f) (σ := σl) fun e => by rw [e] at o; exact o
  rw [← hn] at o
  refine ⟨fun m σ' H' => ∃ Zi fpi σli, SS g H0 Z0 Zi fpi σli σ' H' ∧ OutS g W H0 Z0 Zi H' E (lp fc f m σli), ⟨n, Z, fps, σl, ss, o⟩, ?_⟩
  rintro m σ1 H1 ⟨Zi, fpi, σli, ssi, oi⟩
  cases m with
  | zero => exact oi.elim
  | succ m =>
    refine ⟨H0, Zi, fpi, σli, ssi.sr, (OutS.rS ssi oi).imp fun d o => ?_⟩
    cases d with
    | bl b =>
      refine ⟨b, rfl, fun H2 Z2 s z => ?_⟩
      have ss2 := ssi.step s z
      have ev2 := Ev.of_zx s z
      cases b with
      | false => exact o σ1 H2 Z2 fpi ss2 ev2
      | true =>
        show ∃ N : L2.St → Hp → Prop, (∀ σ' H', N σ' H' → ∃ m', m' < m + 1 ∧ ∃ Zi fpi σli, SS g H0 Z0 Zi fpi σli σ' H' ∧ OutS g W H0 Z0 Zi H' E (lp fc f m' σli)) ∧ tS g W f { E with nx := N, ct := N, bk := E.nx } σ1 H2
        refine ⟨fun σ' H' => ∃ Zi fpi σli, SS g H0 Z0 Zi fpi σli σ' H' ∧ OutS g W H0 Z0 Zi H' E (lp fc f m σli), fun σ' H' h => ⟨m, Nat.lt_succ_self m, h⟩, H0, Z0, Z2, fpi, σli, ss2, ?_⟩
        have o := o.pre ev2
        simp only [if_pos] at o
        cases hf : f σli with
        | nx σl' => rw [hf] at o; exact fun σ' H' Z' fps' s e => ⟨Z', fps', σl', s, o.pre e⟩
        | ct σl' => rw [hf] at o; exact fun σ' H' Z' fps' s e => ⟨Z', fps', σl', s, o.pre e⟩
        | bk σl' => rw [hf] at o; exact o
        | rt d => rw [hf] at o; exact o
        | er c fs σl' => rw [hf] at o; exact o
        | bad => rw [hf] at o; exact o
    | _ => exact o.elim

theorem SR.zone {Z Z' : Addr → Prop} {H0 H : Hp} {fps : List (List Addr)} {σl : Sl} {σ : L2.St} (r : SR g H0 Z fps σl σ H) (le : ∀ a, Z a → Z' a) (inn : ∀ a, Z' a → H a ≠ none) (oth : ∀ a ∈ fps.flatten, ¬ Z' a) : SR g H0 Z' fps σl σ H where
  len := r.len
  lenf := r.lenf
  slot i d e := by
    obtain ⟨v, fp, e1, e2, rp⟩ := r.slot i d e
    exact ⟨v, fp, e1, e2, rp.same le (same_refl H)⟩
  gone := r.gone
  nd := r.nd
  own a ha := ⟨oth a ha, (r.own a ha).2⟩
  z := inn
  same := r.same
theorem ss_for {iter tg : Expr} {body : List Stmt} {p : Pat} {fi : Sl → R (List D)} (hp : PassesOwn (model X.prog X.w) X.A X.env X.xe) (hc : X.calm = true) (hi : PI X tg iter (tIW g W true fi)) (hg : PG X tg (tG g p)) (hb : PSs X body (tS g W f))
    (hs : ∀ x, foldedSetIterable iter X.env x = pure x) : PS X (.For tg iter body [] pos) (tS g W (sFor p fi f)) := (ps_for hp hc hi hg hb hs).imp fun E σ H q => by
  obtain ⟨H0, Z0, Z, fps, σl, ss, o⟩ := q
  refine ⟨H0, Z, fps, σl, ss.sr, (OutS.rS ss o).imp fun xs o J H1 Z1 fp s1 z1 wk hin hfp => ?_⟩
  have ss1 := ss.step s1 z1
  have hfp := hfp rfl
  have ssb : SS g H0 Z0 (fun a => Z1 a ∨ a ∈ fp) fps σl σ H1 := by
    refine ⟨ss1.sr.zone (fun a z => .inl z) (fun a z => ?_) fun a ha z => ?_, fun a z => .inl (ss1.z0 a z), fun a z => ?_⟩
    · rcases z with z | m
      · exact ss1.sr.z a z
      · exact hin a m
    · rcases z with z | m
      · exact (ss1.sr.own a ha).1 z
      · exact (ss.sr.own a ha).2.2 (hfp a m).1
    · rcases z with z | m
      · exact ss1.zn a z
      · exact .inr (same_none ss.sr.same (hfp a m).1)
  have evb : Ev Z (fun a => Z1 a ∨ a ∈ fp) H H1 := ⟨fun a z => .inl (z1.le a z), .of_same s1⟩
  refine ⟨fun i m σ' H' => ∃ Zi fpi σli, SS g H0 Z0 Zi fpi σli σ' H' ∧ Ev (fun a => Z1 a ∨ a ∈ fp) Zi H1 H' ∧ i + m = xs.length ∧ OutS g W H0 Z0 Zi H' E (fr p f (xs.drop i) σli),
    ⟨xs.length, _, fps, σl, ssb, .refl, by omega, o.pre evb⟩, fun i m σ2 H2 hw => ?_⟩
  obtain ⟨Zi, fpi, σli, ssi, evi, em, oi⟩ := hw
  have kpi : Kp Z1 fp H1 H2 := ⟨evi.kp.tup, evi.kp.frz, fun a o h => evi.kp.z a o (.inl h), fun a o h => evi.kp.z a o (.inr h)⟩
  by_cases hi : i < xs.length
  · refine .inr ⟨wk.go H2 i kpi hi, fun σ3 H3 => ∃ Z3 fps3 σl3, SS g H0 Z0 Z3 fps3 σl3 σ3 H3 ∧ Ev (fun a => Z1 a ∨ a ∈ fp) Z3 H1 H3 ∧ OutS g W H0 Z0 Z3 H3 E (fr p f (xs.drop (i + 1)) σl3), fun σ3 H3 hN => ?_, fun x' H3 y => ?_⟩
    · obtain ⟨Z3, fps3, σl3, ss3, ev3, o3⟩ := hN
      exact ⟨m - 1, by omega, Z3, fps3, σl3, ss3, ev3, by omega, o3⟩
    · obtain ⟨s2, rp⟩ := wk.yld H2 H3 i x' xs[i] kpi (List.getElem?_eq_getElem hi) y
      have z2 : Zx Zi Zi H2 H3 := .stay ssi.sr.z s2
      have ss3 := ssi.step s2 z2
      have ev3 := Ev.of_zx s2 z2
      rw [List.drop_eq_getElem_cons hi] at oi
      have oi : OutS g W H0 Z0 Zi H2 E (rS (bindP σli p xs[i]) σli fun σ1 => match f σ1 with
        | .nx σ' => fr p f (xs.drop (i + 1)) σ'
        | .ct σ' => fr p f (xs.drop (i + 1)) σ'
        | .bk σ' => .nx σ'
        | r => r) := oi
      obtain ⟨σl1, e1, oi⟩ := (OutS.rS ssi oi).okOf fun c fs => bindP_err
      refine ⟨H0, Zi, fpi, σli, xs[i], σl1, ss3.sr, rp.keep (fun a z => evi.le a (.inl z)) (.of_same (same_refl _)), e1, fun σ4 fps4 sr4 _ => ?_⟩
      refine ⟨H0, Z0, Zi, fps4, σl1, ⟨sr4, ss3.z0, ss3.zn⟩, ?_⟩
      have oi := oi.pre ev3
      have ev4 := evi.trans ev3
      cases hf : f σl1 with
      | nx σl' => rw [hf] at oi; exact fun σ' H' Z' fps' s e => ⟨Z', fps', σl', s, ev4.trans e, oi.pre e⟩
      | ct σl' => rw [hf] at oi; exact fun σ' H' Z' fps' s e => ⟨Z', fps', σl', s, ev4.trans e, oi.pre e⟩
      | bk σl' => rw [hf] at oi; exact oi
      | rt d => rw [hf] at oi; exact oi
      | er c fs σl' => rw [hf] at oi; exact oi
      | bad => rw [hf] at oi; exact oi
  · have ei : i = xs.length := by omega
    subst ei
    rw [List.drop_length] at oi
    exact .inl ⟨wk.stop H2 kpi, oi σ2 H2 Zi fpi ssi .refl⟩

theorem lstOf_err {r : R D} {c : Nat} {fs : List D} (h : r ≠ .err c fs) : r.bind lstOf ≠ .err c fs := fun e => by
  cases r with
  | ok d =>
    cases d with
    | lst o xs => cases o <;> cases e
    | _ => cases e
  | err c' fs' => exact h (by cases e; rfl)
  | bad => cases e
theorem lstOf_ok {r : R D} {xs : List D} (h : r.bind lstOf = .ok xs) : r = .ok (.lst true xs) := by
  cases r with
  | ok d =>
    cases d with
    | lst o ys => cases o <;> cases h; rfl
    | _ => cases h
  | err c' fs' => cases h
  | bad => cases h
theorem ss_app {x : Str} {p apos cpos : Pos} (G : Gof g X) (hN : X.N[i]? = some x) (hv : Vis X.env.scope x) (hd : (x == ("__debug__" : Str)) = false) (hcd : (x == ("__classdict__" : Str)) = false) (he : PE X e (tI g W true fe))
    (hst : starEach [e] X.env = (false, eval e X.env) :: starEach [] X.env)
    (hbase : attributeBase (.Name x p) "append" X.env (eval (.Name x p) X.env) = eval (.Name x p) X.env)
    (hfew : ((backTo cpos (starEach [e] X.env)).all (fun x => !x.1) && (backToKw cpos (keywordEach [] X.env)).all (fun x => x.1.isSome)
      && decide ([e].length + ([] : List Keyword).length + (if ([] : List Keyword).isEmpty then 0 else 1) < 30)) = true)
    (hline : (apos.endLine == cpos.line) = true) (hplain : (backTo cpos (starEach [] X.env)).any (·.1) = false)
    (hs : swapsWith (.Call (.Attribute (.Name x p) "append" apos) [e] [] cpos) none pos.line X.env = pure false) :
    PS X (.Expr (.Call (.Attribute (.Name x p) "append" apos) [e] [] cpos) pos) (tS g W (sApp i fe)) :=
  (ps_expr (pe_bm PySem.F.plainAttrs_list PySem.F.slot_list_append PySem.F.type_list_append mt_append (pe_var hN hv hd hcd) (pa_cons he pa_nil hst) hbase hfew hline hst hplain) hs).imp fun E σ H q => by
  obtain ⟨H0, Z0, Z, fps, σl, ss, o⟩ := q
  obtain ⟨xs, e0, o⟩ := (OutS.rS ss o).okOf fun c fs => lstOf_err getS_err
  obtain ⟨v, fp, e1, e2, rp⟩ := ss.sr.slot i _ (getS_ok (lstOf_ok e0))
  obtain ⟨l, vs, fs, rfl, hl, rs, rfl⟩ := rep_own rp
  refine ⟨.ref l, e1, .inl ⟨rfl, vs, .inl (.inl hl)⟩, H0, Z, fps, σl, ss.sr, (OutS.rS ss o).imp fun y o v1 H1 Z1 fy p1 => ?_⟩
  obtain ⟨hz, o⟩ := OutS.guard o
  have hl1 : H1 l = some (.lst vs) := p1.same _ _ hl
  have ss1 := ss.step p1.same p1.zx
  have own := fun a ha => ss1.sr.own a (mem_at e2 a ha)
  have nd := nd_at ss.sr.nd e2
  obtain ⟨ny, oy⟩ := p1.own rfl
  refine ⟨l, vs, v1, rfl, rfl, hl1, by rw [← rs.length]; exact hz, ?_⟩
  have lo := own l List.mem_cons_self
  have fy_old : ∀ a ∈ fy, a ∉ fps.flatten := fun a ha q => (ss.sr.own a q).2.2 (oy a ha).1
  have lfy : l ∉ fy := fun q => fy_old l q (mem_at e2 l List.mem_cons_self)
  have lfs : l ∉ fs := (List.nodup_cons.mp nd).1
  have ow : Owd g.P g.w l (H1 l) := .inl ⟨vs, hl1⟩
  have rep2 : Rep g Z1 (upd H1 l (.lst (vs ++ [v1]))) (.lst true (xs ++ [y])) (.ref l) (l :: (fs ++ (fy ++ []))) :=
    .lst upd_same (((rs.same p1.zx.le p1.same).keep (fun _ z => z) (kp_upd ow lo.1 lfs)).append (.cons (p1.rep.keep (fun _ z => z) (kp_upd ow lo.1 lfy)) .nil)) (.inl ⟨rfl, rfl⟩)
  have ap := mem_apart ss.sr.nd e2
  have r2 := ss1.sr.put (i := i) (same_updO ss1.sr.same lo.2.1) (fun _ z => z) (fun a z => upd_some (ss1.sr.z a z)) (kp_upd ow lo.1 (ap l List.mem_cons_self)) (fun a ha => (ss1.sr.own a (mem_set0 ha)).1) rep2
    (by
      rw [List.append_nil]
      refine List.nodup_cons.mpr ⟨fun q => ?_, List.nodup_append.mpr ⟨(List.nodup_cons.mp nd).2, ny, fun a ha b hb e => ?_⟩⟩
      · rcases List.mem_append.mp q with q | q
        · exact lfs q
        · exact lfy q
      · exact fy_old b hb (mem_at e2 b (List.mem_cons_of_mem _ (by rw [← e]; exact ha))))
    (fun a ha => by
      rw [List.append_nil] at ha
      rcases List.mem_cons.mp ha with rfl | ha
      · exact ⟨ap a List.mem_cons_self, lo.1, lo.2.1⟩
      · rcases List.mem_append.mp ha with ha | ha
        · have q := List.mem_cons_of_mem l ha
          exact ⟨ap a q, (own a q).1, (own a q).2.1⟩
        · exact ⟨fun q => fy_old a ha (mem_set0 q), (oy a ha).2, same_none ss.sr.same (oy a ha).1⟩)
  rw [set_self e1] at r2
  exact o σ _ Z1 _ ⟨r2, ss1.z0, ss1.zn⟩ (.trans (.of_zx p1.same p1.zx) ⟨fun _ z => z, kp_upd ow lo.1 (fun h => nomatch h)⟩)
end
end DI
/-! DI, comprehensions -/
namespace DI
open PySem PySem.Spec PyProof.Rows L2
abbrev WF : L2.WX := fun _ _ _ _ => False
def noErr {α : Type} : R α → R α
  | .ok a => .ok a
  | _ => .bad
def cBody (vs : List Nat) (p : Pat) (fc fe : Sl → R D) (σ : Sl) (x : D) : R (Option D) :=
  noErr ((bindP (wipeL σ vs) p x).bind fun σ1 => (fc σ1).bind fun c => (boolOf c).bind fun b => if b = true then (fe σ1).bind fun y => .ok (some y) else .ok none)
def eComp (vs : List Nat) (p : Pat) (fi : Sl → R (List D)) (fc fe : Sl → R D) : Sl → R D := fun σ =>
  (fi σ).bind fun xs => (compR (cBody vs p fc fe σ) xs).bind fun ys => if ys.length ≤ sizeLine then .ok (.lst true ys) else .bad
theorem compR_noerr {f : D → R (Option D)} (hf : ∀ x c fs, f x ≠ .err c fs) : ∀ (xs : List D) c fs, compR f xs ≠ .err c fs
  | [], _, _, h => by cases h
  | x :: xs, c, fs, h => by
    rw [compR] at h
    cases hx : f x with
    | ok o =>
      rw [hx] at h
      cases hr : compR f xs with
      | ok ys => rw [hr] at h; cases h
      | err c' fs' => exact compR_noerr hf xs c' fs' hr
      | bad => rw [hr] at h; cases h
    | err c' fs' => exact hf x c' fs' hx
    | bad => rw [hx] at h; cases h
theorem noErr_noerr {α : Type} {r : R α} {c : Nat} {fs : List D} : noErr r ≠ .err c fs := fun h => by cases r <;> cases h
theorem noErr_ok {α : Type} {r : R α} {a : α} (h : noErr r = .ok a) : r = .ok a := by cases r <;> cases h; rfl
theorem R.bind_ok_inv {α β : Type} {r : R α} {k : α → R β} {b : β} (h : r.bind k = .ok b) : ∃ a, r = .ok a ∧ k a = .ok b := by
  cases r with
  | ok a => exact ⟨a, rfl, h⟩
  | err c fs => cases h
  | bad => cases h
section
variable {g : Gv} {Z Z' : Addr → Prop} {H0 H H' : Hp} {fps : List (List Addr)} {σl : Sl} {σ : L2.St}
theorem SR.drop2 (r : SR g H0 Z fps σl σ H) (i : Nat) : SR g H0 Z (fps.set i []) (σl.set i none) (σ.set i none) H := by
  have r1 := r.drop i r.same (fun _ z => z) r.z (.of_same (same_refl H)) fun a ha => (r.own a (mem_set0 ha)).1
  refine { r1 with len := by rw [r1.len, List.length_set], lenf := by rw [r1.lenf, List.length_set], slot := fun j d e => ?_ }
  obtain ⟨v, fp, e1, e2, rp⟩ := r1.slot j d e
  refine ⟨v, fp, ?_, e2, rp⟩
  by_cases h : i = j
  · subst h
    have hl : i < σl.length := by have := lt_of_get e; rwa [List.length_set] at this
    rw [List.getElem?_set_self hl] at e; cases e
  · rw [List.getElem?_set_ne h]; exact e1
theorem SR.wiped (r : SR g H0 Z fps σl σ H) : ∀ vs : List Nat, ∃ fps', SR g H0 Z fps' (wipeL σl vs) (wipe σ vs) H ∧ ∀ a ∈ fps'.flatten, a ∈ fps.flatten
  | [] => ⟨fps, r, fun _ h => h⟩
  | v :: vs => by
    obtain ⟨f1, r1, h1⟩ := r.wiped vs
    exact ⟨f1.set v [], r1.drop2 v, fun a ha => h1 a (mem_set0 ha)⟩
theorem SR.frame (r : SR g H0 Z fps σl σ H) (sm : Same H0 H') (inn : ∀ a, Z a → H' a ≠ none) (kp : Kp Z fps.flatten H H') : SR g H0 Z fps σl σ H' where
  len := r.len
  lenf := r.lenf
  slot i d e := by
    obtain ⟨v, fp, e1, e2, rp⟩ := r.slot i d e
    exact ⟨v, fp, e1, e2, rp.keep (fun _ z => z) (kp.sub fun a ha => mem_at e2 a ha)⟩
  gone := r.gone
  nd := r.nd
  own a ha := ⟨(r.own a ha).1, (r.own a ha).2.1, by
    cases e : H a with
    | none => exact absurd e (r.own a ha).2.2
    | some o => rw [kp.own a o ha e]; exact Option.some_ne_none _⟩
  z := inn
  same := sm
end
section
variable {X : Cx} {g : Gv} {W : L2.WX}
theorem sts_nil : PTs X [] (tIT g W fun _ => .ok (.bl true)) := ⟨fun pins s σ H Q I q => pts_nil.run pins s σ H Q I (by
  obtain ⟨H0, Z, fps, σl, sr, o⟩ := q
  obtain ⟨b, e, q⟩ := o
  cases e
  exact q H Z (same_refl H) (.refl sr.z))⟩
theorem sts_one {c : Expr} {f : Sl → R D} (h : PT X c (tIT g W f)) : PTs X [c] (tIT g W f) := pts_one h
theorem comp_of {wi : Sl → R (List D)} {p : Pat} {fc fe : Sl → R D} {vs : List Nat} {b : Bool} {σ : L2.St} {H : Hp} {Q : VK} (hp : ∀ j ∈ psl p, j ∈ vs) (q : tI g W true (eComp vs p wi fc fe) σ H Q) :
    tLc (tIW g W b wi) (tG g p) (tIT g WF fc) (tI g WF true fe) vs σ H Q := by
  obtain ⟨H0, Z, fps, σl, sr, o⟩ := q
  refine ⟨H0, Z, fps, σl, sr, o.bind.imp fun xs o J H1 Z1 fp s1 z1 wk hin hfp Dd nD => ?_⟩
  obtain ⟨ys, ey, o⟩ := o.bind.okOf fun c fs => compR_noerr (fun x c fs => noErr_noerr) xs c fs
  obtain ⟨hz, o⟩ := Out.guard o
  have sr1 := sr.step s1 z1
  obtain ⟨fw, srw, hfw⟩ := sr1.wiped vs
  have sD := same_upd (o := .lst []) nD
  have hDfw : Dd ∉ fw.flatten := fun h => (sr1.own Dd (hfw Dd h)).2.2 nD
  have hDz : ¬ Z1 Dd := fun z => sr1.z Dd z nD
  have zD : Zx Z1 Z1 H1 (upd H1 Dd (.lst [])) := .stay sr1.z sD
  refine ⟨fun i m H' => i + m = xs.length ∧ ∃ Zi acc avs af zs, SR g H0 Zi fw (wipeL σl vs) (wipe σ vs) H' ∧ Same H1 H' ∧ Zx Z1 Zi H1 H' ∧ H' Dd = some (.lst avs) ∧ ¬ Zi Dd ∧ Reps g Zi H' acc avs af ∧ af.Nodup ∧ (∀ a ∈ af, H1 a = none ∧ ¬ Zi a ∧ a ≠ Dd) ∧
      compR (cBody vs p fc fe σl) (xs.drop i) = .ok zs ∧ acc ++ zs = ys, ⟨xs.length, by omega, Z1, [], [], [], ys, srw.step sD zD, sD, zD, upd_same, hDz, .nil, List.nodup_nil, (fun a h => nomatch h), ey, rfl⟩, ?_⟩
  rintro i m H2 ⟨em, Zi, acc, avs, af, zs, sri, s2, z2, hD2, hDi, ra, na, oa, ez, eys⟩
  have kp2 : Kp Z1 fp H1 H2 := .of_same s2
  by_cases hi : i < xs.length
  · refine .inr ⟨wk.go H2 i kp2 hi, fun H' => ∃ Zi acc avs af zs, SR g H0 Zi fw (wipeL σl vs) (wipe σ vs) H' ∧ Same H1 H' ∧ Zx Z1 Zi H1 H' ∧ H' Dd = some (.lst avs) ∧ ¬ Zi Dd ∧ Reps g Zi H' acc avs af ∧ af.Nodup ∧ (∀ a ∈ af, H1 a = none ∧ ¬ Zi a ∧ a ≠ Dd) ∧
      compR (cBody vs p fc fe σl) (xs.drop (i + 1)) = .ok zs ∧ acc ++ zs = ys, fun H' h => ⟨m - 1, by omega, by omega, h⟩, fun x' H3 y => ?_⟩
    obtain ⟨s3, rp⟩ := wk.yld H2 H3 i x' xs[i] kp2 (List.getElem?_eq_getElem hi) y
    have z3 : Zx Zi Zi H2 H3 := .stay sri.z s3
    rw [List.drop_eq_getElem_cons hi, compR] at ez
    obtain ⟨ob, eb, ez⟩ := R.bind_ok_inv ez
    obtain ⟨zs', er, ez⟩ := R.bind_ok_inv ez
    obtain ⟨σ1, e1, eb⟩ := R.bind_ok_inv (noErr_ok eb)
    obtain ⟨cd, e2, eb⟩ := R.bind_ok_inv eb
    obtain ⟨cb, e3, eb⟩ := R.bind_ok_inv eb
    refine ⟨H0, Zi, fw, _, xs[i], σ1, sri.step s3 z3, rp.keep (fun a z => z2.le a z) (.of_same (same_refl _)), e1, fun σ2 fps2 sr2 wa => ⟨?_, ?_⟩⟩
    · exact (wa vs hp).trans wipe_wipe
    · refine ⟨H0, Zi, fps2, σ1, sr2, ?_⟩
      rw [e2]
      have ecd : cd = .bl cb := by
        cases cd with
        | bl b => cases e3; rfl
        | _ => cases e3
      subst ecd
      refine ⟨cb, rfl, fun H4 Z4 s4 z4 => ?_⟩
      have s24 := same_trans s3 s4
      have z24 : Zx Zi Z4 H2 H4 := z3.trans s3 z4
      cases cb with
      | false =>
        have eb : R.ok none = R.ok ob := eb
        cases eb
        have ez : R.ok zs' = R.ok zs := ez
        cases ez
        have nz : ∀ a, H2 a ≠ none → ¬ Zi a → ¬ Z4 a := fun a h1 h2 h3 => by
          rcases z24.new a h3 with q | q
          · exact h2 q
          · exact h1 q
        exact ⟨Z4, acc, avs, af, _, sri.step s24 z24, same_trans s2 s24, z2.trans s2 z24, s24 _ _ hD2, nz Dd (by rw [hD2]; exact Option.some_ne_none _) hDi, ra.same z24.le s24, na, fun a ha => ⟨(oa a ha).1, nz a (Reps.there ra a ha) (oa a ha).2.1, (oa a ha).2.2⟩, er, eys⟩
      | true =>
        obtain ⟨yd, e4, eb⟩ := R.bind_ok_inv (show ((fe σ1).bind fun y => R.ok (some y)) = R.ok ob from eb)
        cases eb
        have ez : R.ok (yd :: zs') = R.ok zs := ez
        cases ez
        refine ⟨H0, Z4, fps2, σ1, sr2.step s4 z4, ?_⟩
        rw [e4]
        intro yv H5 Z5 fy p5
        have s25 := same_trans s24 p5.same
        have z25 : Zx Zi Z5 H2 H5 := z24.trans s24 p5.zx
        have hD5 := s25 _ _ hD2
        have nz : ∀ a, H2 a ≠ none → ¬ Zi a → ¬ Z5 a := fun a h1 h2 h3 => by
          rcases z25.new a h3 with q | q
          · exact h2 q
          · exact h1 q
        have hDz5 := nz Dd (by rw [hD2]; exact Option.some_ne_none _) hDi
        obtain ⟨ny, oy⟩ := p5.own rfl
        have hl := ra.length
        have hly : acc.length < ys.length := by rw [← eys, List.length_append, List.length_cons]; omega
        have ow : Owd g.P g.w Dd (H5 Dd) := .inl ⟨avs, hD5⟩
        have Dfy : Dd ∉ fy := fun q => by
          have := (oy Dd q).1
          rw [s24 _ _ hD2] at this; cases this
        have Daf : Dd ∉ af := fun q => (oa Dd q).2.2 rfl
        have k5 : ∀ fp, Dd ∉ fp → Kp Z5 fp H5 (upd H5 Dd (.lst (avs ++ [yv]))) := fun fp h => kp_upd ow hDz5 h
        have sri5 := sri.step s25 z25
        have s15 := same_trans s2 s25
        have z15 := z2.trans s2 z25
        refine ⟨avs, hD5, by rw [← hl]; omega, Z5, acc ++ [yd], avs ++ [yv], af ++ (fy ++ []), zs', sri5.frame (same_updO sri5.same (same_none sr1.same nD)) (fun a z => upd_some (sri5.z a z)) (k5 _ hDfw), same_updO s15 nD, ⟨z15.le, z15.new, fun a z => upd_some (z15.inn a z)⟩, upd_same, hDz5,
          ((ra.same z25.le s25).keep (fun _ z => z) (k5 _ Daf)).append (.cons (p5.rep.keep (fun _ z => z) (k5 _ Dfy)) .nil), ?_, ?_, er, ?_⟩
        · rw [List.append_nil]
          refine List.nodup_append.mpr ⟨na, ny, fun a ha b hb e => ?_⟩
          subst e
          exact Reps.there ra a ha (same_none s24 (oy a hb).1)
        · intro a ha
          rw [List.append_nil] at ha
          rcases List.mem_append.mp ha with ha | ha
          · exact ⟨(oa a ha).1, nz a (Reps.there ra a ha) (oa a ha).2.1, (oa a ha).2.2⟩
          · exact ⟨same_none (same_trans s2 s24) (oy a ha).1, (oy a ha).2, fun e => Dfy (by rw [← e]; exact ha)⟩
        · rw [List.append_assoc]; exact eys
  · have ei : i = xs.length := by omega
    subst ei
    rw [List.drop_length] at ez
    cases ez
    rw [List.append_nil] at eys
    subst eys
    refine .inl ⟨wk.stop H2 kp2, ?_⟩
    refine o (.ref Dd) H2 Zi (Dd :: af) ⟨same_trans s1 s2, z1.trans s1 z2, .lst hD2 ra (.inl ⟨rfl, rfl⟩), fun _ => ⟨List.nodup_cons.mpr ⟨fun q => (oa Dd q).2.2 rfl, na⟩, fun a ha => ?_⟩⟩
    rcases List.mem_cons.mp ha with rfl | ha
    · exact ⟨same_none s1 nD, hDi⟩
    · exact ⟨same_none s1 (oa a ha).1, (oa a ha).2.1⟩
/-- [elt for target in iter if ..] -/
theorem se_comp {elt tg iter : Expr} {ifs : List Expr} {scope : Scope} {own : List (Str × Nat)} {pos : Pos} {wi : Sl → R (List D)} {p : Pat} {fc fe : Sl → R D} {b : Bool} (hc : X.calm = true) (hN : X.N.Nodup) (ok : blkC X.N X.env.scope scope own = true) (hp : ∀ j ∈ psl p, j ∈ own.map (·.2)) (hi : PI X tg iter (tIW g W b wi))
    (hg : ∀ (s : Shared) (H : Hp) (C : Addr) (cl : List (Str × Addr)) (fp : List Addr), PG (X.blk s H scope (compEnvC scope cl C X.env) fp) tg (tG g p)) (ht : ∀ (s : Shared) (H : Hp) (C : Addr) (cl : List (Str × Addr)) (fp : List Addr), PTs (X.blk s H scope (compEnvC scope cl C X.env) fp) ifs (tIT g WF fc))
    (he : ∀ (s : Shared) (H : Hp) (C : Addr) (cl : List (Str × Addr)) (fp : List Addr), PE (X.blk s H scope (compEnvC scope cl C X.env) fp) elt (tI g WF true fe)) (hs : ∀ x, foldedSetIterable iter X.env x = pure x) :
    PE X (.ListComp elt [⟨tg, iter, ifs, 0⟩] scope pos) (tI g W true (eComp (own.map (·.2)) p wi fc fe)) := (pe_lc hc hN hi (blkOk_by ok) hg ht he hs).imp fun _ _ _ q => comp_of hp q
/-- name = [..] on one line -/
theorem ss_setLc {i : Nat} {y : Str} {py : Pos} {elt tg iter : Expr} {ifs : List Expr} {scope : Scope} {own : List (Str × Nat)} {pos spos : Pos} {wi : Sl → R (List D)} {p : Pat} {fc fe : Sl → R D} {b : Bool} (hc : X.calm = true) (hN : X.N.Nodup) (hy : X.N[i]? = some y) (hyl : X.env.scope.names.lookup y = some .local)
    (hsw : swapsWith (.ListComp elt [⟨tg, iter, ifs, 0⟩] scope pos) (some (.Name y py)) spos.line X.env = pure true) (ok : blkC X.N X.env.scope scope own = true) (hp : ∀ j ∈ psl p, j ∈ own.map (·.2)) (hi : PI X tg iter (tIW g W b wi))
    (hg : ∀ (s : Shared) (H : Hp) (C : Addr) (cl : List (Str × Addr)) (fp : List Addr), PG (X.blk s H scope (compEnvC scope cl C X.env) fp) tg (tG g p)) (ht : ∀ (s : Shared) (H : Hp) (C : Addr) (cl : List (Str × Addr)) (fp : List Addr), PTs (X.blk s H scope (compEnvC scope cl C X.env) fp) ifs (tIT g WF fc))
    (he : ∀ (s : Shared) (H : Hp) (C : Addr) (cl : List (Str × Addr)) (fp : List Addr), PE (X.blk s H scope (compEnvC scope cl C X.env) fp) elt (tI g WF true fe)) (hs : ∀ x, foldedSetIterable iter X.env x = pure x) :
    PS X (.Assign [.Name y py] (.ListComp elt [⟨tg, iter, ifs, 0⟩] scope pos) spos) (tS g W (sSet i (eComp (own.map (·.2)) p wi fc fe))) := (ps_setLc hc hN hy hyl hsw hi (blkOk_by ok) hg ht he hs).imp fun E σ H q => by
  obtain ⟨H0, Z0, Z, fps, σl, ss, o⟩ := q
  exact comp_of hp ⟨H0, Z, fps, σl, ss.sr, (OutS.rS ss o).imp fun d o v H' Z' fp p => o _ H' Z' _ (ss.bind i p) (.of_zx p.same p.zx)⟩
end
end DI
/-! DI, dicts written, defs -/
namespace DI
open PySem PySem.Spec PyProof.Rows L2
section
variable {g : Gv} {Z Z' : Addr → Prop} {H H' : Hp}
theorem nk_inj {a b : Key} (h : nk a = nk b) : a = b := by
  cases a <;> cases b <;> simp [nk] at h <;> rw [h]
theorem reps_mapv {α : Type} {ks : List (NestedKey × D)} {k : NestedKey} {d : D} {v : V} (rd : Rep g Z H d v []) : ∀ {xs : List α} {kx : α → NestedKey} {vx : α → V} {up : α → α}, (∀ a, kx (up a) = kx a) → (∀ a, vx (up a) = if kx a = k then v else vx a) → xs.map kx = ks.map (·.1) → Reps g Z H (ks.map (·.2)) (xs.map vx) [] →
    Reps g Z H ((ks.map fun p => if p.1 = k then (p.1, d) else p).map (·.2)) ((xs.map up).map vx) [] := by
  induction ks with
  | nil => intro xs kx vx up _ _ e _; cases xs with
    | nil => exact .nil
    | cons x xs => cases e
  | cons p r ih => intro xs kx vx up h1 h2 e rs; cases xs with
    | nil => cases e
    | cons x xs =>
      rw [List.map_cons, List.map_cons] at e rs
      have e1 : kx x = p.1 := (List.cons.inj e).1
      have e2 := (List.cons.inj e).2
      generalize hf : ([] : List Addr) = f at rs
      cases rs with
      | cons h hs =>
        obtain ⟨ea, eb⟩ := List.append_eq_nil_iff.mp hf.symm
        subst ea eb
        rw [List.map_cons, List.map_cons, List.map_cons, List.map_cons]
        refine .cons (f := []) (fs := []) ?_ (ih h1 h2 e2 hs)
        rw [h2, e1]
        by_cases hk : p.1 = k
        · rw [if_pos hk, if_pos hk]; exact rd
        · rw [if_neg hk, if_neg hk]; exact h
theorem keys_mapv {ks : List (NestedKey × D)} {k : NestedKey} {d : D} : (ks.map fun p => if p.1 = k then (p.1, d) else p).map (·.1) = ks.map (·.1) := by
  rw [List.map_map]
  congr 1
  funext p
  show (if p.1 = k then (p.1, d) else p).1 = p.1
  by_cases h : p.1 = k
  · rw [if_pos h]
  · rw [if_neg h]
theorem any_keys {α : Type} {ks : List (NestedKey × D)} {k : NestedKey} {xs : List α} {kx : α → NestedKey} (e : xs.map kx = ks.map (·.1)) : (ks.any fun p => decide (p.1 = k)) = xs.any fun a => decide (kx a = k) := by
  have h1 : (ks.any fun p => decide (p.1 = k)) = (ks.map (·.1)).any fun q => decide (q = k) := by rw [List.any_map]; rfl
  have h2 : (xs.any fun a => decide (kx a = k)) = (xs.map kx).any fun q => decide (q = k) := by rw [List.any_map]; rfl
  rw [h1, h2, e]
/-- a table with a value put, beside its data -/
theorem dput_K {kv : List (Key × V)} {kvs : List (NestedKey × D)} {q : Key} {d : D} {v : V} (e : (kv.map fun p => nk p.1) = kvs.map (·.1)) (rs : Reps g Z H (kvs.map (·.2)) (kv.map (·.2)) []) (rd : Rep g Z H d v []) :
    ((putK kv q v).map fun p => nk p.1) = (dput kvs (nk q) d).map (·.1) ∧ Reps g Z H ((dput kvs (nk q) d).map (·.2)) ((putK kv q v).map (·.2)) [] := by
  have ea : (kvs.any fun p => decide (p.1 = nk q)) = kv.any fun p => decide (p.1 = q) := by
    rw [any_keys e]
    congr 1
    funext p
    by_cases h : p.1 = q
    · rw [h]; simp
    · have h' : ¬ nk p.1 = nk q := fun z => h (nk_inj z)
      simp [h, h']
  unfold dput putK
  rw [ea]
  by_cases ha : (kv.any fun p => decide (p.1 = q)) = true
  · rw [if_pos ha, if_pos ha]
    refine ⟨?_, ?_⟩
    · rw [keys_mapv, ← e, List.map_map]
      congr 1
      funext p
      show nk (if p.1 = q then (p.1, v) else p).1 = nk p.1
      by_cases h : p.1 = q
      · rw [if_pos h]
      · rw [if_neg h]
    · refine reps_mapv rd (kx := fun (p : Key × V) => nk p.1) (vx := fun (p : Key × V) => p.2) (fun p => ?_) (fun p => ?_) e rs
      · by_cases h : p.1 = q
        · rw [if_pos h]
        · rw [if_neg h]
      · by_cases h : p.1 = q
        · rw [if_pos h, if_pos (by rw [h])]
        · rw [if_neg h, if_neg (fun z => h (nk_inj z))]
  · rw [if_neg ha, if_neg ha]
    refine ⟨?_, ?_⟩
    · rw [List.map_append, List.map_append, e]; rfl
    · rw [List.map_append, List.map_append]
      exact rs.append (f1 := []) (f2 := []) (.cons (f := []) (fs := []) rd .nil)
theorem dput_N {xs : List (NestedKey × Addr × V)} {kvs : List (NestedKey × D)} {k : NestedKey} {b : Addr} {d : D} {v : V} (e : xs.map (·.1) = kvs.map (·.1)) (rs : Reps g Z H (kvs.map (·.2)) (xs.map (·.2.2)) []) (rd : Rep g Z H d v []) :
    (putN xs k b v).map (·.1) = (dput kvs k d).map (·.1) ∧ Reps g Z H ((dput kvs k d).map (·.2)) ((putN xs k b v).map (·.2.2)) [] := by
  have ea : (kvs.any fun p => decide (p.1 = k)) = xs.any fun p => decide (p.1 = k) := any_keys e
  unfold dput putN
  rw [ea]
  by_cases ha : (xs.any fun p => decide (p.1 = k)) = true
  · rw [if_pos ha, if_pos ha]
    refine ⟨?_, ?_⟩
    · rw [keys_mapv, ← e, List.map_map]
      congr 1
      funext p
      show (if p.1 = k then (p.1, p.2.1, v) else p).1 = p.1
      by_cases h : p.1 = k
      · rw [if_pos h]
      · rw [if_neg h]
    · refine reps_mapv rd (kx := fun (p : NestedKey × Addr × V) => p.1) (vx := fun (p : NestedKey × Addr × V) => p.2.2) (fun p => ?_) (fun p => ?_) e rs
      · by_cases h : p.1 = k
        · rw [if_pos h]
        · rw [if_neg h]
      · by_cases h : p.1 = k
        · rw [if_pos h, if_pos h]
        · rw [if_neg h, if_neg h]
  · rw [if_neg ha, if_neg ha]
    refine ⟨?_, ?_⟩
    · rw [List.map_append, List.map_append, e]; rfl
    · rw [List.map_append, List.map_append]
      exact rs.append (f1 := []) (f2 := []) (.cons (f := []) (fs := []) rd .nil)
theorem dput_len (kvs : List (NestedKey × D)) (k : NestedKey) (d : D) : (dput kvs k d).length ≤ kvs.length + 1 := by
  unfold dput
  by_cases h : (kvs.any fun p => decide (p.1 = k)) = true
  · rw [if_pos h, List.length_map]; omega
  · rw [if_neg h, List.length_append]; exact Nat.le_refl _
theorem putN_len (xs : List (NestedKey × Addr × V)) (k : NestedKey) (b : Addr) (v : V) : (putN xs k b v).length ≤ xs.length + 1 := by
  unfold putN
  by_cases h : (xs.any fun p => decide (p.1 = k)) = true
  · rw [if_pos h, List.length_map]; omega
  · rw [if_neg h, List.length_append]; exact Nat.le_refl _
theorem putN_ne (xs : List (NestedKey × Addr × V)) (k : NestedKey) (b : Addr) (v : V) : putN xs k b v ≠ [] := by
  unfold putN
  by_cases h : (xs.any fun p => decide (p.1 = k)) = true
  · rw [if_pos h]
    intro z
    cases xs with
    | nil => simp at h
    | cons => cases z
  · rw [if_neg h]; simp
theorem putN_mem {xs : List (NestedKey × Addr × V)} {k : NestedKey} {b : Addr} {v : V} {P : NestedKey × Addr → Prop} (h : ∀ p ∈ xs, P (p.1, p.2.1)) (hk : P (k, b)) : ∀ p ∈ putN xs k b v, P (p.1, p.2.1) := by
  intro p hp
  unfold putN at hp
  by_cases ha : (xs.any fun p => decide (p.1 = k)) = true
  · rw [if_pos ha] at hp
    obtain ⟨q, hq, rfl⟩ := List.mem_map.mp hp
    by_cases e : q.1 = k
    · rw [if_pos e]; exact h q hq
    · rw [if_neg e]; exact h q hq
  · rw [if_neg ha] at hp
    rcases List.mem_append.mp hp with hp | hp
    · exact h p hp
    · rw [List.mem_singleton.mp hp]; exact hk
theorem putN_nodup {xs : List (NestedKey × Addr × V)} {k : NestedKey} {b : Addr} {v : V} (h : (xs.map (·.1)).Nodup) : ((putN xs k b v).map (·.1)).Nodup := by
  unfold putN
  by_cases ha : (xs.any fun p => decide (p.1 = k)) = true
  · rw [if_pos ha, List.map_map]
    have : (xs.map ((fun p : NestedKey × Addr × V => p.1) ∘ fun p => if p.1 = k then (p.1, p.2.1, v) else p)) = xs.map (·.1) := by
      congr 1
      funext p
      show (if p.1 = k then (p.1, p.2.1, v) else p).1 = p.1
      by_cases h : p.1 = k
      · rw [if_pos h]
      · rw [if_neg h]
    rw [this]; exact h
  · rw [if_neg ha, List.map_append]
    refine List.nodup_append.mpr ⟨h, by simp, fun a hx c hc e => ?_⟩
    have hc : c = k := List.mem_singleton.mp hc
    subst e hc
    obtain ⟨p, hp, e⟩ := List.mem_map.mp hx
    exact ha (List.any_eq_true.mpr ⟨p, hp, decide_eq_true e⟩)
end

section
variable {X : Cx} {g : Gv} {W : L2.WX}
/-- d[k] = v upon data: d owned -/
def rPutD (g : Gv) : TSet := fun o i v H Q => ∃ Z x d kvs k fo fx a, o = .ref a ∧ (∀ a, Z a → H a ≠ none) ∧ ¬ Z a ∧ Rep g Z H (.dct true kvs) (.ref a) fo ∧ Rep g Z H x i fx ∧ Rep g Z H d v [] ∧ keyIn x kvs = .ok k ∧ kvs.length < sizeLine ∧
  ∀ u, Owd g.P g.w a (H a) → Rep g Z (upd H a u) (.dct true (dput kvs k d)) (.ref a) [a] → Q (upd H a u)
theorem set_D (G : Gof g X) (hu : X.A.units + 70 < cLine) : PSet X (rPutD g) := by
  intro pins s σ H o i v ov iv u Q I ro ri rv h
  obtain ⟨Z, x, d, kvs, k, fo, fx, a, rfl, hz, nz, rd, rx, rdv, hk, hlen, q⟩ := h
  cases ro
  rcases (keyIn_ok hk).2 with ⟨hl, hx, ha⟩ | ⟨ht, hd8, ha⟩
  · obtain ⟨a', kv, qq, o, fp, ea, hH, e1, rfl, ek, rvs, _⟩ := dv_leaf I (g := g) (Z := Z) (d := .ref a) ⟨⟨fx, rx⟩, ⟨true, fo, rd⟩, hk⟩ hl hx ha
    cases ea
    subst e1
    have hlk : kv.length < sizeLine := by
      have := congrArg List.length ek
      simp only [List.length_map] at this
      omega
    have ow : Owd g.P g.w a (H a) := .inr (.inl ⟨kv, hH⟩)
    refine d_setItem (y := kV qq) (v := v) (by omega) I (DPut.k (k := qq) hH hlk) ri rv fun s' I' => ⟨_, I', q _ ow ?_⟩
    have kp := kp_upd (Z := Z) (fp := []) (u := .dK (putK kv qq v)) ow nz (fun h => nomatch h)
    obtain ⟨p1, p2⟩ := dput_K (q := qq) ek (rvs.keep (fun _ z => z) kp) (rdv.keep (fun _ z => z) kp)
    exact .dK upd_same p1 p2 own_new
  · have hkk := (keyIn_ok hk).1
    obtain ⟨b, rfl⟩ := tup_rep rx hkk ht
    obtain ⟨a', xs, ys, ea, nv, mu⟩ := nv_of G I rd ha
    cases ea
    cases ri
    have ow : Owd g.P g.w a (H a) := by
      cases rd with
      | dK h e hs w => exact .inr (.inl ⟨_, h⟩)
      | dN h e ne hk hs w => exact .inr (.inr ⟨_, h⟩)
    have krx : KRep g.K H k (.ref b) := rx.krep hkk
    have hkey : (nestedKind X.prog X.w).is s.heap k b := ⟨KRep.is (v := .ref b) (u := .ref b) I (by rw [G.K]; exact krx) rfl, hd8⟩
    have hlx : xs.length < sizeLine := by
      have := congrArg List.length nv.keys
      simp only [List.length_map] at this
      omega
    refine wpAny_setItem_heap (knd := nestedKind X.prog X.w) (hsz := by rw [← nv.pair.length]; exact nv.len) (show X.A.units + 1 + 8 < cLine by omega) hkey (by rw [G.P, G.w]; exact nv.dict) fun h' dd' hs => ?_
    obtain ⟨ob, es, ep, h1, h2, h3, h4, h5, h6⟩ := dd'
    have kp := kp_upd (Z := Z) (fp := []) (u := rawN g.P g.w a (putN xs k b v)) ow nz (fun h => nomatch h)
    obtain ⟨p1, p2⟩ := dput_N (k := k) (b := b) nv.keys (nv.vals.keep (fun _ z => z) kp) (rdv.keep (fun _ z => z) kp)
    refine ⟨_, d_write (ob := rawN g.P g.w a (putN xs k b v)) I mu hs ⟨ob, h1⟩ ?_, q _ ow ?_⟩
    · have hn : ((putN xs k b v).map (·.1)).Nodup := by
        have := nv.pair.put k (b := b) rv
        rw [← PN.keys this]; exact h6
      refine ⟨⟨by have := putN_len xs k b v; omega, nv.nosys, hn, storedH ys k b u, nv.pair.put k rv, ob, es, ep, h1, h2, h3, by rw [← G.P, ← G.w]; exact h4⟩, ⟨ob, h1⟩, fun g1 g2 φ kk => ?_⟩
      obtain ⟨l1, l2, l3, y, l4, o1, es1, ep1, e1, e2, e3, e4⟩ := φ
      exact ⟨l1, l2, l3, y, l4, o1, es1, ep1, kk _ e1, e2, e3, e4⟩
    · refine .dN upd_same p1 (putN_ne _ _ _ _) (putN_mem (P := fun z => KRep g.K _ z.1 (.ref z.2) ∧ z.1.depth ≤ 8) (fun p hp => ⟨(nv.krep p hp).1.keep kp.tup, (nv.krep p hp).2⟩) ⟨krx.keep kp.tup, hd8⟩) p2 own_new
def dctOf : D → R (List (NestedKey × D))
  | .dct true xs => .ok xs
  | _ => .bad
def lstClean : D → R (List D)
  | .lst true xs => if cleanL xs = true then .ok xs else .bad
  | _ => .bad
/-- name[k] = e -/
def sPutK (i : Nat) (fk fe : Sl → R D) : SF := fun σ => rS (fe σ) σ fun y => rS ((getS σ i).bind dctOf) σ fun kvs => rS (fk σ) σ fun x => rS (keyIn x kvs) σ fun k =>
  if clean y = true ∧ kvs.length < sizeLine then .nx (σ.set i (some (.dct true (dput kvs k y)))) else .bad
theorem rep_ownD {Z : Addr → Prop} {H : Hp} {xs : List (NestedKey × D)} {v : V} {fp : List Addr} (r : Rep g Z H (.dct true xs) v fp) : ∃ l, v = .ref l ∧ fp = [l] := by
  cases r with
  | dK h e hs w =>
    rcases w with ⟨_, e⟩ | ⟨e, _⟩
    · exact ⟨_, rfl, e⟩
    · cases e
  | dN h e ne hk hs w =>
    rcases w with ⟨_, e⟩ | ⟨e, _⟩
    · exact ⟨_, rfl, e⟩
    · cases e
theorem dctOf_err {r : R D} {c : Nat} {fs : List D} (h : r ≠ .err c fs) : r.bind dctOf ≠ .err c fs := fun e => by
  cases r with
  | ok d =>
    cases d with
    | dct o xs => cases o <;> cases e
    | _ => cases e
  | err c' fs' => exact h (by cases e; rfl)
  | bad => cases e
theorem dctOf_ok {r : R D} {xs : List (NestedKey × D)} (h : r.bind dctOf = .ok xs) : r = .ok (.dct true xs) := by
  cases r with
  | ok d =>
    cases d with
    | dct o ys => cases o <;> cases h; rfl
    | _ => cases h
  | err c' fs' => cases h
  | bad => cases h
variable {e k : Expr} {fe fk : Sl → R D} {i : Nat} {x : Str} {p pos spos : Pos} {b b' : Bool}
theorem ss_putK (G : Gof g X) (hu : X.A.units + 70 < cLine) (hN : X.N[i]? = some x) (hv : Vis X.env.scope x) (hd : (x == ("__debug__" : Str)) = false) (hcd : (x == ("__classdict__" : Str)) = false) (he : PE X e (tI g W b fe)) (hk : PE X k (tI g W b' fk))
    (ha : ∀ v, assign (.Subscript (.Name x p) k pos) X.env v = (do
      let ov ← holding [v] (eval (.Name x p) X.env)
      let iv ← holding [v, ov] (eval k X.env)
      standAt pos
      holding [v, ov, iv] (setItem ov iv v)
      release [v, ov, iv] []))
    (hs : swapsWithSole [.Subscript (.Name x p) k pos] e spos.line X.env = pure false) (hw : swappedStores [.Subscript (.Name x p) k pos] e X.env = pure none) (h1 : (assignEach [.Subscript (.Name x p) k pos] X.env).map (·.2) = [assign (.Subscript (.Name x p) k pos) X.env]) :
    PS X (.Assign [.Subscript (.Name x p) k pos] e spos) (tS g W (sPutK i fk fe)) := (ps_asg he (pg_sub (pe_var hN hv hd hcd) hk (set_D G hu) ha) hs hw h1).imp fun E σ H q => by
  obtain ⟨H0, Z0, Z, fps, σl, ss, o⟩ := q
  refine ⟨H0, Z, fps, σl, ss.sr, (OutS.rS ss o).imp fun y o vy H1 Z1 fy p1 => ?_⟩
  have ss1 := ss.step p1.same p1.zx
  have o := o.pre (.of_zx p1.same p1.zx)
  obtain ⟨kvs, e0, o⟩ := (OutS.rS ss1 o).okOf fun c fs => dctOf_err getS_err
  obtain ⟨v, fp, e1, e2, rp⟩ := ss1.sr.slot i _ (getS_ok (dctOf_ok e0))
  obtain ⟨l, rfl, rfl⟩ := rep_ownD rp
  refine ⟨.ref l, e1, H0, Z1, fps, σl, ss1.sr, (OutS.rS ss1 o).imp fun kd o vk H2 Z2 fk' p2 => ?_⟩
  have ss2 := ss1.step p2.same p2.zx
  have o := o.pre (.of_zx p2.same p2.zx)
  obtain ⟨kk, ekk, o⟩ := (OutS.rS ss2 o).okOf keyIn_err
  obtain ⟨⟨hc, hl⟩, o⟩ := OutS.guard o
  have own := ss2.sr.own l (mem_at e2 l List.mem_cons_self)
  have ap := mem_apart ss.sr.nd e2 l List.mem_cons_self
  refine ⟨Z2, kd, y, kvs, kk, [l], fk', l, rfl, ss2.sr.z, own.1, rp.same p2.zx.le p2.same, p2.rep, (p1.rep.to0 hc).same p2.zx.le p2.same, ekk, hl, fun u ow rep2 => ?_⟩
  have r2 := ss2.sr.put (i := i) (same_updO ss2.sr.same own.2.1) (fun _ z => z) (fun a z => upd_some (ss2.sr.z a z)) (kp_upd ow own.1 ap) (fun a ha => (ss2.sr.own a (mem_set0 ha)).1) rep2 (by simp)
    (fun a ha => by rw [List.mem_singleton.mp ha]; exact ⟨ap, own.1, own.2.1⟩)
  rw [set_self e1] at r2
  exact o σ _ Z2 _ ⟨r2, ss2.z0, ss2.zn⟩ ⟨fun _ z => z, kp_upd ow own.1 (fun h => nomatch h)⟩
/-- {k: v}, k a whole number or a text -/
def dispD (k v : D) : R D :=
  match key k with
  | some q => if leafD k = true ∧ clean v = true then .ok (.dct true [(q, v)]) else .bad
  | none => .bad
theorem se_disp1 (hk : PE X k (tI g W b fk)) (he : PE X e (tI g W b' fe)) : PE X (.Dict [some k] [e] pos) (tI g W true fun σ => (fk σ).bind fun x => (fe σ).bind fun y => dispD x y) := (pe_disp (pps_cons hk he pps_nil) rfl rfl (by simp) (by simp)).imp fun σ H Q q => by
  obtain ⟨H0, Z, fps, σl, sr, o⟩ := q
  intro l nl
  have s0 := same_upd (o := .dK []) nl
  have z0 : Zx Z Z H (upd H l (.dK [])) := .stay sr.z s0
  refine ⟨H0, Z, fps, σl, sr.step s0 z0, o.bind.step s0 z0 fun x o vx H1 Z1 fx p1 => ?_⟩
  have sr1 := (sr.step s0 z0).step p1.same p1.zx
  refine ⟨H0, Z1, fps, σl, sr1, o.bind.step (same_trans s0 p1.same) (z0.trans s0 p1.zx) fun y o vy H2 Z2 fy p2 => ?_⟩
  have s2 := same_trans (same_trans s0 p1.same) p2.same
  have z2 := (z0.trans s0 p1.zx).trans (same_trans s0 p1.same) p2.zx
  have hl2 : H2 l = some (.dK []) := p2.same _ _ (p1.same _ _ upd_same)
  refine ⟨hl2, ?_⟩
  have o : Out g W Z σ H (dispD x y) _ := o
  unfold dispD at o
  cases hq : key x with
  | none => rw [hq] at o; exact o.elim
  | some q =>
    rw [hq] at o
    obtain ⟨⟨hlf, hc⟩, o⟩ := Out.guard o
    obtain ⟨qq, rfl, rfl⟩ := leaf_rep p1.rep hq hlf
    refine ⟨[(qq, vy)], rfl, by simp, ?_⟩
    have nz : ¬ Z2 l := fun z => by
      rcases z2.new l z with q | q
      · exact sr.z l q nl
      · exact p2.zx.inn l z (by
          rcases p2.zx.new l z with w | w
          · rcases p1.zx.new l w with w' | w'
            · exact absurd nl (sr.z l w')
            · rw [upd_same] at w'; cases w'
          · rw [p1.same _ _ upd_same] at w; cases w)
    have ow : Owd g.P g.w l (H2 l) := .inr (.inl ⟨[], hl2⟩)
    refine o _ _ Z2 [l] ⟨same_updO s2 nl, ⟨z2.le, z2.new, fun a z => upd_some (z2.inn a z)⟩, ?_, fun _ => ⟨by simp, fun a ha => by rw [List.mem_singleton.mp ha]; exact ⟨nl, nz⟩⟩⟩
    exact .dK (kv := [(qq, vy)]) upd_same rfl (.cons (f := []) (fs := []) ((p2.rep.to0 hc).keep (fun _ z => z) (kp_upd ow nz (fun h => nomatch h))) .nil) own_new
end

/-! ### defs -/
def startL (n : Nat) (ds : List D) : Sl := ds.map some ++ List.replicate (n - ds.length) none
def resR : RS → R D
  | .rt d => .ok d
  | .nx _ => .ok .non
  | .er c fs _ => .err c fs
  | _ => .bad
def runF (n : Nat) (f : SF) (ds : List D) : R D := resR (f (startL n ds))
theorem reps_nil_get {g : Gv} {Z : Addr → Prop} {H : Hp} {xs : List D} {vs : List V} (r : Reps g Z H xs vs []) {i : Nat} {d : D} (e : xs[i]? = some d) : ∃ v, vs[i]? = some v ∧ Rep g Z H d v [] := by
  obtain ⟨u, f, e1, rr, hf, _⟩ := r.get i d e
  have ef : f = [] := List.eq_nil_iff_forall_not_mem.mpr fun a ha => nomatch hf a ha
  subst ef
  exact ⟨u, e1, rr⟩
theorem start_sr {g : Gv} {Z : Addr → Prop} {H : Hp} {ds : List D} {vs : List V} (N : List Str) (hz : ∀ a, Z a → H a ≠ none) (rs : Reps g Z H ds vs []) : SR g H Z (List.replicate (L2.start N vs).length []) (startL N.length ds) (L2.start N vs) H where
  len := by unfold startL L2.start; rw [List.length_append, List.length_append, List.length_map, List.length_map, List.length_replicate, List.length_replicate, rs.length]
  lenf := List.length_replicate
  slot i d e := by
    unfold startL at e
    have hi : i < ds.length := by
      refine Nat.lt_of_not_le fun h => ?_
      rw [List.getElem?_append_right (by rw [List.length_map]; exact h), List.getElem?_replicate] at e
      split at e <;> cases e
    rw [List.getElem?_append_left (by rw [List.length_map]; exact hi), List.getElem?_map, List.getElem?_eq_getElem hi] at e
    cases e
    obtain ⟨v, e1, rv⟩ := reps_nil_get rs (List.getElem?_eq_getElem hi)
    have hi2 : i < vs.length := by rw [← rs.length]; exact hi
    have e2 : (L2.start N vs)[i]? = some (some v) := by
      unfold L2.start
      rw [List.getElem?_append_left (by rw [List.length_map]; exact hi2), List.getElem?_map, e1]; rfl
    exact ⟨v, [], e2, by rw [List.getElem?_replicate, if_pos (lt_of_get e2)], rv⟩
  gone i e := by
    have hi := lt_of_get e
    have hl : (startL N.length ds).length = (L2.start N vs).length := by unfold startL L2.start; rw [List.length_append, List.length_append, List.length_map, List.length_map, List.length_replicate, List.length_replicate, rs.length]
    rw [List.getElem?_replicate, if_pos (by rw [← hl]; exact hi)]
  nd := by rw [List.flatten_replicate_nil]; exact List.nodup_nil
  own a ha := by rw [List.flatten_replicate_nil] at ha; exact nomatch ha
  z := hz
  same := same_refl H
section
variable {P : Program} {w : World} {K : PySem.W.Frag} {mg : Str → Option Value} {base : Heap}
/-- a def keeps its promise -/
theorem di_fn {x qual : Str} {st : Stmt} {f : Addr} {fd : FuncData} {N ps : List Str} {k : Nat} (g : Gv) (F : Fun K x qual st f fd) (S : FnScope N ps (defScope st)) (n : Nat) (hn : n = ps.length) (m : Nat) (hm : m = N.length) (b : SF)
    (hb : ∀ (cdv : Value) (A : Around) (outer : List Env) (s : Shared) (H : Hp) (E : XK), Room k (A.deeper (envOfC qual (defScope st) s.heap.objs.size f cdv)) →
      Takes (cxOf (L2.CX P w) P w K mg base N qual (defScope st) f cdv A outer s H E) (fun cls d _ H => E cls d H) →
      PassesOwn (model P w) (cxOf (L2.CX P w) P w K mg base N qual (defScope st) f cdv A outer s H E).A (cxOf (L2.CX P w) P w K mg base N qual (defScope st) f cdv A outer s H E).env (cxOf (L2.CX P w) P w K mg base N qual (defScope st) f cdv A outer s H E).xe →
      PSs (cxOf (L2.CX P w) P w K mg base N qual (defScope st) f cdv A outer s H E) (defBody st) (tS g (fun cls d _ H => E cls d H) b)) : FnOk P w K mg base (L2.CX P w) (k + 1) f fd ps (spI g n (runF m b)) := by
  subst hn hm
  refine F.okX S (fun vs H Q E h => ?_) fun cdv A outer s H vs Q E hr h => ?_
  · obtain ⟨Z, ds, hz, rs, hl, _⟩ := h
    rw [← rs.length, hl]
  · obtain ⟨Z, ds, hz, rs, hl, o⟩ := h
    refine ⟨_, hb cdv A outer s H E hr (takes_of rfl rfl rfl rfl) (passes_of rfl), H, Z, Z, _, startL N.length ds, ⟨start_sr N hz rs, fun _ z => z, fun _ z => .inl z⟩, ?_⟩
    unfold runF at o
    cases hb : b (startL N.length ds) with
    | nx σl =>
      rw [hb] at o
      exact fun σ' H' Z' fps' ss e => o .non H' Z' [] ⟨ss.sr.same, ⟨ss.z0, ss.zn, ss.sr.z⟩, .non, fun _ => ⟨List.nodup_nil, fun _ h => nomatch h⟩⟩
    | rt d => rw [hb] at o; exact fun v H' Z' fp p => o v H' Z' fp p
    | er c fs σl =>
      rw [hb] at o
      exact fun σ' H' Z' fps' cls d ss e ex => o H' Z' cls d ss.sr.same ⟨ss.z0, ss.zn, ss.sr.z⟩ ex
    | bk σl => rw [hb] at o; exact o.elim
    | ct σl => rw [hb] at o; exact o.elim
    | bad => rw [hb] at o; exact o.elim
end
end DI
/-! DI, short forms -/
namespace DI
open PySem PySem.Spec PyProof.Rows L2
/-! ### the functions of expressions -/
def eV (i : Nat) : Sl → R D := fun σ => getS σ i
def eK (d : D) : Sl → R D := fun _ => .ok d
def eO (f : Sl → R D) : Sl → R D := fun σ => (f σ).bind fun d => if clean d = true then .ok d else .bad
def eNeg (f : Sl → R D) : Sl → R D := fun σ => (f σ).bind fun x => (intOf x).bind fun i => .ok (.int (-i))
def eNot (f : Sl → R D) : Sl → R D := fun σ => (f σ).bind fun x => (boolOf x).bind fun i => .ok (.bl (!i))
noncomputable def eB (o : Bop) (f k : Sl → R D) : Sl → R D := fun σ => (f σ).bind fun x => (k σ).bind fun y => binD o x y
def eC (o : Cop) (f k : Sl → R D) : Sl → R D := fun σ => (f σ).bind fun x => (k σ).bind fun y => blR (cmpD o x y)
def eCC (o o' : Cop) (f k l : Sl → R D) : Sl → R D := fun σ => (f σ).bind fun x => (k σ).bind fun y => (cmpD o x y).bind fun r => if r = true then (l σ).bind fun z => (cmpD o' y z).bind fun r => .ok (.bl r) else .ok (.bl false)
def eAnd (f k : Sl → R D) : Sl → R D := fun σ => (f σ).bind fun x => (boolOf x).bind fun r => if r = true then (k σ).bind fun y => (boolOf y).bind fun r => .ok (.bl r) else .ok (.bl false)
def eOr (f k : Sl → R D) : Sl → R D := fun σ => (f σ).bind fun x => (boolOf x).bind fun r => if r = true then .ok (.bl true) else (k σ).bind fun y => (boolOf y).bind fun r => .ok (.bl r)
def eIf (c f k : Sl → R D) : Sl → R D := fun σ => (c σ).bind fun x => (boolOf x).bind fun r => if r = true then f σ else k σ
def eIx (f k : Sl → R D) : Sl → R D := fun σ => (f σ).bind fun x => (k σ).bind fun y => idxD x y
def aN : Sl → R D := fun _ => .ok (.tup [])
def aC (f k : Sl → R D) : Sl → R D := fun σ => (f σ).bind fun x => (k σ).bind fun r => (tupOf r).bind fun xs => .ok (.tup (x :: xs))
def eTup (f : Sl → R D) : Sl → R D := fun σ => (f σ).bind fun r => (tupOf r).bind fun xs => if xs.length ≤ sizeLine then .ok (.tup xs) else .bad
def eLst (f : Sl → R D) : Sl → R D := fun σ => (f σ).bind fun r => (tupOf r).bind fun xs => if xs.length ≤ sizeLine then .ok (.lst true xs) else .bad
def eD0 : Sl → R D := fun _ => .ok (.dct true [])
def eD1 (f k : Sl → R D) : Sl → R D := fun σ => (f σ).bind fun x => (k σ).bind fun y => dispD x y
def eSl (f : Sl → R D) (nb : Bool) (k : Sl → R D) (nc : Bool) (l : Sl → R D) : Sl → R D := fun σ => (f σ).bind fun x => (k σ).bind fun l' => (partD (if nb = true then none else some l')).bind fun l' => (l σ).bind fun h => (partD (if nc = true then none else some h)).bind fun h => slD x l' h
def eBi (b : Bi) (f : Sl → R D) : Sl → R D := fun σ => (f σ).bind fun r => (tupOf r).bind fun ds => biD b ds
def eF (h : List D → R D) (f : Sl → R D) : Sl → R D := fun σ => (f σ).bind fun r => (tupOf r).bind fun ds => (h (frzL ds)).bind fun d => if (cleanL ds || noFrz d) = true then .ok d else .bad
def eMt (m : Mt) (f k : Sl → R D) : Sl → R D := fun σ => (f σ).bind fun x => if recvOk m x = true then (k σ).bind fun r => (tupOf r).bind fun ds => mtD m x ds else .bad
def iSeq' (f : Sl → R D) : Sl → R (List D) := fun σ => (f σ).bind itemsD
def iEn (f : Sl → R D) : Sl → R (List D) := fun σ => (f σ).bind fun r => (tupOf r).bind enumD
noncomputable def iR1 (f : Sl → R D) : Sl → R (List D) := fun σ => (f σ).bind fun r => (tupOf r).bind rng1D
noncomputable def iR2 (f : Sl → R D) : Sl → R (List D) := fun σ => (f σ).bind fun r => (tupOf r).bind rng2D
def iZ (f : Sl → R D) : Sl → R (List D) := fun σ => (f σ).bind fun r => (tupOf r).bind zipD
def eT : Sl → R D := fun _ => .ok (.bl true)

section
variable {X : Cx} {g : Gv} {W : L2.WX} {a b c e tg : Expr} {es : List Expr} {f k l fc fe : Sl → R D} {x y z : Bool} {pos p : Pos} {n : Str}
theorem z_v (i : Nat) (hN : X.N[i]? = some n := by rfl) (hv : Vis X.env.scope n := by first | exact Or.inl rfl | exact Or.inr (Or.inl rfl) | exact Or.inr (Or.inr rfl)) (hd : (n == ("__debug__" : Str)) = false := by decide) (hcd : (n == ("__classdict__" : Str)) = false := by decide) :
    PE X (.Name n pos) (tI g W false (eV i)) := se_var hN hv hd hcd
theorem z_o (h : PE X e (tI g W x f)) : PE X e (tI g W true (eO f)) := h.imp fun σ H Q q => by
  obtain ⟨H0, Z, fps, σl, sr, o⟩ := q
  refine ⟨H0, Z, fps, σl, sr, o.bind.imp fun d o v H' Z' fp p => ?_⟩
  obtain ⟨hc, o⟩ := Out.guard o
  exact o v H' Z' [] ⟨p.same, p.zx, p.rep.to0 hc, fun _ => ⟨List.nodup_nil, fun _ h => nomatch h⟩⟩
theorem z_i {i j} : PE X (.Constant (.int i) j pos) (tI g W true (eK (.int i))) := se_con pe_int fun _ _ => .int _
theorem z_s {i j} : PE X (.Constant (.str i) j pos) (tI g W true (eK (.str i))) := se_con pe_str fun _ _ => .str _
theorem z_b {i j} : PE X (.Constant (.bool i) j pos) (tI g W true (eK (.bl i))) := se_con pe_bl fun _ _ => .bl _
theorem z_non {j} : PE X (.Constant .none j pos) (tI g W true (eK .non)) := se_con pe_non fun _ _ => .non
/-- a global text, a whole number -/
theorem z_gs {s : Str} {t : Tok} (hm : X.mg n = some (.str s t)) (hg : Gl X n := by rfl) (hd : (n == ("__debug__" : Str)) = false := by decide) : PE X (.Name n pos) (tI g W true (eK (.str s))) := se_con (pe_glob (v := .str s) hg hm ⟨t, rfl⟩ hd) fun _ _ => .str _
theorem z_gi {s : Int} {t : Tok} (hm : X.mg n = some (.int s t)) (hg : Gl X n := by rfl) (hd : (n == ("__debug__" : Str)) = false := by decide) : PE X (.Name n pos) (tI g W true (eK (.int s))) := se_con (pe_glob (v := .int s) hg hm ⟨t, rfl⟩ hd) fun _ _ => .int _
theorem z_neg (h : PE X a (tI g W x f)) : PE X (.UnaryOp .USub a pos) (tI g W true (eNeg f)) := se_neg h
theorem z_not (h : PE X a (tI g W x f)) : PE X (.UnaryOp .Not a pos) (tI g W true (eNot f)) := se_not h
theorem z_add (G : Gof g X) (h : PE X a (tI g W x f)) (h' : PE X b (tI g W y k)) : PE X (.BinOp a .Add b pos) (tI g W true (eB .add f k)) := se_bin opr_add (by rw [G.K]; exact opd_add) h h'
theorem z_sub (h : PE X a (tI g W x f)) (h' : PE X b (tI g W y k)) : PE X (.BinOp a .Sub b pos) (tI g W true (eB .sub f k)) := se_bin op_sub opd_sub h h'
theorem z_mul (h : PE X a (tI g W x f)) (h' : PE X b (tI g W y k)) : PE X (.BinOp a .Mult b pos) (tI g W true (eB .mul f k)) := se_bin opr_mul opd_mul h h'
theorem z_fdiv (h : PE X a (tI g W x f)) (h' : PE X b (tI g W y k)) : PE X (.BinOp a .FloorDiv b pos) (tI g W true (eB .fdiv f k)) := se_bin op_fdivW opd_fdiv h h'
theorem z_mod (h : PE X a (tI g W x f)) (h' : PE X b (tI g W y k)) : PE X (.BinOp a .Mod b pos) (tI g W true (eB .mod f k)) := se_bin op_mod opd_mod h h'
theorem z_pow (h : PE X a (tI g W x f)) (h' : PE X b (tI g W y k)) : PE X (.BinOp a .Pow b pos) (tI g W true (eB .pow f k)) := se_bin op_pow opd_pow h h'
theorem z_lt (h : PE X a (tI g W x f)) (h' : PE X b (tI g W y k)) : PE X (.Compare a [.Lt] [b] pos) (tI g W true (eC .lt f k)) := se_cmp op_lt opd_lt h h' (nobehind b (by decide) (by decide))
theorem z_le (h : PE X a (tI g W x f)) (h' : PE X b (tI g W y k)) : PE X (.Compare a [.LtE] [b] pos) (tI g W true (eC .le f k)) := se_cmp op_le opd_le h h' (nobehind b (by decide) (by decide))
theorem z_gt (h : PE X a (tI g W x f)) (h' : PE X b (tI g W y k)) : PE X (.Compare a [.Gt] [b] pos) (tI g W true (eC .gt f k)) := se_cmp op_gt opd_gt h h' (nobehind b (by decide) (by decide))
theorem z_ge (h : PE X a (tI g W x f)) (h' : PE X b (tI g W y k)) : PE X (.Compare a [.GtE] [b] pos) (tI g W true (eC .ge f k)) := se_cmp op_ge opd_ge h h' (nobehind b (by decide) (by decide))
theorem z_eq (hu : X.A.units + 70 < cLine) (G : Gof g X) (h : PE X a (tI g W x f)) (h' : PE X b (tI g W y k)) : PE X (.Compare a [.Eq] [b] pos) (tI g W true (eC .eq f k)) := se_cmp (op_eqD (by omega)) (opd_eq G) h h' (nobehind b (by decide) (by decide))
theorem z_ne (hu : X.A.units + 70 < cLine) (G : Gof g X) (h : PE X a (tI g W x f)) (h' : PE X b (tI g W y k)) : PE X (.Compare a [.NotEq] [b] pos) (tI g W true (eC .ne f k)) := se_cmp (op_neD (by omega)) (opd_ne G) h h' (nobehind b (by decide) (by decide))
theorem z_isn (h : PE X a (tI g W x f)) (h' : PE X b (tI g W y k)) : PE X (.Compare a [.Is] [b] pos) (tI g W true (eC .isN f k)) := se_cmp op_isN opd_isN h h' (nobehind b (by decide) (by decide))
theorem z_ntn (h : PE X a (tI g W x f)) (h' : PE X b (tI g W y k)) : PE X (.Compare a [.IsNot] [b] pos) (tI g W true (eC .notN f k)) := se_cmp op_notN opd_notN h h' (nobehind b (by decide) (by decide))
theorem z_in (hu : X.A.units + 70 < cLine) (G : Gof g X) (h : PE X a (tI g W x f)) (h' : PE X b (tI g W y k)) (hm : behindInMarks .In b = false := by rfl) : PE X (.Compare a [.In] [b] pos) (tI g W true (eC .mem f k)) := se_cmp (opr_mem hu G) (opd_mem G) h h' hm
theorem z_nin (hu : X.A.units + 70 < cLine) (G : Gof g X) (h : PE X a (tI g W x f)) (h' : PE X b (tI g W y k)) (hm : behindInMarks .NotIn b = false := by rfl) : PE X (.Compare a [.NotIn] [b] pos) (tI g W true (eC .nmem f k)) := se_cmp (opr_nmem hu G) (opd_nmem G) h h' hm
theorem z_lele (h : PE X a (tI g W x f)) (h' : PE X b (tI g W y k)) (h3 : PE X c (tI g W z l)) (hm : lastMarks [.LtE, .LtE] [b, c] = false := by rfl) : PE X (.Compare a [.LtE, .LtE] [b, c] pos) (tI g W true (eCC .le .le f k l)) := se_chn op_le op_le opd_le opd_le h h' h3 hm
theorem z_lelt (h : PE X a (tI g W x f)) (h' : PE X b (tI g W y k)) (h3 : PE X c (tI g W z l)) (hm : lastMarks [.LtE, .Lt] [b, c] = false := by rfl) : PE X (.Compare a [.LtE, .Lt] [b, c] pos) (tI g W true (eCC .le .lt f k l)) := se_chn op_le op_lt opd_le opd_lt h h' h3 hm
theorem z_and {rest : List Expr} (h : PE X a (tI g W x f)) (h' : PE X (.BoolOp .And (b :: rest) pos) (tI g W y k)) : PE X (.BoolOp .And (a :: b :: rest) pos) (tI g W false (eAnd f k)) := se_and h h'
theorem z_or {rest : List Expr} (h : PE X a (tI g W x f)) (h' : PE X (.BoolOp .Or (b :: rest) pos) (tI g W y k)) : PE X (.BoolOp .Or (a :: b :: rest) pos) (tI g W false (eOr f k)) := se_or h h'
theorem z_one {op} (h : PE X a (tI g W x f)) : PE X (.BoolOp op [a] pos) (tI g W x f) := pe_one h
theorem z_if (hc : PT X c (tIT g W fc)) (h : PE X a (tI g W x f)) (h' : PE X b (tI g W y k)) : PE X (.IfExp c a b pos) (tI g W (x && y) (eIf fc f k)) := se_ite hc h h'
theorem z_ix (hu : X.A.units + 70 < cLine) (G : Gof g X) (h : PE X a (tI g W x f)) (h' : PE X b (tI g W y k)) (hs : PlainIx b := by intro _ _; rfl) : PE X (.Subscript a b pos) (tI g W false (eIx f k)) := se_ix (ixr_all hu G) (opd_idx G) h h' hs
theorem z_sl {lo hi : Option Expr} {p2 : Pos} {nb nc : Bool} (G : Gof g X) (h : PE X a (tI g W x f)) (h' : PO X lo (tPO g W k nb)) (h3 : PO X hi (tPO g W l nc)) : PE X (.Subscript a (.Slice lo hi none p2) pos) (tI g W true (eSl f nb k nc l)) := se_sl G h h' h3
theorem z_pe (h : PE X a (tI g W x f)) : PO X (some a) (tPO g W f false) := po_e h
theorem z_pn : PO X none (tPO g W (eK .non) true) := po_n
theorem z_aN : PA X [] (tIA g W true aN) := sa_nil
theorem z_aC (h : PE X a (tI g W x f)) (h' : PA X es (tIA g W y k)) (hs : starEach (a :: es) X.env = (false, eval a X.env) :: starEach es X.env := by exact starE (by rfl)) : PA X (a :: es) (tIA g W false (aC f k)) := sa_cons h h' hs
theorem z_aO (h : PE X a (tI g W true f)) (h' : PA X es (tIA g W true k)) (hs : starEach (a :: es) X.env = (false, eval a X.env) :: starEach es X.env := by exact starE (by rfl)) : PA X (a :: es) (tIA g W true (aC f k)) := sa_ocons (r := false) (fun _ => rfl) h h' hs
theorem z_tup {j : Nat} (h : PA X es (tIA g W true f)) : PE X (.Tuple es j pos) (tI g W true (eTup f)) := se_tup h
theorem z_lst (h : PA X es (tIA g W true f)) : PE X (.List es pos) (tI g W true (eLst f)) := se_lst h
theorem z_d0 : PE X (.Dict [] [] pos) (tI g W true eD0) := se_dict0
theorem z_d1 (h : PE X a (tI g W x f)) (h' : PE X b (tI g W y k)) : PE X (.Dict [some a] [b] pos) (tI g W true (eD1 f k)) := se_disp1 h h'
/-! ### calls of built-ins -/
theorem z_len (G : Gof g X) (ha : PA X (e :: es) (tIA g W x f)) (hm : X.mg "len" = none) (hg : Gl X "len" := by rfl) (he : starEach (e :: es) X.env = (false, eval e X.env) :: starEach es X.env := by exact starE (by rfl)) (hpl : (backTo pos (starEach es X.env)).any (·.1) = false := by rfl) :
    PE X (.Call (.Name "len" p) (e :: es) [] pos) (tI g W true (eBi .len f)) := se_callB cr_lenD (opc_len G) hg hm PySem.boot_len ha (by decide) (by decide) he hpl
theorem z_tuple (G : Gof g X) (ha : PA X (e :: es) (tIA g W x f)) (hm : X.mg "tuple" = none) (hg : Gl X "tuple" := by rfl) (he : starEach (e :: es) X.env = (false, eval e X.env) :: starEach es X.env := by exact starE (by rfl)) (hpl : (backTo pos (starEach es X.env)).any (·.1) = false := by rfl) :
    PE X (.Call (.Name "tuple" p) (e :: es) [] pos) (tI g W true (eBi .tuple f)) := se_callTy call_tuple_of (opc_tuple G) hg hm (by decide +kernel) ha (by decide) (by decide) he hpl
theorem z_list (G : Gof g X) (ha : PA X (e :: es) (tIA g W x f)) (hm : X.mg "list" = none) (hg : Gl X "list" := by rfl) (he : starEach (e :: es) X.env = (false, eval e X.env) :: starEach es X.env := by exact starE (by rfl)) (hpl : (backTo pos (starEach es X.env)).any (·.1) = false := by rfl) :
    PE X (.Call (.Name "list" p) (e :: es) [] pos) (tI g W true (eBi .list f)) := se_callTy call_list_of (opc_list G) hg hm (by decide +kernel) ha (by decide) (by decide) he hpl
theorem z_int (ha : PA X (e :: es) (tIA g W x f)) (hm : X.mg "int" = none) (hg : Gl X "int" := by rfl) (he : starEach (e :: es) X.env = (false, eval e X.env) :: starEach es X.env := by exact starE (by rfl)) (hpl : (backTo pos (starEach es X.env)).any (·.1) = false := by rfl) :
    PE X (.Call (.Name "int" p) (e :: es) [] pos) (tI g W true (eBi .int f)) := se_callTy cr_intD opc_int hg hm (by decide +kernel) ha (by decide) (by decide) he hpl
theorem z_str (ha : PA X (e :: es) (tIA g W x f)) (hm : X.mg "str" = none) (hg : Gl X "str" := by rfl) (he : starEach (e :: es) X.env = (false, eval e X.env) :: starEach es X.env := by exact starE (by rfl)) (hpl : (backTo pos (starEach es X.env)).any (·.1) = false := by rfl) :
    PE X (.Call (.Name "str" p) (e :: es) [] pos) (tI g W true (eBi .str f)) := se_callTy call_str_int opc_str hg hm (by decide +kernel) ha (by decide) (by decide) he hpl
theorem z_abs (ha : PA X (e :: es) (tIA g W x f)) (hm : X.mg "abs" = none) (hg : Gl X "abs" := by rfl) (he : starEach (e :: es) X.env = (false, eval e X.env) :: starEach es X.env := by exact starE (by rfl)) (hpl : (backTo pos (starEach es X.env)).any (·.1) = false := by rfl) :
    PE X (.Call (.Name "abs" p) (e :: es) [] pos) (tI g W true (eBi .abs f)) := se_callB call_abs opc_abs hg hm (by decide +kernel) ha (by decide) (by decide) he hpl
theorem z_min (hc : X.calm = true) (ha : PA X (e :: es) (tIA g W x f)) (hm : X.mg "min" = none) (hg : Gl X "min" := by rfl) (he : starEach (e :: es) X.env = (false, eval e X.env) :: starEach es X.env := by exact starE (by rfl)) (hpl : (backTo pos (starEach es X.env)).any (·.1) = false := by rfl) :
    PE X (.Call (.Name "min" p) (e :: es) [] pos) (tI g W true (eBi .min f)) := se_callB (call_min2 hc) opc_min hg hm (by decide +kernel) ha (by decide) (by decide) he hpl
theorem z_max (hc : X.calm = true) (ha : PA X (e :: es) (tIA g W x f)) (hm : X.mg "max" = none) (hg : Gl X "max" := by rfl) (he : starEach (e :: es) X.env = (false, eval e X.env) :: starEach es X.env := by exact starE (by rfl)) (hpl : (backTo pos (starEach es X.env)).any (·.1) = false := by rfl) :
    PE X (.Call (.Name "max" p) (e :: es) [] pos) (tI g W true (eBi .max f)) := se_callB (call_max2 hc) opc_max hg hm (by decide +kernel) ha (by decide) (by decide) he hpl
theorem z_sum (hc : X.calm = true) (G : Gof g X) (ha : PA X (e :: es) (tIA g W x f)) (hm : X.mg "sum" = none) (hg : Gl X "sum" := by rfl) (he : starEach (e :: es) X.env = (false, eval e X.env) :: starEach es X.env := by exact starE (by rfl)) (hpl : (backTo pos (starEach es X.env)).any (·.1) = false := by rfl) :
    PE X (.Call (.Name "sum" p) (e :: es) [] pos) (tI g W true (eBi .sum f)) := se_callB (cr_sum hc) (opc_sum G) hg hm (by decide +kernel) ha (by decide) (by decide) he hpl
theorem z_all (hc : X.calm = true) (G : Gof g X) (ha : PA X (e :: es) (tIA g W x f)) (hm : X.mg "all" = none) (hg : Gl X "all" := by rfl) (he : starEach (e :: es) X.env = (false, eval e X.env) :: starEach es X.env := by exact starE (by rfl)) (hpl : (backTo pos (starEach es X.env)).any (·.1) = false := by rfl) :
    PE X (.Call (.Name "all" p) (e :: es) [] pos) (tI g W true (eBi .all f)) := se_callB (cr_all hc) (opc_all G) hg hm (by decide +kernel) ha (by decide) (by decide) he hpl
def eIsi (t : Ty) (f : Sl → R D) : Sl → R D := fun σ => (f σ).bind fun d => blR (isTy t d)
theorem z_isi (G : Gof g X) (t : Ty) {p3 : Pos} (ha : PE X e (tI g W x f)) (hm : X.mg "isinstance" = none) (hm2 : X.mg n = none) (hb : bootBuiltins n = some (.type t.nm) := by decide +kernel) (hg : Gl X "isinstance" := by rfl) (hg2 : Gl X n := by rfl)
    (hn : n ≠ "__name__" := by decide) (hd : (n == ("__debug__" : Str)) = false := by decide)
    (he : starEach [e, .Name n p3] X.env = (false, eval e X.env) :: starEach [.Name n p3] X.env := by exact starE (by rfl)) (hpl : (backTo pos (starEach [.Name n p3] X.env)).any (·.1) = false := by rfl) :
    PE X (.Call (.Name "isinstance" p) [e, .Name n p3] [] pos) (tI g W true (eIsi t f)) :=
  (pe_callB call_isi hg hm (by decide +kernel) (pa_cons ha (pa_cons (pe_bltn hg2 hm2 hb (v := .ty t.nm) rfl hn hd) pa_nil) he) (by decide) (by decide) he hpl).imp fun σ H Q q => by
    obtain ⟨H0, Z, fps, σl, sr, o⟩ := q
    refine ⟨H0, Z, fps, σl, sr, o.bind.imp fun d o v H' Z' fp p => ?_⟩
    have rs : Reps g Z' H' [d] [v] (fp ++ []) := .cons p.rep .nil
    refine opc_isi (W := W) (t := t) G Z' σ H' [d] [v] _ Q p.zx.inn rs ?_
    exact o.step p.same p.zx fun d q v H2 Z2 fp2 p2 => q v H2 Z2 fp2 (p2.pre p.same p.zx)
/-! ### methods -/
theorem z_join (G : Gof g X) (he : PE X a (tI g W x f)) (ha : PA X (e :: es) (tIA g W y k)) {ap : Pos}
    (hbase : attributeBase a "join" X.env (eval a X.env) = eval a X.env := by rfl)
    (hfew : ((backTo pos (starEach (e :: es) X.env)).all (fun x => !x.1) && (backToKw pos (keywordEach [] X.env)).all (fun x => x.1.isSome)
      && decide ((e :: es).length + ([] : List Keyword).length + (if ([] : List Keyword).isEmpty then 0 else 1) < 30)) = true := by rfl)
    (hline : (ap.endLine == pos.line) = true := by rfl) (hs : starEach (e :: es) X.env = (false, eval e X.env) :: starEach es X.env := by exact starE (by rfl)) (hplain : (backTo pos (starEach es X.env)).any (·.1) = false := by rfl) :
    PE X (.Call (.Attribute a "join" ap) (e :: es) [] pos) (tI g W true (eMt .join f k)) := se_mt PySem.F.plainAttrs_str PySem.F.slot_str_join PySem.F.type_str_join (mtr_join G) (fun Z H d v f h r => by
      cases d <;> first | (obtain ⟨rfl, _⟩ := rep_str r; exact tyAt_str) | cases h) he ha hbase hfew hline hs hplain
theorem z_split (he : PE X a (tI g W x f)) (ha : PA X (e :: es) (tIA g W y k)) {ap : Pos}
    (hbase : attributeBase a "split" X.env (eval a X.env) = eval a X.env := by rfl)
    (hfew : ((backTo pos (starEach (e :: es) X.env)).all (fun x => !x.1) && (backToKw pos (keywordEach [] X.env)).all (fun x => x.1.isSome)
      && decide ((e :: es).length + ([] : List Keyword).length + (if ([] : List Keyword).isEmpty then 0 else 1) < 30)) = true := by rfl)
    (hline : (ap.endLine == pos.line) = true := by rfl) (hs : starEach (e :: es) X.env = (false, eval e X.env) :: starEach es X.env := by exact starE (by rfl)) (hplain : (backTo pos (starEach es X.env)).any (·.1) = false := by rfl) :
    PE X (.Call (.Attribute a "split" ap) (e :: es) [] pos) (tI g W true (eMt .split f k)) := se_mt PySem.F.plainAttrs_str PySem.F.slot_str_split PySem.F.type_str_split mtr_split (fun Z H d v f h r => by
      cases d <;> first | (obtain ⟨rfl, _⟩ := rep_str r; exact tyAt_str) | cases h) he ha hbase hfew hline hs hplain
theorem z_find (he : PE X a (tI g W x f)) (ha : PA X (e :: es) (tIA g W y k)) {ap : Pos}
    (hbase : attributeBase a "find" X.env (eval a X.env) = eval a X.env := by rfl)
    (hfew : ((backTo pos (starEach (e :: es) X.env)).all (fun x => !x.1) && (backToKw pos (keywordEach [] X.env)).all (fun x => x.1.isSome)
      && decide ((e :: es).length + ([] : List Keyword).length + (if ([] : List Keyword).isEmpty then 0 else 1) < 30)) = true := by rfl)
    (hline : (ap.endLine == pos.line) = true := by rfl) (hs : starEach (e :: es) X.env = (false, eval e X.env) :: starEach es X.env := by exact starE (by rfl)) (hplain : (backTo pos (starEach es X.env)).any (·.1) = false := by rfl) :
    PE X (.Call (.Attribute a "find" ap) (e :: es) [] pos) (tI g W true (eMt .find f k)) := se_mt PySem.F.plainAttrs_str PySem.F.slot_str_find PySem.F.type_str_find mtr_find (fun Z H d v f h r => by
      cases d <;> first | (obtain ⟨rfl, _⟩ := rep_str r; exact tyAt_str) | cases h) he ha hbase hfew hline hs hplain
theorem z_sindex (he : PE X a (tI g W x f)) (ha : PA X (e :: es) (tIA g W y k)) {ap : Pos}
    (hbase : attributeBase a "index" X.env (eval a X.env) = eval a X.env := by rfl)
    (hfew : ((backTo pos (starEach (e :: es) X.env)).all (fun x => !x.1) && (backToKw pos (keywordEach [] X.env)).all (fun x => x.1.isSome)
      && decide ((e :: es).length + ([] : List Keyword).length + (if ([] : List Keyword).isEmpty then 0 else 1) < 30)) = true := by rfl)
    (hline : (ap.endLine == pos.line) = true := by rfl) (hs : starEach (e :: es) X.env = (false, eval e X.env) :: starEach es X.env := by exact starE (by rfl)) (hplain : (backTo pos (starEach es X.env)).any (·.1) = false := by rfl) :
    PE X (.Call (.Attribute a "index" ap) (e :: es) [] pos) (tI g W true (eMt .strIndex f k)) := se_mt PySem.F.plainAttrs_str PySem.F.slot_str_index PySem.F.type_str_index mtr_strIndex (fun Z H d v f h r => by
      cases d <;> first | (obtain ⟨rfl, _⟩ := rep_str r; exact tyAt_str) | cases h) he ha hbase hfew hline hs hplain
theorem tyAt_l (G : Gof g X) {Z : Addr → Prop} {H : Hp} {d : D} {v : V} {f : List Addr} (h : recvOk .lstIndex d = true) (r : Rep g Z H d v f) : TyAt X "list" v H := by
  cases r with
  | lst q hs w => exact fun pins σ s v I r => tyV_is I r (.inl ⟨rfl, _, .of q⟩)
  | lstR q hs => exact fun pins σ s v I r => tyV_is I r (.inl ⟨rfl, _, by rw [G.K]; exact q.sqL⟩)
  | _ => cases h
theorem z_lindex (hu : X.A.units + 70 < cLine) (G : Gof g X) (he : PE X a (tI g W x f)) (ha : PA X (e :: es) (tIA g W y k)) {ap : Pos}
    (hbase : attributeBase a "index" X.env (eval a X.env) = eval a X.env := by rfl)
    (hfew : ((backTo pos (starEach (e :: es) X.env)).all (fun x => !x.1) && (backToKw pos (keywordEach [] X.env)).all (fun x => x.1.isSome)
      && decide ((e :: es).length + ([] : List Keyword).length + (if ([] : List Keyword).isEmpty then 0 else 1) < 30)) = true := by rfl)
    (hline : (ap.endLine == pos.line) = true := by rfl) (hs : starEach (e :: es) X.env = (false, eval e X.env) :: starEach es X.env := by exact starE (by rfl)) (hplain : (backTo pos (starEach es X.env)).any (·.1) = false := by rfl) :
    PE X (.Call (.Attribute a "index" ap) (e :: es) [] pos) (tI g W true (eMt .lstIndex f k)) := se_mt PySem.F.plainAttrs_list PySem.F.slot_list_index PySem.F.type_list_index (mtr_lstIndex G hu) (fun Z H d v f h r => tyAt_l G h r) he ha hbase hfew hline hs hplain
theorem z_get1 (hu : X.A.units + 70 < cLine) (G : Gof g X) (he : PE X a (tI g W x f)) (ha : PA X (e :: es) (tIA g W y k)) {ap : Pos}
    (hbase : attributeBase a "get" X.env (eval a X.env) = eval a X.env := by rfl)
    (hfew : ((backTo pos (starEach (e :: es) X.env)).all (fun x => !x.1) && (backToKw pos (keywordEach [] X.env)).all (fun x => x.1.isSome)
      && decide ((e :: es).length + ([] : List Keyword).length + (if ([] : List Keyword).isEmpty then 0 else 1) < 30)) = true := by rfl)
    (hline : (ap.endLine == pos.line) = true := by rfl) (hs : starEach (e :: es) X.env = (false, eval e X.env) :: starEach es X.env := by exact starE (by rfl)) (hplain : (backTo pos (starEach es X.env)).any (·.1) = false := by rfl) :
    PE X (.Call (.Attribute a "get" ap) (e :: es) [] pos) (tI g W true (eMt .get1 f k)) := se_mt PySem.F.plainAttrs_dict PySem.F.slot_dict_get PySem.F.type_dict_get (mtr_get1 G hu) (fun Z H d v f h r => by
      cases d <;> first | exact tyAt_dct r | cases h) he ha hbase hfew hline hs hplain
/-! ### calls of defs, walks, tests -/
theorem z_call {j m : Nat} {fn : Addr} {fd : FuncData} {ps : List Str} {h : List D → R D} (F : FnOk X.prog X.w X.K X.mg X.base (L2.CX X.prog X.w) j fn fd ps (spI g m h)) (hr : Room j X.A) (hm : X.mg n = some (.ref fn))
    (hk : PySem.W.keepIn X.K (.ref fn) = true) (hb : Binds X.K fd ps []) (tk : Takes X W) (ha : PA X (e :: es) (tIA g W x f)) (hlen : ∀ σ ds, f σ = .ok (.tup ds) → ds.length = m) (hg : Gl X n := by rfl) (hdb : (n == ("__debug__" : Str)) = false := by decide) (he : starEach (e :: es) X.env = (false, eval e X.env) :: starEach es X.env := by exact starE (by rfl)) (hpl : (backTo pos (starEach es X.env)).any (·.1) = false := by rfl) :
    PE X (.Call (.Name n p) (e :: es) [] pos) (tI g W true (eF h f)) := se_call F hr hg hm hk hb tk ha hlen hdb he hpl
theorem len_aN : ∀ (σ : Sl) (ds : List D), aN σ = .ok (.tup ds) → ds.length = 0 := fun σ ds h => by cases h; rfl
theorem len_aC {m : Nat} (h : ∀ (σ : Sl) (ds : List D), k σ = .ok (.tup ds) → ds.length = m) : ∀ (σ : Sl) (ds : List D), aC f k σ = .ok (.tup ds) → ds.length = m + 1 := fun σ ds q => by
  unfold aC at q
  obtain ⟨x, e1, q⟩ := R.bind_ok_inv q
  obtain ⟨r, e2, q⟩ := R.bind_ok_inv q
  obtain ⟨xs, e3, q⟩ := R.bind_ok_inv q
  cases q
  cases r with
  | tup ys => cases e3; rw [List.length_cons, h σ _ e2]
  | _ => cases e3
theorem i_seq (G : Gof g X) (h : PE X e (tI g W x f)) : PI X tg e (tIW g W x (iSeq' f)) := si_seq G h
theorem i_en (G : Gof g X) {elts : List Expr} {kk : Nat} {tpos : Pos} (ha : PA X [e] (tIA g W x f)) (hm : X.mg "enumerate" = none) (hg : Gl X "enumerate" := by rfl) (hs : starEach [e] X.env = [(false, eval e X.env)] := by exact starE (by rfl)) :
    PI X (.Tuple elts kk tpos) (.Call (.Name "enumerate" p) [e] [] pos) (tIW g W x (iEn f)) := si_enum G hg hm ha hs
theorem i_r1 (ha : PA X [e] (tIA g W x f)) (hm : X.mg "range" = none) (hg : Gl X "range" := by rfl) (hs : starEach [e] X.env = [(false, eval e X.env)] := by exact starE (by rfl)) : PI X tg (.Call (.Name "range" p) [e] [] pos) (tIW g W true (iR1 f)) := si_rng1 hg hm ha hs
theorem i_r2 (ha : PA X [e, a] (tIA g W x f)) (hm : X.mg "range" = none) (hg : Gl X "range" := by rfl) (hs2 : starEach [a] X.env = [(false, eval a X.env)] := by exact starE (by rfl)) (hs : starEach [e, a] X.env = (false, eval e X.env) :: starEach [a] X.env := by exact starE (by rfl)) : PI X tg (.Call (.Name "range" p) [e, a] [] pos) (tIW g W true (iR2 f)) := si_rng2 hg hm ha (by rw [hs, hs2]) hs2
theorem i_z (G : Gof g X) {elts : List Expr} {kk : Nat} {tpos : Pos} (ha : PA X [e, a] (tIA g W x f)) (hm : X.mg "zip" = none) (hg : Gl X "zip" := by rfl) (hs : starEach [e, a] X.env = (false, eval e X.env) :: starEach [a] X.env := by exact starE (by rfl)) (hpl : (backTo pos (starEach [a] X.env)).any (·.1) = false := by rfl) :
    PI X (.Tuple elts kk tpos) (.Call (.Name "zip" p) [e, a] [] pos) (tIW g W x (iZ f)) := si_zip G hg hm ha hs hpl
theorem y_e (h : PE X e (tI g W x f)) (hw : ∀ whole, isTrue e X.env whole = (do let v ← whole; standAt e.pos; holding [v] (truthy v)) := by intro _; rfl) : PT X e (tIT g W f) := (pt_val h hw).imp fun _ _ _ q => tIT_tB q
theorem y_lt (h : PE X a (tI g W x f)) (h' : PE X b (tI g W y k)) : PT X (.Compare a [.Lt] [b] pos) (tIT g W (eC .lt f k)) := st_cmp op_lt opd_lt h h' (nobehind b (by decide) (by decide))
theorem y_le (h : PE X a (tI g W x f)) (h' : PE X b (tI g W y k)) : PT X (.Compare a [.LtE] [b] pos) (tIT g W (eC .le f k)) := st_cmp op_le opd_le h h' (nobehind b (by decide) (by decide))
theorem y_gt (h : PE X a (tI g W x f)) (h' : PE X b (tI g W y k)) : PT X (.Compare a [.Gt] [b] pos) (tIT g W (eC .gt f k)) := st_cmp op_gt opd_gt h h' (nobehind b (by decide) (by decide))
theorem y_ge (h : PE X a (tI g W x f)) (h' : PE X b (tI g W y k)) : PT X (.Compare a [.GtE] [b] pos) (tIT g W (eC .ge f k)) := st_cmp op_ge opd_ge h h' (nobehind b (by decide) (by decide))
theorem y_eq (hu : X.A.units + 70 < cLine) (G : Gof g X) (h : PE X a (tI g W x f)) (h' : PE X b (tI g W y k)) : PT X (.Compare a [.Eq] [b] pos) (tIT g W (eC .eq f k)) := st_cmp (op_eqD (by omega)) (opd_eq G) h h' (nobehind b (by decide) (by decide))
theorem y_ne (hu : X.A.units + 70 < cLine) (G : Gof g X) (h : PE X a (tI g W x f)) (h' : PE X b (tI g W y k)) : PT X (.Compare a [.NotEq] [b] pos) (tIT g W (eC .ne f k)) := st_cmp (op_neD (by omega)) (opd_ne G) h h' (nobehind b (by decide) (by decide))
theorem y_isn (h : PE X a (tI g W x f)) (h' : PE X b (tI g W y k)) : PT X (.Compare a [.Is] [b] pos) (tIT g W (eC .isN f k)) := st_cmp op_isN opd_isN h h' (nobehind b (by decide) (by decide))
theorem y_ntn (h : PE X a (tI g W x f)) (h' : PE X b (tI g W y k)) : PT X (.Compare a [.IsNot] [b] pos) (tIT g W (eC .notN f k)) := st_cmp op_notN opd_notN h h' (nobehind b (by decide) (by decide))
theorem y_in (hu : X.A.units + 70 < cLine) (G : Gof g X) (h : PE X a (tI g W x f)) (h' : PE X b (tI g W y k)) (hm : behindInMarks .In b = false := by rfl) : PT X (.Compare a [.In] [b] pos) (tIT g W (eC .mem f k)) := st_cmp (opr_mem hu G) (opd_mem G) h h' hm
theorem y_nin (hu : X.A.units + 70 < cLine) (G : Gof g X) (h : PE X a (tI g W x f)) (h' : PE X b (tI g W y k)) (hm : behindInMarks .NotIn b = false := by rfl) : PT X (.Compare a [.NotIn] [b] pos) (tIT g W (eC .nmem f k)) := st_cmp (opr_nmem hu G) (opd_nmem G) h h' hm
theorem y_lele (h : PE X a (tI g W x f)) (h' : PE X b (tI g W y k)) (h3 : PE X c (tI g W z l)) (hm : lastMarks [.LtE, .LtE] [b, c] = false := by rfl) : PT X (.Compare a [.LtE, .LtE] [b, c] pos) (tIT g W (eCC .le .le f k l)) := st_chn op_le op_le opd_le opd_le h h' h3 hm
theorem y_lelt (h : PE X a (tI g W x f)) (h' : PE X b (tI g W y k)) (h3 : PE X c (tI g W z l)) (hm : lastMarks [.LtE, .Lt] [b, c] = false := by rfl) : PT X (.Compare a [.LtE, .Lt] [b, c] pos) (tIT g W (eCC .le .lt f k l)) := st_chn op_le op_lt opd_le opd_lt h h' h3 hm
theorem y_not (h : PT X a (tIT g W f)) : PT X (.UnaryOp .Not a pos) (tIT g W (eNot f)) := st_not h
theorem w_and1 (h : PT X a (tIT g W f)) : PW X (.BoolOp .And [a] pos) (tIT g W f) := pw_and1 h
theorem w_or1 (h : PT X a (tIT g W f)) : PW X (.BoolOp .Or [a] pos) (tIT g W f) := pw_or1 h
theorem w_and {rest : List Expr} (h : PT X a (tIT g W f)) (h' : PW X (.BoolOp .And (b :: rest) pos) (tIT g W k)) : PW X (.BoolOp .And (a :: b :: rest) pos) (tIT g W (eAnd f k)) := sw_and h h'
theorem w_or {rest : List Expr} (h : PT X a (tIT g W f)) (h' : PW X (.BoolOp .Or (b :: rest) pos) (tIT g W k)) : PW X (.BoolOp .Or (a :: b :: rest) pos) (tIT g W (eOr f k)) := sw_or h h'
theorem y_w (h : PW X a (tIT g W f)) : PT X a (tIT g W f) := h.pt
end
end DI
/-! DI, short forms of statements, defs by name, the law's end -/
namespace DI
open PySem PySem.Spec PyProof.Rows L2
section
variable {X : Cx} {g : Gv} {W : L2.WX} {a b c e tg : Expr} {es : List Expr} {f k l fc fe : Sl → R D} {sf sk : SF} {x y z : Bool} {pos p spos : Pos} {n : Str} {sts sts' : List Stmt}
theorem t_set (i : Nat) (nd : X.N.Nodup) (he : PE X e (tI g W true fe)) (hi : X.N[i]? = some n := by rfl) (hx : Loc X.env.scope n := by first | exact Or.inl rfl | exact Or.inr rfl) (hs : swapsWith e (some (.Name n p)) pos.line X.env = pure false := by rfl)
    (hf : X.fn n = true ∨ X.env.scope.names.lookup n = some .local := by first | exact Or.inl rfl | exact Or.inr rfl) : PS X (.Assign [.Name n p] e pos) (tS g W (sSet i fe)) := ss_set nd hi hx he hs hf
theorem g_one (i : Nat) (nd : X.N.Nodup) (hi : X.N[i]? = some n := by rfl) (hx : Loc X.env.scope n := by first | exact Or.inl rfl | exact Or.inr rfl) (hf : X.fn n = true ∨ X.env.scope.names.lookup n = some .local := by first | exact Or.inl rfl | exact Or.inr rfl) : PG X (.Name n pos) (tG g (.one i)) := sg_one nd hi hx hf
theorem g_nil : PGs X [] (tGs g []) := sgs_nil
theorem g_cons {i : Nat} {is : List Nat} (h1 : PG X e (tG g (.one i))) (h2 : PGs X es (tGs g is)) (hs : (assignEach (e :: es) X.env).map (·.2) = assign e X.env :: (assignEach es X.env).map (·.2) := by rfl) : PGs X (e :: es) (tGs g (i :: is)) := sgs_cons h1 h2 hs
theorem g_many {kk : Nat} {is : List Nat} (G : Gof g X) (h : PGs X es (tGs g is)) (hc : X.calm = true := by rfl) (hn : (assignEach es X.env).length = is.length := by rfl) (hst : (assignEach es X.env).findIdx? (·.1) = none := by rfl) : PG X (.Tuple es kk pos) (tG g (.many is)) := sg_many G hc h hn hst
theorem t_unp {p : Pat} (he : PE X e (tI g W x fe)) (hg : PG X tg (tG g p)) (hs : swapsWithSole [tg] e pos.line X.env = pure false := by rfl) (hw : swappedStores [tg] e X.env = pure none := by rfl) (h1 : (assignEach [tg] X.env).map (·.2) = [assign tg X.env] := by rfl) :
    PS X (.Assign [tg] e pos) (tS g W (sUnp p fe)) := ss_unp he hg hs hw h1
theorem t_if (hc : PT X c (tIT g W fc)) (ha : PSs X sts (tS g W sf)) (hb : PSs X sts' (tS g W sk)) : PS X (.If c sts sts' pos) (tS g W (sIf fc sf sk)) := ss_if hc ha hb
theorem t_whl (hp : PassesOwn (model X.prog X.w) X.A X.env X.xe) (hc : PT X c (tIT g W fc)) (hb : PSs X sts (tS g W sf)) : PS X (.While c sts [] pos) (tS g W (sWhl fc sf)) := ss_while hp hc hb
theorem t_for {iter : Expr} {p : Pat} {fi : Sl → R (List D)} (hp : PassesOwn (model X.prog X.w) X.A X.env X.xe) (hi : PI X tg iter (tIW g W true fi)) (hg : PG X tg (tG g p)) (hb : PSs X sts (tS g W sf)) (hc : X.calm = true := by rfl)
    (hs : ∀ x, foldedSetIterable iter X.env x = pure x := by intro _; rfl) : PS X (.For tg iter sts [] pos) (tS g W (sFor p fi sf)) := ss_for hp hc hi hg hb hs
theorem t_ret (he : PE X e (tI g W true fe)) : PS X (.Return (some e) pos) (tS g W (sRet fe)) := ss_ret he
theorem t_retV (i : Nat) (hN : X.N[i]? = some n := by rfl) (hv : Vis X.env.scope n := by first | exact Or.inl rfl | exact Or.inr (Or.inl rfl) | exact Or.inr (Or.inr rfl)) (hd : (n == ("__debug__" : Str)) = false := by decide) (hcd : (n == ("__classdict__" : Str)) = false := by decide) :
    PS X (.Return (some (.Name n p)) pos) (tS g W (sRetV i)) := ss_retV hN hv hd hcd
theorem t_retN : PS X (.Return none pos) (tS g W sRetN) := ss_retN
def sBad : SF := fun _ => .bad
/-- what is never come to -/
theorem t_bad {st : Stmt} : PS X st (tS g W sBad) := ps_never.imp fun E σ H q => by
  obtain ⟨H0, Z0, Z, fps, σl, ss, o⟩ := q
  exact o
theorem t_pass : PS X (.Pass pos) (tS g W sSkip) := ss_pass
theorem t_brk : PS X (.Break pos) (tS g W sBrk) := ss_brk
theorem t_cnt : PS X (.Continue pos) (tS g W sCnt) := ss_cnt
theorem t_drop (he : PE X e (tI g W x fe)) (hs : swapsWith e none pos.line X.env = pure false := by rfl) : PS X (.Expr e pos) (tS g W (sDrop fe)) := ss_drop he hs
theorem t_app (i : Nat) (G : Gof g X) (he : PE X e (tI g W true fe)) {apos cpos : Pos} (hN : X.N[i]? = some n := by rfl) (hv : Vis X.env.scope n := by first | exact Or.inl rfl | exact Or.inr (Or.inl rfl) | exact Or.inr (Or.inr rfl)) (hd : (n == ("__debug__" : Str)) = false := by decide) (hcd : (n == ("__classdict__" : Str)) = false := by decide)
    (hst : starEach [e] X.env = (false, eval e X.env) :: starEach [] X.env := by exact starE (by rfl))
    (hbase : attributeBase (.Name n p) "append" X.env (eval (.Name n p) X.env) = eval (.Name n p) X.env := by rfl)
    (hfew : ((backTo cpos (starEach [e] X.env)).all (fun x => !x.1) && (backToKw cpos (keywordEach [] X.env)).all (fun x => x.1.isSome)
      && decide ([e].length + ([] : List Keyword).length + (if ([] : List Keyword).isEmpty then 0 else 1) < 30)) = true := by rfl)
    (hline : (apos.endLine == cpos.line) = true := by rfl) (hplain : (backTo cpos (starEach [] X.env)).any (·.1) = false := by rfl)
    (hs : swapsWith (.Call (.Attribute (.Name n p) "append" apos) [e] [] cpos) none pos.line X.env = pure false := by rfl) :
    PS X (.Expr (.Call (.Attribute (.Name n p) "append" apos) [e] [] cpos) pos) (tS g W (sApp i fe)) := ss_app G hN hv hd hcd he hst hbase hfew hline hplain hs
theorem t_putk (i : Nat) (hu : X.A.units + 70 < cLine) (G : Gof g X) (he : PE X e (tI g W x fe)) (hk : PE X a (tI g W y k)) (hN : X.N[i]? = some n := by rfl) (hv : Vis X.env.scope n := by first | exact Or.inl rfl | exact Or.inr (Or.inl rfl) | exact Or.inr (Or.inr rfl)) (hd : (n == ("__debug__" : Str)) = false := by decide) (hcd : (n == ("__classdict__" : Str)) = false := by decide)
    (ha : ∀ v, assign (.Subscript (.Name n p) a pos) X.env v = (do
      let ov ← holding [v] (eval (.Name n p) X.env)
      let iv ← holding [v, ov] (eval a X.env)
      standAt pos
      holding [v, ov, iv] (setItem ov iv v)
      release [v, ov, iv] []) := by intro _; rfl)
    (hs : swapsWithSole [.Subscript (.Name n p) a pos] e spos.line X.env = pure false := by rfl) (hw : swappedStores [.Subscript (.Name n p) a pos] e X.env = pure none := by rfl) (h1 : (assignEach [.Subscript (.Name n p) a pos] X.env).map (·.2) = [assign (.Subscript (.Name n p) a pos) X.env] := by rfl) :
    PS X (.Assign [.Subscript (.Name n p) a pos] e spos) (tS g W (sPutK i k fe)) := ss_putK G hu hN hv hd hcd he hk ha hs hw h1
theorem z_comp {elt iter : Expr} {ifs : List Expr} {scope : Scope} {wi : Sl → R (List D)} {p : Pat} (own : List (Str × Nat)) (nd : X.N.Nodup) (hi : PI X tg iter (tIW g W x wi))
    (hg : ∀ (s : Shared) (H : Hp) (C : Addr) (cl : List (Str × Addr)) (fp : List Addr), PG (X.blk s H scope (compEnvC scope cl C X.env) fp) tg (tG g p)) (ht : ∀ (s : Shared) (H : Hp) (C : Addr) (cl : List (Str × Addr)) (fp : List Addr), PTs (X.blk s H scope (compEnvC scope cl C X.env) fp) ifs (tIT g WF fc))
    (he : ∀ (s : Shared) (H : Hp) (C : Addr) (cl : List (Str × Addr)) (fp : List Addr), PE (X.blk s H scope (compEnvC scope cl C X.env) fp) elt (tI g WF true fe))
    (ok : blkC X.N X.env.scope scope own = true := by first | rfl | kernel_rfl) (hp : ∀ j ∈ psl p, j ∈ own.map (·.2) := by decide) (hc : X.calm = true := by rfl) (hs : ∀ x, foldedSetIterable iter X.env x = pure x := by intro _; rfl) :
    PE X (.ListComp elt [⟨tg, iter, ifs, 0⟩] scope pos) (tI g W true (eComp (own.map (·.2)) p wi fc fe)) := se_comp hc nd ok hp hi hg ht he hs
theorem t_lc (i : Nat) {py : Pos} {elt iter : Expr} {ifs : List Expr} {scope : Scope} {wi : Sl → R (List D)} {p : Pat} (own : List (Str × Nat)) (nd : X.N.Nodup) (hi : PI X tg iter (tIW g W x wi))
    (hg : ∀ (s : Shared) (H : Hp) (C : Addr) (cl : List (Str × Addr)) (fp : List Addr), PG (X.blk s H scope (compEnvC scope cl C X.env) fp) tg (tG g p)) (ht : ∀ (s : Shared) (H : Hp) (C : Addr) (cl : List (Str × Addr)) (fp : List Addr), PTs (X.blk s H scope (compEnvC scope cl C X.env) fp) ifs (tIT g WF fc))
    (he : ∀ (s : Shared) (H : Hp) (C : Addr) (cl : List (Str × Addr)) (fp : List Addr), PE (X.blk s H scope (compEnvC scope cl C X.env) fp) elt (tI g WF true fe))
    (hy : X.N[i]? = some n := by rfl) (hyl : X.env.scope.names.lookup n = some .local := by rfl)
    (hsw : swapsWith (.ListComp elt [⟨tg, iter, ifs, 0⟩] scope pos) (some (.Name n py)) spos.line X.env = pure true := by exact sw_true rfl rfl rfl rfl)
    (ok : blkC X.N X.env.scope scope own = true := by first | rfl | kernel_rfl) (hp : ∀ j ∈ psl p, j ∈ own.map (·.2) := by decide) (hc : X.calm = true := by rfl) (hs : ∀ x, foldedSetIterable iter X.env x = pure x := by intro _; rfl) :
    PS X (.Assign [.Name n py] (.ListComp elt [⟨tg, iter, ifs, 0⟩] scope pos) spos) (tS g W (sSet i (eComp (own.map (·.2)) p wi fc fe))) := ss_setLc hc nd hy hyl hsw ok hp hi hg ht he hs
end
theorem hu70 {A : Around} {k : Nat} (hr : Room k A) : A.units + 70 < cLine := Nat.lt_of_le_of_lt (by omega) hr.un

/-! ### defs by name -/
def DefOk (P : Program) (w : World) (K : PySem.W.Frag) (mg : Str → Option Value) (base : Heap) (g : Gv) (k : Nat) (n : Str) (ps : List Str) (m : Nat) (h : List D → R D) : Prop :=
  ∃ f fd, mg n = some (.ref f) ∧ PySem.W.keepIn K (.ref f) = true ∧ Binds K fd ps [] ∧ FnOk P w K mg base (L2.CX P w) k f fd ps (spI g m h)
def TxD (K : PySem.W.Frag) (mg : Str → Option Value) (n : Str) (st : Stmt) (ps : List Str) : Prop := ∃ f fd, Fun K n n st f fd ∧ mg n = some (.ref f) ∧ Binds K fd ps []
theorem z_call' {X : Cx} {g : Gv} {W : L2.WX} {e : Expr} {es : List Expr} {f : Sl → R D} {x : Bool} {pos p : Pos} {n : Str} {j m : Nat} {ps : List Str} {h : List D → R D} (F : DefOk X.prog X.w X.K X.mg X.base g j n ps m h) (hr : Room j X.A) (tk : Takes X W) (ha : PA X (e :: es) (tIA g W x f)) (hlen : ∀ σ ds, f σ = .ok (.tup ds) → ds.length = m)
    (hg : Gl X n := by rfl) (hdb : (n == ("__debug__" : Str)) = false := by decide) (he : starEach (e :: es) X.env = (false, eval e X.env) :: starEach es X.env := by exact starE (by rfl)) (hpl : (backTo pos (starEach es X.env)).any (·.1) = false := by rfl) :
    PE X (.Call (.Name n p) (e :: es) [] pos) (tI g W true (eF h f)) := by
  obtain ⟨fn, fd, hm, hk, hb, F⟩ := F
  exact se_call F hr hg hm hk hb tk ha hlen hdb he hpl
section
variable {P : Program} {w : World} {K : PySem.W.Frag} {mg : Str → Option Value} {base : Heap}
theorem di_def {n : Str} {st : Stmt} {N ps : List Str} {k : Nat} (g : Gv) (T : TxD K mg n st ps) (S : FnScope N ps (defScope st)) (r : Nat) (hn : r = ps.length) (m : Nat) (hm : m = N.length) (b : SF)
    (hb : ∀ (f : Addr) (cdv : Value) (A : Around) (outer : List Env) (s : Shared) (H : Hp) (E : XK), Room k (A.deeper (envOfC n (defScope st) s.heap.objs.size f cdv)) →
      Takes (cxOf (L2.CX P w) P w K mg base N n (defScope st) f cdv A outer s H E) (fun cls d _ H => E cls d H) →
      PassesOwn (model P w) (cxOf (L2.CX P w) P w K mg base N n (defScope st) f cdv A outer s H E).A (cxOf (L2.CX P w) P w K mg base N n (defScope st) f cdv A outer s H E).env (cxOf (L2.CX P w) P w K mg base N n (defScope st) f cdv A outer s H E).xe →
      PSs (cxOf (L2.CX P w) P w K mg base N n (defScope st) f cdv A outer s H E) (defBody st) (tS g (fun cls d _ H => E cls d H) b)) : DefOk P w K mg base g (k + 1) n ps r (runF m b) := by
  obtain ⟨f, fd, F, hg, hbd⟩ := T
  exact ⟨f, fd, hg, F.kp, hbd, di_fn g F S r hn m hm b (hb f)⟩
theorem txd_mk {n : Str} {st : Stmt} {ps : List Str} {h : Heap} {f : Addr} {oc : Value} {od an : Option Addr} {osl : Array (Option Value)} {kV doc pm cdv ct : Value} (X : K.In h) (G : h.Ns mainGlobals mg) (a : PySem.W.nsIn K mainGlobals n = some (some (.ref f)))
    (l : K.lookup f = some ⟨oc, od, .func (PySem.W.fnOf n n (defArgs st) (defBody st) (defScope st) .none kV doc pm an cdv ct), osl⟩) (c : PySem.W.codeIn K cdv n = true) (k : PySem.W.keepIn K (.ref f) = true)
    (hb : ∀ (kV doc pm : Value) (an : Option Addr) (cdv ct : Value) (us : List Value), us.length = ps.length → bindArgs (PySem.W.fnOf n n (defArgs st) (defBody st) (defScope st) .none kV doc pm an cdv ct) ⟨us, []⟩ = pure (ps.zip us)) : TxD K mg n st ps :=
  ⟨f, _, fun_mk l c k, PySem.W.mg_of X G a, (fun_mk l c k).binds hb⟩
/-- the law's promise, of its script -/
theorem sp_script {g : Gv} {h : List D → R D} {H : Hp} {a : Addr} {ns : List Int} (hS : SqL g.K H a (ns.map V.int)) (hO : Only H) (hh : h [.lst false (ns.map D.int)] = .ok (.bl true)) :
    spI g 1 h [.ref a] H (fun v _ => v = .bl true) fun _ _ _ => False := by
  refine ⟨fun _ => False, [.lst false (ns.map D.int)], fun _ z => z.elim, ?_, rfl, ?_⟩
  · have rs : Reps g (fun _ => False) H (ns.map D.int) (ns.map V.int) [] := by
      clear hS hh
      induction ns with
      | nil => exact .nil
      | cons n r ih => exact .cons (f := []) (fs := []) (.int n) ih
    refine .cons (f := []) (fs := []) (.lstR ?_ rs) .nil
    rcases hS with (q | q) | q
    · rcases hO a with e | ⟨o, xs, e⟩
      · rw [e] at q; cases q
      · rw [e] at q; cases q
    · exact .inl q
    · exact .inr q
  · rw [hh]
    intro v H' Z' fp p
    exact (rep_bl p.rep).1
end
theorem cx_none {P : Program} {w : World} {H : Hp} {s : Shared} {e : Value} {s' : Shared} (h : L2.CX P w [] H s (fun _ _ _ => False) e s') : False := by
  obtain ⟨_, _, _, _, _, _, _, _, _, _, _, _, z⟩ := h
  exact z
end DI
/-! DI, laws of the run -/
namespace DI
open PySem
@[simp] theorem u_eV (i : Nat) (σ : Sl) : eV i σ = getS σ i := rfl
@[simp] theorem u_eK (d : D) (σ : Sl) : eK d σ = .ok d := rfl
@[simp] theorem u_eO (f : Sl → R D) (σ : Sl) : eO f σ = (f σ).bind fun d => if clean d = true then .ok d else .bad := rfl
@[simp] theorem u_eNeg (f : Sl → R D) (σ : Sl) : eNeg f σ = (f σ).bind fun x => (intOf x).bind fun i => .ok (.int (-i)) := rfl
@[simp] theorem u_eNot (f : Sl → R D) (σ : Sl) : eNot f σ = (f σ).bind fun x => (boolOf x).bind fun i => .ok (.bl (!i)) := rfl
@[simp] theorem u_eB (o : Bop) (f k : Sl → R D) (σ : Sl) : eB o f k σ = (f σ).bind fun x => (k σ).bind fun y => binD o x y := rfl
@[simp] theorem u_eC (o : Cop) (f k : Sl → R D) (σ : Sl) : eC o f k σ = (f σ).bind fun x => (k σ).bind fun y => blR (cmpD o x y) := rfl
@[simp] theorem u_eCC (o o' : Cop) (f k l : Sl → R D) (σ : Sl) : eCC o o' f k l σ = (f σ).bind fun x => (k σ).bind fun y => (cmpD o x y).bind fun r => if r = true then (l σ).bind fun z => (cmpD o' y z).bind fun r => .ok (.bl r) else .ok (.bl false) := rfl
@[simp] theorem u_eAnd (f k : Sl → R D) (σ : Sl) : eAnd f k σ = (f σ).bind fun x => (boolOf x).bind fun r => if r = true then (k σ).bind fun y => (boolOf y).bind fun r => .ok (.bl r) else .ok (.bl false) := rfl
@[simp] theorem u_eOr (f k : Sl → R D) (σ : Sl) : eOr f k σ = (f σ).bind fun x => (boolOf x).bind fun r => if r = true then .ok (.bl true) else (k σ).bind fun y => (boolOf y).bind fun r => .ok (.bl r) := rfl
@[simp] theorem u_eIf (c f k : Sl → R D) (σ : Sl) : eIf c f k σ = (c σ).bind fun x => (boolOf x).bind fun r => if r = true then f σ else k σ := rfl
@[simp] theorem u_eIx (f k : Sl → R D) (σ : Sl) : eIx f k σ = (f σ).bind fun x => (k σ).bind fun y => idxD x y := rfl
@[simp] theorem u_aN (σ : Sl) : aN σ = .ok (.tup []) := rfl
@[simp] theorem u_aC (f k : Sl → R D) (σ : Sl) : aC f k σ = (f σ).bind fun x => (k σ).bind fun r => (tupOf r).bind fun xs => .ok (.tup (x :: xs)) := rfl
@[simp] theorem u_eTup (f : Sl → R D) (σ : Sl) : eTup f σ = (f σ).bind fun r => (tupOf r).bind fun xs => if xs.length ≤ sizeLine then .ok (.tup xs) else .bad := rfl
@[simp] theorem u_eLst (f : Sl → R D) (σ : Sl) : eLst f σ = (f σ).bind fun r => (tupOf r).bind fun xs => if xs.length ≤ sizeLine then .ok (.lst true xs) else .bad := rfl
@[simp] theorem u_eD0 (σ : Sl) : eD0 σ = .ok (.dct true []) := rfl
@[simp] theorem u_eD1 (f k : Sl → R D) (σ : Sl) : eD1 f k σ = (f σ).bind fun x => (k σ).bind fun y => dispD x y := rfl
@[simp] theorem u_eSl (f : Sl → R D) (nb : Bool) (k : Sl → R D) (nc : Bool) (l : Sl → R D) (σ : Sl) : eSl f nb k nc l σ = (f σ).bind fun x => (k σ).bind fun l' => (partD (if nb = true then none else some l')).bind fun l' => (l σ).bind fun h => (partD (if nc = true then none else some h)).bind fun h => slD x l' h := rfl
@[simp] theorem u_eBi (b : Bi) (f : Sl → R D) (σ : Sl) : eBi b f σ = (f σ).bind fun r => (tupOf r).bind fun ds => biD b ds := rfl
@[simp] theorem u_eF (h : List D → R D) (f : Sl → R D) (σ : Sl) : eF h f σ = (f σ).bind fun r => (tupOf r).bind fun ds => (h (frzL ds)).bind fun d => if (cleanL ds || noFrz d) = true then .ok d else .bad := rfl
@[simp] theorem u_eMt (m : Mt) (f k : Sl → R D) (σ : Sl) : eMt m f k σ = (f σ).bind fun x => if recvOk m x = true then (k σ).bind fun r => (tupOf r).bind fun ds => mtD m x ds else .bad := rfl
@[simp] theorem u_eIsi (t : Ty) (f : Sl → R D) (σ : Sl) : eIsi t f σ = (f σ).bind fun d => blR (isTy t d) := rfl
@[simp] theorem u_eT (σ : Sl) : eT σ = .ok (.bl true) := rfl
@[simp] theorem u_iSeqq (f : Sl → R D) (σ : Sl) : iSeq' f σ = (f σ).bind itemsD := rfl
@[simp] theorem u_iEn (f : Sl → R D) (σ : Sl) : iEn f σ = (f σ).bind fun r => (tupOf r).bind enumD := rfl
@[simp] theorem u_iR1 (f : Sl → R D) (σ : Sl) : iR1 f σ = (f σ).bind fun r => (tupOf r).bind rng1D := rfl
@[simp] theorem u_iR2 (f : Sl → R D) (σ : Sl) : iR2 f σ = (f σ).bind fun r => (tupOf r).bind rng2D := rfl
@[simp] theorem u_iZ (f : Sl → R D) (σ : Sl) : iZ f σ = (f σ).bind fun r => (tupOf r).bind zipD := rfl
@[simp] theorem u_sSkip (σ : Sl) : sSkip σ = .nx σ := rfl
@[simp] theorem u_sSeq (f k : SF) (σ : Sl) : sSeq f k σ = (f σ).andThen k := rfl
@[simp] theorem u_sSet (i : Nat) (f : Sl → R D) (σ : Sl) : sSet i f σ = rS (f σ) σ fun d => .nx (σ.set i (some d)) := rfl
@[simp] theorem u_sIf (c : Sl → R D) (f k : SF) (σ : Sl) : sIf c f k σ = rS (c σ) σ fun d => cond d (f σ) (k σ) := rfl
@[simp] theorem u_sRet (f : Sl → R D) (σ : Sl) : sRet f σ = rS (f σ) σ .rt := rfl
@[simp] theorem u_sRetV (i : Nat) (σ : Sl) : sRetV i σ = rS (getS σ i) σ .rt := rfl
@[simp] theorem u_sRetN (σ : Sl) : sRetN σ = .rt .non := rfl
@[simp] theorem u_sBrk (σ : Sl) : sBrk σ = .bk σ := rfl
@[simp] theorem u_sCnt (σ : Sl) : sCnt σ = .ct σ := rfl
@[simp] theorem u_sFz (i : Nat) (k : SF) (σ : Sl) : sFz i k σ = rS (getS σ i) σ fun d => k (σ.set i (some (frz d))) := rfl
@[simp] theorem u_sDrop (f : Sl → R D) (σ : Sl) : sDrop f σ = rS (f σ) σ fun _ => .nx σ := rfl
@[simp] theorem u_sUnp (p : Pat) (f : Sl → R D) (σ : Sl) : sUnp p f σ = rS (f σ) σ fun d => if clean d = true then rS (bindP σ p d) σ .nx else .bad := rfl
@[simp] theorem u_sApp (i : Nat) (f : Sl → R D) (σ : Sl) : sApp i f σ = rS ((getS σ i).bind lstOf) σ fun xs => rS (f σ) σ fun y => if xs.length < sizeLine then .nx (σ.set i (some (.lst true (xs ++ [y])))) else .bad := rfl
@[simp] theorem u_sPutK (i : Nat) (fk fe : Sl → R D) (σ : Sl) : sPutK i fk fe σ = rS (fe σ) σ fun y => rS ((getS σ i).bind dctOf) σ fun kvs => rS (fk σ) σ fun x => rS (keyIn x kvs) σ fun k => if clean y = true ∧ kvs.length < sizeLine then .nx (σ.set i (some (.dct true (dput kvs k y)))) else .bad := rfl
@[simp] theorem u_blR (r : R Bool) : blR r = r.bind fun b => .ok (.bl b) := rfl
@[simp] theorem u_startL (n : Nat) (ds : List D) : startL n ds = ds.map some ++ List.replicate (n - ds.length) none := rfl
@[simp] theorem ofR_some {α : Type} (a : α) : ofR (some a) = .ok a := rfl
@[simp] theorem ofR_none {α : Type} : ofR (none : Option α) = .bad := rfl
@[simp] theorem clean_non : clean .non = true := rfl
@[simp] theorem clean_bl (b : Bool) : clean (.bl b) = true := rfl
@[simp] theorem clean_int (b : Int) : clean (.int b) = true := rfl
@[simp] theorem clean_str (b : Str) : clean (.str b) = true := rfl
@[simp] theorem clean_tup (xs : List D) : clean (.tup xs) = cleanL xs := by rw [clean]
@[simp] theorem clean_lst (o : Bool) (xs : List D) : clean (.lst o xs) = (!o && cleanL xs) := by rw [clean]
@[simp] theorem clean_dct (o : Bool) (kvs : List (NestedKey × D)) : clean (.dct o kvs) = !o := by rw [clean]
@[simp] theorem cleanL_nil : cleanL [] = true := rfl
@[simp] theorem cleanL_cons (x : D) (xs : List D) : cleanL (x :: xs) = (clean x && cleanL xs) := by rw [cleanL]
@[simp] theorem frz_non : frz .non = .non := rfl
@[simp] theorem frz_bl (b : Bool) : frz (.bl b) = .bl b := rfl
@[simp] theorem frz_int (b : Int) : frz (.int b) = .int b := rfl
@[simp] theorem frz_str (b : Str) : frz (.str b) = .str b := rfl
@[simp] theorem frz_tup (xs : List D) : frz (.tup xs) = .tup (frzL xs) := by rw [frz]
@[simp] theorem frz_lst (o : Bool) (xs : List D) : frz (.lst o xs) = .lst false (frzL xs) := by rw [frz]
@[simp] theorem frz_dct (o : Bool) (kvs : List (NestedKey × D)) : frz (.dct o kvs) = .dct false kvs := by rw [frz]
@[simp] theorem frzL_nil : frzL [] = [] := rfl
@[simp] theorem frzL_cons (x : D) (xs : List D) : frzL (x :: xs) = frz x :: frzL xs := by rw [frzL]
@[simp] theorem noFrz_non : noFrz .non = true := rfl
@[simp] theorem noFrz_bl (b : Bool) : noFrz (.bl b) = true := rfl
@[simp] theorem noFrz_int (b : Int) : noFrz (.int b) = true := rfl
@[simp] theorem noFrz_str (b : Str) : noFrz (.str b) = true := rfl
@[simp] theorem noFrz_tup (xs : List D) : noFrz (.tup xs) = noFrzL xs := by rw [noFrz]
@[simp] theorem noFrz_lst (o : Bool) (xs : List D) : noFrz (.lst o xs) = (o && noFrzL xs) := by rw [noFrz]
@[simp] theorem noFrz_dct (o : Bool) (xs : List (NestedKey × D)) : noFrz (.dct o xs) = (o && noFrzK xs) := by rw [noFrz]
@[simp] theorem noFrzL_nil : noFrzL [] = true := rfl
@[simp] theorem noFrzL_cons (x : D) (xs : List D) : noFrzL (x :: xs) = (noFrz x && noFrzL xs) := by rw [noFrzL]
@[simp] theorem key_int (i : Int) : key (.int i) = some (.num i) := rfl
@[simp] theorem key_str (i : Str) : key (.str i) = some (.text i) := rfl
@[simp] theorem key_tup (xs : List D) : key (.tup xs) = (keyL xs).map .tup := by rw [key]
@[simp] theorem keyL_nil : keyL [] = some [] := rfl
@[simp] theorem keyL_cons (x : D) (xs : List D) : keyL (x :: xs) = (key x).bind fun d => (keyL xs).map fun ds => d :: ds := by rw [keyL]
@[simp] theorem rS_ok {α : Type} (a : α) (σ : Sl) (k : α → RS) : rS (.ok a) σ k = k a := rfl
@[simp] theorem rS_err {α : Type} (c : Nat) (fs : List D) (σ : Sl) (k : α → RS) : rS (.err c fs : R α) σ k = .er c fs σ := rfl
@[simp] theorem cond_bl (b : Bool) (r s : RS) : cond (.bl b) r s = if b = true then r else s := rfl
@[simp] theorem then_nx (σ : Sl) (k : SF) : (RS.nx σ).andThen k = k σ := rfl
@[simp] theorem then_rt (d : D) (k : SF) : (RS.rt d).andThen k = .rt d := rfl
@[simp] theorem then_bk (d : Sl) (k : SF) : (RS.bk d).andThen k = .bk d := rfl
@[simp] theorem then_ct (d : Sl) (k : SF) : (RS.ct d).andThen k = .ct d := rfl
@[simp] theorem then_er (c : Nat) (fs : List D) (d : Sl) (k : SF) : (RS.er c fs d).andThen k = .er c fs d := rfl
@[simp] theorem resR_rt (d : D) : resR (.rt d) = .ok d := rfl
@[simp] theorem resR_nx (d : Sl) : resR (.nx d) = .ok .non := rfl
@[simp] theorem resR_er (c : Nat) (fs : List D) (d : Sl) : resR (.er c fs d) = .err c fs := rfl
@[simp] theorem getS_0 (a : Option D) (s : Sl) : getS (a :: s) 0 = (match a with | some d => .ok d | none => .bad) := by cases a <;> rfl
@[simp] theorem getS_s (a : Option D) (s : Sl) (i : Nat) : getS (a :: s) (i + 1) = getS s i := by
  unfold getS; rw [List.getElem?_cons_succ]
@[simp] theorem boolOf_bl (b : Bool) : boolOf (.bl b) = .ok b := rfl
@[simp] theorem intOf_int (b : Int) : intOf (.int b) = .ok b := rfl
@[simp] theorem tupOf_tup (b : List D) : tupOf (.tup b) = .ok b := rfl
@[simp] theorem lstOf_lst (b : List D) : lstOf (.lst true b) = .ok b := rfl
@[simp] theorem dctOf_dct (b : List (NestedKey × D)) : dctOf (.dct true b) = .ok b := rfl
@[simp] theorem partD_none : partD none = .ok none := rfl
@[simp] theorem partD_int (i : Int) : partD (some (.int i)) = .ok (some i) := rfl
@[simp] theorem idxD_lst (o : Bool) (xs : List D) (i : Int) : idxD (.lst o xs) (.int i) = ofR (L2.atI xs i) := rfl
@[simp] theorem idxD_tup (xs : List D) (i : Int) : idxD (.tup xs) (.int i) = ofR (L2.atI xs i) := rfl
@[simp] theorem idxD_dct (o : Bool) (kvs : List (NestedKey × D)) (k : D) : idxD (.dct o kvs) k = (keyIn k kvs).bind fun k => ofR (dget kvs k) := rfl
@[simp] theorem itemsD_lst (o : Bool) (xs : List D) : itemsD (.lst o xs) = if cleanL xs = true then .ok xs else .bad := rfl
@[simp] theorem itemsD_tup (xs : List D) : itemsD (.tup xs) = if cleanL xs = true then .ok xs else .bad := rfl
@[simp] theorem itemsD_str (z : Str) : itemsD (.str z) = .ok (z.cps.toList.map oneOf) := rfl
@[simp] theorem enumD_one (x : D) : enumD [x] = (itemsD x).bind fun xs => .ok (enumL 0 xs) := rfl
@[simp] theorem rng1D_one (i : Int) : rng1D [.int i] = if small62 i = true then .ok (rngL 0 i.toNat) else .bad := rfl
@[simp] theorem rng2D_two (i j : Int) : rng2D [.int i, .int j] = if (small62 i && small62 j) = true then .ok (rngL i (j - i).toNat) else .bad := rfl
@[simp] theorem bindP_one (σ : Sl) (i : Nat) (d : D) : bindP σ (.one i) d = .ok (σ.set i (some d)) := rfl
@[simp] theorem bindP_many (σ : Sl) (is : List Nat) (xs : List D) : bindP σ (.many is) (.tup xs) = putAll σ is xs := rfl
@[simp] theorem putAll_nil (σ : Sl) : putAll σ [] [] = .ok σ := rfl
@[simp] theorem putAll_cons (σ : Sl) (i : Nat) (is : List Nat) (x : D) (xs : List D) : putAll σ (i :: is) (x :: xs) = putAll (σ.set i (some x)) is xs := rfl
@[simp] theorem cmpD_lt (i j : Int) : cmpD .lt (.int i) (.int j) = .ok (decide (i < j)) := rfl
@[simp] theorem cmpD_le (i j : Int) : cmpD .le (.int i) (.int j) = .ok (decide (i ≤ j)) := rfl
@[simp] theorem cmpD_gt (i j : Int) : cmpD .gt (.int i) (.int j) = .ok (decide (j < i)) := rfl
@[simp] theorem cmpD_ge (i j : Int) : cmpD .ge (.int i) (.int j) = .ok (decide (j ≤ i)) := rfl
@[simp] theorem cmpD_eq (x y : D) : cmpD .eq x y = eqD x y := rfl
@[simp] theorem cmpD_ne (x y : D) : cmpD .ne x y = (eqD x y).bind fun b => .ok (!b) := rfl
@[simp] theorem cmpD_mem (x y : D) : cmpD .mem x y = memD x y := rfl
@[simp] theorem cmpD_nmem (x y : D) : cmpD .nmem x y = (memD x y).bind fun b => .ok (!b) := rfl
@[simp] theorem cmpD_isN (x : D) : cmpD .isN x .non = .ok (isNon x) := rfl
@[simp] theorem cmpD_notN (x : D) : cmpD .notN x .non = .ok (!isNon x) := rfl
@[simp] theorem isNon_non : isNon .non = true := rfl
@[simp] theorem isNon_int (i : Int) : isNon (.int i) = false := rfl
@[simp] theorem isNon_str (i : Str) : isNon (.str i) = false := rfl
@[simp] theorem isNon_tup (i : List D) : isNon (.tup i) = false := rfl
@[simp] theorem isNon_bl (i : Bool) : isNon (.bl i) = false := rfl
@[simp] theorem isNon_lst (o : Bool) (i : List D) : isNon (.lst o i) = false := rfl
@[simp] theorem memD_dct (x : D) (o : Bool) (kvs : List (NestedKey × D)) : memD x (.dct o kvs) = (keyIn x kvs).bind fun k => .ok (dget kvs k).isSome := rfl
@[simp] theorem memD_lst (x : D) (o : Bool) (ys : List D) : memD x (.lst o ys) = memS x ys := rfl
@[simp] theorem memD_tup (x : D) (ys : List D) : memD x (.tup ys) = memS x ys := rfl
theorem eqD_of {x y : D} {d e : PyData} (h1 : py x = some d) (h2 : py y = some e) (s1 : SeqAt.shaped d = true) (s2 : SeqAt.shaped e = true) : eqD x y = .ok (PyData.eqv d e) := by
  unfold eqD
  rw [h1, h2]
  simp [s1, s2]
@[simp] theorem eqD_int (i j : Int) : eqD (.int i) (.int j) = .ok (decide (i = j)) := by
  rw [eqD_of (d := .int i) (e := .int j) rfl rfl rfl rfl]
  rfl
theorem shaped_str {x : Str} (h : PyData.strOk x = true) : SeqAt.shaped (.str x) = true := by
  unfold SeqAt.shaped
  simp [PyData.canLay0, h, PyData.depth]
theorem eqD_str {i j : Str} (h1 : PyData.strOk i = true) (h2 : PyData.strOk j = true) : eqD (.str i) (.str j) = .ok (i == j) := by
  rw [eqD_of (d := .str i) (e := .str j) rfl rfl (shaped_str h1) (shaped_str h2)]
  rfl
@[simp] theorem biD_lenL (o : Bool) (xs : List D) : biD .len [.lst o xs] = .ok (.int xs.length) := rfl
@[simp] theorem biD_lenT (xs : List D) : biD .len [.tup xs] = .ok (.int xs.length) := rfl
@[simp] theorem biD_lenS (z : Str) : biD .len [.str z] = if z.length ≤ sizeLine then .ok (.int z.length) else .bad := rfl
@[simp] theorem biD_lenD (o : Bool) (kvs : List (NestedKey × D)) : biD .len [.dct o kvs] = .ok (.int kvs.length) := rfl
@[simp] theorem biD_tupleL (o : Bool) (xs : List D) : biD .tuple [.lst o xs] = if cleanL xs = true then .ok (.tup xs) else .bad := rfl
@[simp] theorem biD_tupleT (xs : List D) : biD .tuple [.tup xs] = if cleanL xs = true then .ok (.tup xs) else .bad := rfl
@[simp] theorem biD_listL (o : Bool) (xs : List D) : biD .list [.lst o xs] = if cleanL xs = true then .ok (.lst true xs) else .bad := rfl
@[simp] theorem biD_listT (xs : List D) : biD .list [.tup xs] = if cleanL xs = true then .ok (.lst true xs) else .bad := rfl
@[simp] theorem biD_intI (i : Int) : biD .int [.int i] = .ok (.int i) := rfl
@[simp] theorem biD_intB (b : Bool) : biD .int [.bl b] = .ok (.int (if b = true then 1 else 0)) := rfl
@[simp] theorem biD_min (i j : Int) : biD .min [.int i, .int j] = .ok (.int (if j < i then j else i)) := rfl
@[simp] theorem biD_max (i j : Int) : biD .max [.int i, .int j] = .ok (.int (if j > i then j else i)) := rfl
@[simp] theorem biD_abs (i : Int) : biD .abs [.int i] = .ok (.int (if i < 0 then -i else i)) := rfl
@[simp] theorem isTy_str (z : Str) : isTy .str (.str z) = .ok true := rfl
@[simp] theorem isTy_strN : isTy .str .non = .ok false := rfl
@[simp] theorem isTy_strI (i : Int) : isTy .str (.int i) = .ok false := rfl
@[simp] theorem isTy_intI (i : Int) : isTy .int (.int i) = .ok true := rfl
@[simp] theorem isTy_boolI (i : Int) : isTy .bool (.int i) = .ok false := rfl
@[simp] theorem isTy_boolB (i : Bool) : isTy .bool (.bl i) = .ok true := rfl
@[simp] theorem isTy_tupT (i : List D) : isTy .tuple (.tup i) = .ok true := rfl
@[simp] theorem isTy_lstL (o : Bool) (i : List D) : isTy .list (.lst o i) = .ok true := rfl
@[simp] theorem recv_join (z : Str) : recvOk .join (.str z) = true := rfl
@[simp] theorem recv_find (z : Str) : recvOk .find (.str z) = true := rfl
@[simp] theorem recv_split (z : Str) : recvOk .split (.str z) = true := rfl
@[simp] theorem recv_sindex (z : Str) : recvOk .strIndex (.str z) = true := rfl
@[simp] theorem recv_lindex (o : Bool) (z : List D) : recvOk .lstIndex (.lst o z) = true := rfl
@[simp] theorem recv_get1 (o : Bool) (z : List (NestedKey × D)) : recvOk .get1 (.dct o z) = true := rfl
@[simp] theorem mtD_get1 (o : Bool) (z : List (NestedKey × D)) (k : D) : mtD .get1 (.dct o z) [k] = (keyIn k z).bind fun k => .ok ((dget z k).getD .non) := rfl
@[simp] theorem binD_add (i j : Int) : binD .add (.int i) (.int j) = .ok (.int (i + j)) := rfl
@[simp] theorem binD_sub (i j : Int) : binD .sub (.int i) (.int j) = .ok (.int (i - j)) := rfl
theorem small64_of {i : Int} (h1 : -18446744073709551616 < i) (h2 : i < 18446744073709551616) : small64 i = true := by
  unfold small64
  simp only [Bool.and_eq_true, decide_eq_true_eq, lim64_eq]
  exact ⟨by omega, by omega⟩
@[simp] theorem binD_mulR (i j : Int) (h1 : -18446744073709551616 < j) (h2 : j < 18446744073709551616) : binD .mul (.int i) (.int j) = .ok (.int (i * j)) := by
  show (if (small64 i || small64 j) = true then R.ok (D.int (i * j)) else .bad) = _
  rw [small64_of h1 h2, Bool.or_true, if_pos rfl]
@[simp] theorem binD_mulL (i j : Int) (h1 : -18446744073709551616 < i) (h2 : i < 18446744073709551616) : binD .mul (.int i) (.int j) = .ok (.int (i * j)) := by
  show (if (small64 i || small64 j) = true then R.ok (D.int (i * j)) else .bad) = _
  rw [small64_of h1 h2, Bool.true_or, if_pos rfl]
theorem log2_small {j : Int} (h : 0 < j) (h2 : j < 18446744073709551616) : j.natAbs.log2 < 9000 := by
  have h3 : j.natAbs < 2 ^ 64 := by omega
  have h4 : j.natAbs ≠ 0 := by omega
  have := (Nat.log2_lt h4).mpr h3
  omega
@[simp] theorem binD_fdiv (i j : Int) (h1 : 0 < j) (h2 : j < 18446744073709551616) : binD .fdiv (.int i) (.int j) = .ok (.int (i / j)) := by
  show (if 0 < j ∧ j.natAbs.log2 < 9000 then R.ok (D.int (i / j)) else .bad) = _
  rw [if_pos ⟨h1, log2_small h1 h2⟩]
@[simp] theorem binD_mod (i j : Int) (h1 : 0 < j) : binD .mod (.int i) (.int j) = .ok (.int (i % j)) := by
  show (if 0 < j then R.ok (D.int (i % j)) else .bad) = _
  rw [if_pos h1]
/-- a loop over a list, by an invariant -/
theorem fr_inv {p : Pat} {f : SF} (Inv : Nat → Sl → Prop) : ∀ (xs : List D) (k : Nat) (σ : Sl), Inv k σ →
    (∀ i x σ, xs[i]? = some x → Inv (k + i) σ → ∃ σ1 σ', bindP σ p x = .ok σ1 ∧ (f σ1 = .nx σ' ∨ f σ1 = .ct σ') ∧ Inv (k + i + 1) σ') → ∃ σ', fr p f xs σ = .nx σ' ∧ Inv (k + xs.length) σ'
  | [], k, σ, h0, _ => ⟨σ, rfl, h0⟩
  | x :: xs, k, σ, h0, h => by
    obtain ⟨σ1, σ', e1, e2, i1⟩ := h 0 x σ rfl h0
    obtain ⟨σ2, e3, i2⟩ := fr_inv Inv xs (k + 1) σ' i1 fun i y σ hy hi => by
      have := h (i + 1) y σ (by simpa using hy) (by rw [show k + (i + 1) = k + 1 + i by omega]; exact hi)
      rw [show k + (i + 1) + 1 = k + 1 + i + 1 by omega] at this
      exact this
    refine ⟨σ2, ?_, by rw [List.length_cons, show k + (xs.length + 1) = k + 1 + xs.length by omega]; exact i2⟩
    rw [fr, e1]
    rcases e2 with e2 | e2
    · simp only [rS, e2]; exact e3
    · simp only [rS, e2]; exact e3
theorem compR_map {f : D → R (Option D)} {g : D → D} : ∀ (xs : List D), (∀ x ∈ xs, f x = .ok (some (g x))) → compR f xs = .ok (xs.map g)
  | [], _ => rfl
  | x :: xs, h => by
    rw [compR, h x List.mem_cons_self, compR_map xs fun y hy => h y (List.mem_cons_of_mem _ hy)]
    rfl
/-! ### the k-th number -/
def M1 : Int := 2147483647
def M2 : Int := 2147483659
def cellC (ns : List Int) (k : Nat) : Int := ns.getD (k % ns.length) 0
def cellZ (ns : List Int) (k : Nat) : Int :=
  cellC ns k / 2147483647 * 2147483659 + ((cellC ns k % 2147483647 + 7919 * k + 1) * 48271 % 2147483647 * 69621 + 104729 * k) % 2147483659
def scr (ns : List Int) : D := .lst false (ns.map D.int)
end DI
namespace DI
open PySem
theorem atI_ok {α : Type} {xs : List α} {i : Int} (h0 : 0 ≤ i) (h1 : i < xs.length) : ∃ x, L2.atI xs i = some x ∧ x ∈ xs ∧ xs[i.toNat]? = some x := by
  have hl : i.toNat < xs.length := by omega
  refine ⟨xs[i.toNat], ?_, List.getElem_mem _, List.getElem?_eq_getElem hl⟩
  have e : ((i.toNat : Nat) : Int) = i := by omega
  have := L2.atI_nat (List.getElem?_eq_getElem hl)
  rw [e] at this
  exact this
@[simp] theorem cleanL_ints (r : List Int) : cleanL (r.map D.int) = true := by induction r with
  | nil => rfl
  | cons x r ih => simpa [cleanL, clean] using ih
def rowD (r : List Int) : D := .tup (r.map D.int)
@[simp] theorem cleanL_rows (r : List (List Int)) : cleanL (r.map rowD) = true := by induction r with
  | nil => rfl
  | cons x r ih => simp [cleanL, rowD, clean] at ih ⊢; exact ih
@[simp] theorem cleanL_app {xs ys : List D} (a : cleanL xs = true) (b : cleanL ys = true) : cleanL (xs ++ ys) = true := cleanL_append a b
theorem small62_of {i : Int} (h1 : 0 ≤ i) (h2 : i < 1000000) : small62 i = true := by
  unfold small62
  simp only [Bool.and_eq_true, decide_eq_true_eq, lim62_eq]
  exact ⟨by omega, by omega⟩
theorem sizeLine_big : 1000000 ≤ sizeLine := by decide
end DI
namespace DI
open PySem
theorem sSeq_nx {f k : SF} {σ σ' : Sl} (h : f σ = .nx σ') : sSeq f k σ = k σ' := by show (f σ).andThen k = _; rw [h]; rfl
theorem sSeq_rt {f k : SF} {σ : Sl} {d : D} (h : f σ = .rt d) : sSeq f k σ = .rt d := by show (f σ).andThen k = _; rw [h]; rfl
@[simp] theorem frz_scr (ns : List Int) : frz (scr ns) = scr ns := frz_clean _ (by simp [scr, clean])
@[simp] theorem clean_scr (ns : List Int) : clean (scr ns) = true := by simp [scr, clean]
@[simp] theorem idxD_scr (ns : List Int) (i : Int) : idxD (scr ns) (.int i) = ofR ((L2.atI ns i).map D.int) := by unfold scr; rw [idxD_lst, atI_map]
@[simp] theorem biD_scr (ns : List Int) : biD .len [scr ns] = .ok (.int ns.length) := by unfold scr; rw [biD_lenL, List.length_map]
end DI
namespace DI
theorem sFor_ok {p : Pat} {src : Sl → R (List D)} {f : SF} {σ : Sl} {xs : List D} (h : src σ = .ok xs) : sFor p src f σ = fr p f xs σ := by show rS (src σ) σ _ = _; rw [h]; rfl
theorem sIf_true {c : Sl → R D} {f k : SF} {σ : Sl} (h : c σ = .ok (.bl true)) : sIf c f k σ = f σ := by show rS (c σ) σ _ = _; rw [h]; rfl
theorem sIf_false {c : Sl → R D} {f k : SF} {σ : Sl} (h : c σ = .ok (.bl false)) : sIf c f k σ = k σ := by show rS (c σ) σ _ = _; rw [h]; rfl
end DI
namespace DI
@[simp] theorem le_line {n : Nat} (h : n ≤ 1000000) : n ≤ PySem.sizeLine := Nat.le_trans h sizeLine_big
@[simp] theorem lt_line {n : Nat} (h : n < 1000000) : n < PySem.sizeLine := Nat.lt_of_lt_of_le h sizeLine_big
end DI
namespace DI
open PySem
@[simp] theorem noErr_a {α : Type} (a : α) : noErr (.ok a) = .ok a := rfl
@[simp] theorem wipeL_nil (σ : Sl) : wipeL σ [] = σ := rfl
@[simp] theorem wipeL_cons (σ : Sl) (v : Nat) (vs : List Nat) : wipeL σ (v :: vs) = (wipeL σ vs).set v none := rfl
theorem comp_ok {vs : List Nat} {p : Pat} {fi : Sl → R (List D)} {fc fe : Sl → R D} {σ : Sl} {xs : List D} {g : D → D} (h1 : fi σ = .ok xs) (h2 : ∀ x ∈ xs, cBody vs p fc fe σ x = .ok (some (g x))) (h3 : xs.length ≤ sizeLine) :
    eComp vs p fi fc fe σ = .ok (.lst true (xs.map g)) := by
  unfold eComp
  rw [h1, R.bind_ok, compR_map xs h2, R.bind_ok, if_pos (by rw [List.length_map]; exact h3)]
theorem mem_rngL {x : D} {n : Nat} (h : x ∈ rngL 0 n) : ∃ i : Nat, i < n ∧ x = .int (i : Int) := by
  unfold rngL at h
  obtain ⟨i, hi, rfl⟩ := List.mem_map.mp h
  exact ⟨i, List.mem_range.mp hi, by rw [Int.zero_add]⟩
end DI
namespace DI
theorem lp_false {c : Sl → R D} {f : SF} {n : Nat} {σ : Sl} (h : c σ = .ok (.bl false)) : lp c f (n + 1) σ = .nx σ := by rw [lp, h]; rfl
theorem lp_true {c : Sl → R D} {f : SF} {n : Nat} {σ σ' : Sl} (h : c σ = .ok (.bl true)) (h2 : f σ = .nx σ') : lp c f (n + 1) σ = lp c f n σ' := by rw [lp, h, rS_ok, h2]; rfl
end DI
/-! ### the defs of k13_whole_any_brackets: what they compute, and that they do (printed by gen.py) -/
namespace DI
open PySem PySem.Spec PyProof.Rows L2
def topS (i : Nat) : Stmt := PySem.Challenge.pw_striproam_k13_whole_any_brackets.main.body.getD i (.Pass ⟨0, 0, 0, 0⟩)
abbrev st_p_still : Stmt := topS 1
abbrev st_p_followed : Stmt := topS 2
abbrev st_p_behind : Stmt := topS 3
abbrev st_l_whole : Stmt := topS 5
abbrev st_l_is_thing : Stmt := topS 6
abbrev st_l_is_table : Stmt := topS 7
abbrev st_l_cell : Stmt := topS 8
abbrev st_l_any_table : Stmt := topS 9
abbrev st_l_out : Stmt := topS 10
abbrev st_l_boxes : Stmt := topS 11
abbrev st_p_law : Stmt := topS 12
structure Tx (K : PySem.W.Frag) (mg : Str → Option Value) : Prop where
  b_all : mg "all" = none
  b_bool : mg "bool" = none
  b_int : mg "int" = none
  b_isinstance : mg "isinstance" = none
  b_len : mg "len" = none
  b_list : mg "list" = none
  b_max : mg "max" = none
  b_min : mg "min" = none
  b_range : mg "range" = none
  b_tuple : mg "tuple" = none
  d_p_still : TxD K mg "still" st_p_still ["rooms"]
  d_p_followed : TxD K mg "followed" st_p_followed ["one", "other", "thing", "behind_it"]
  d_p_behind : TxD K mg "behind" st_p_behind ["one", "other"]
  d_l_whole : TxD K mg "_law_whole" st_l_whole ["_law_found"]
  d_l_is_thing : TxD K mg "_law_is_thing" st_l_is_thing ["_law_found"]
  d_l_is_table : TxD K mg "_law_is_table" st_l_is_table ["_law_found", "_law_due"]
  d_l_cell : TxD K mg "_law_cell" st_l_cell ["_law_script", "_law_k"]
  d_l_any_table : TxD K mg "_law_any_table" st_l_any_table ["_law_script", "_law_at", "_law_rooms"]
  d_l_out : TxD K mg "_law_out" st_l_out ["_law_tables", "_law_at", "_law_way", "_law_room"]
  d_l_boxes : TxD K mg "_law_boxes" st_l_boxes ["_law_tables", "_law_rooms"]
  d_p_law : TxD K mg "law" st_p_law ["_law_script"]
/- slots of still: 0 rooms, 1 room -/
noncomputable def b_p_still : SF :=
  sRet (eTup (aC (eBi .tuple (aC (eComp [1] (.one 1) (iR1 (aC (eV 0) (aN))) (eT) (eTup (aC (eK (.int 1)) (aC (eO (eV 1)) (aN))))) (aN))) (aC (eBi .tuple (aC (eComp [1] (.one 1) (iR1 (aC (eV 0) (aN))) (eT) (eTup (aC (eNeg (eK (.int 1))) (aC (eO (eV 1)) (aN))))) (aN))) (aN))))
noncomputable def h_p_still : List D → R D := runF 2 b_p_still
/- slots of followed: 0 one, 1 other, 2 thing, 3 behind_it, 4 seen, 5 way, 6 room -/
noncomputable def b_p_followed : SF :=
  sSeq (sSet 4 (eD0)) <|
  sSeq (sWhl (eC .notN (eV 2) (eK (.non)))
    (sSeq (sUnp (.many [5, 6]) (eV 2)) <|
    sSeq (sIf (eC .eq (eV 3) (eC .eq (eV 5) (eK (.int 1))))
      (sRetV 2)
      (sSkip)) <|
    sSeq (sIf (eC .mem (eTup (aC (eO (eV 3)) (aC (eO (eV 6)) (aN)))) (eV 4))
      (sRet (eK (.non)))
      (sSkip)) <|
    sSeq (sPutK 4 (eTup (aC (eO (eV 3)) (aC (eO (eV 6)) (aN)))) (eK (.bl true))) <|
    sSeq (sIf (eV 3)
      (sSet 2 (eO (eIx (eIx (eV 0) (eK (.int 1))) (eV 6))))
      (sSet 2 (eO (eIx (eIx (eV 1) (eK (.int 0))) (eV 6))))) <|
    sSet 3 (eNot (eV 3)))) <|
  sRet (eK (.non))
noncomputable def h_p_followed : List D → R D := runF 7 b_p_followed
/- slots of behind: 0 one, 1 other, 2 fore, 3 aft, 4 thing -/
noncomputable def b_p_behind : SF :=
  sSeq (sSet 2 (eComp [4] (.one 4) (iSeq' (eIx (eV 0) (eK (.int 0)))) (eT) (eF h_p_followed (aC (eV 0) (aC (eV 1) (aC (eV 4) (aC (eK (.bl false)) (aN)))))))) <|
  sSeq (sSet 3 (eComp [4] (.one 4) (iSeq' (eIx (eV 1) (eK (.int 1)))) (eT) (eF h_p_followed (aC (eV 0) (aC (eV 1) (aC (eV 4) (aC (eK (.bl true)) (aN)))))))) <|
  sRet (eTup (aC (eBi .tuple (aC (eV 2) (aN))) (aC (eBi .tuple (aC (eV 3) (aN))) (aN))))
noncomputable def h_p_behind : List D → R D := runF 5 b_p_behind
/- slots of _law_whole: 0 _law_found -/
noncomputable def b_l_whole : SF :=
  sRet (eO (eAnd (eIsi .int (eV 0)) (eNot (eIsi .bool (eV 0)))))
noncomputable def h_l_whole : List D → R D := runF 1 b_l_whole
/- slots of _law_is_thing: 0 _law_found, 1 _law_number -/
noncomputable def b_l_is_thing : SF :=
  sSeq (sIf (eC .isN (eV 0) (eK (.non)))
    (sRet (eK (.bl true)))
    (sSkip)) <|
  sRet (eO (eAnd (eIsi .tuple (eV 0)) (eAnd (eC .eq (eBi .len (aC (eV 0) (aN))) (eK (.int 2))) (eBi .all (aC (eComp [1] (.one 1) (iSeq' (eV 0)) (eT) (eF h_l_whole (aC (eV 1) (aN)))) (aN))))))
noncomputable def h_l_is_thing : List D → R D := runF 2 b_l_is_thing
/- slots of _law_is_table: 0 _law_found, 1 _law_due, 2 _law_things, 3 _law_thing -/
noncomputable def b_l_is_table : SF :=
  sSeq (sIf (eOr (eNot (eIsi .tuple (eV 0))) (eOr (eC .ne (eBi .len (aC (eV 0) (aN))) (eK (.int 2))) (eC .ne (eV 0) (eV 1))))
    (sRet (eK (.bl false)))
    (sSkip)) <|
  sSeq (sFor (.one 2) (iSeq' (eO (eV 0)))
    (sIf (eOr (eNot (eIsi .tuple (eV 2))) (eNot (eBi .all (aC (eComp [3] (.one 3) (iSeq' (eV 2)) (eT) (eF h_l_is_thing (aC (eV 3) (aN)))) (aN)))))
      (sRet (eK (.bl false)))
      (sSkip))) <|
  sRet (eK (.bl true))
noncomputable def h_l_is_table : List D → R D := runF 4 b_l_is_table
/- slots of _law_cell: 0 _law_script, 1 _law_k, 2 _law_cell_here, 3 _law_mixed -/
noncomputable def b_l_cell : SF :=
  sSeq (sSet 2 (eK (.int 0))) <|
  sSeq (sIf (eC .gt (eBi .len (aC (eV 0) (aN))) (eK (.int 0)))
    (sSet 2 (eO (eIx (eV 0) (eB .mod (eV 1) (eBi .len (aC (eV 0) (aN)))))))
    (sSkip)) <|
  sSeq (sSet 3 (eB .mod (eB .mul (eB .add (eB .add (eB .mod (eV 2) (eK (.int 2147483647))) (eB .mul (eK (.int 7919)) (eV 1))) (eK (.int 1))) (eK (.int 48271))) (eK (.int 2147483647)))) <|
  sRet (eB .add (eB .mul (eB .fdiv (eV 2) (eK (.int 2147483647))) (eK (.int 2147483659))) (eB .mod (eB .add (eB .mul (eV 3) (eK (.int 69621))) (eB .mul (eK (.int 104729)) (eV 1))) (eK (.int 2147483659))))
noncomputable def h_l_cell : List D → R D := runF 4 b_l_cell
/- slots of _law_any_table: 0 _law_script, 1 _law_at, 2 _law_rooms, 3 _law_digits, 4 _law_number, 5 _law_parts, 6 _law_side, 7 _law_things, 8 _law_room, 9 _law_kind, 10 _law_thing -/
noncomputable def b_l_any_table : SF :=
  sSeq (sSet 3 (eO (eAnd (eC .lt (eV 1) (eBi .len (aC (eV 0) (aN)))) (eC .eq (eB .mod (eIx (eV 0) (eK (.int 0))) (eK (.int 2))) (eK (.int 1)))))) <|
  sSeq (sSet 4 (eB .mod (eF h_l_cell (aC (eV 0) (aC (eV 1) (aN)))) (eK (.int 2147483647)))) <|
  sSeq (sIf (eV 3)
    (sSet 4 (eO (eIx (eV 0) (eV 1))))
    (sSkip)) <|
  sSeq (sSet 5 (eLst (aN))) <|
  sSeq (sFor (.one 6) (iR1 (aC (eK (.int 2)) (aN)))
    (sSeq (sSet 7 (eLst (aN))) <|
    sSeq (sFor (.one 8) (iR1 (aC (eV 2) (aN)))
      (sSeq (sIf (eNot (eV 3))
        (sSet 4 (eB .mod (eB .add (eB .mul (eV 4) (eK (.int 48271))) (eK (.int 7919))) (eK (.int 2147483647))))
        (sSkip)) <|
      sSeq (sSet 9 (eB .mod (eB .fdiv (eV 4) (eIx (eLst (aC (eK (.int 64)) (aC (eK (.int 1)) (aN)))) (eBi .int (aC (eV 3) (aN))))) (eB .add (eB .mul (eK (.int 2)) (eV 2)) (eK (.int 1))))) <|
      sSeq (sSet 10 (eK (.non))) <|
      sSeq (sIf (eC .lt (eV 9) (eB .mul (eK (.int 2)) (eV 2)))
        (sSet 10 (eTup (aC (eO (eIx (eLst (aC (eK (.int 1)) (aC (eNeg (eK (.int 1))) (aN)))) (eB .mod (eV 9) (eK (.int 2))))) (aC (eB .fdiv (eV 9) (eK (.int 2))) (aN)))))
        (sSkip)) <|
      sSeq (sApp 7 (eO (eV 10))) <|
      sIf (eV 3)
        (sSet 4 (eB .fdiv (eV 4) (eB .add (eB .mul (eK (.int 2)) (eV 2)) (eK (.int 1)))))
        (sSkip))) <|
    sApp 5 (eBi .tuple (aC (eV 7) (aN))))) <|
  sRet (eTup (aC (eO (eIx (eV 5) (eK (.int 0)))) (aC (eO (eIx (eV 5) (eK (.int 1)))) (aN))))
noncomputable def h_l_any_table : List D → R D := runF 11 b_l_any_table
/- slots of _law_out: 0 _law_tables, 1 _law_at, 2 _law_way, 3 _law_room, 4 _law_met, 5 _law_thing -/
noncomputable def b_l_out : SF :=
  sSeq (sSet 4 (eD0)) <|
  sSeq (sWhl (eCC .le .lt (eK (.int 0)) (eV 1) (eBi .len (aC (eV 0) (aN))))
    (sSeq (sIf (eC .mem (eTup (aC (eO (eV 1)) (aC (eO (eV 2)) (aC (eO (eV 3)) (aN))))) (eV 4))
      (sRet (eK (.non)))
      (sSkip)) <|
    sSeq (sPutK 4 (eTup (aC (eO (eV 1)) (aC (eO (eV 2)) (aC (eO (eV 3)) (aN))))) (eK (.bl true))) <|
    sSeq (sSet 5 (eO (eIx (eIx (eIx (eV 0) (eV 1)) (eBi .int (aC (eC .lt (eV 2) (eK (.int 0))) (aN)))) (eV 3)))) <|
    sSeq (sIf (eC .isN (eV 5) (eK (.non)))
      (sRet (eK (.non)))
      (sSkip)) <|
    sSeq (sUnp (.many [2, 3]) (eV 5)) <|
    sSet 1 (eB .add (eV 1) (eV 2)))) <|
  sRet (eTup (aC (eO (eV 2)) (aC (eO (eV 3)) (aN))))
noncomputable def h_l_out : List D → R D := runF 6 b_l_out
/- slots of _law_boxes: 0 _law_tables, 1 _law_rooms, 2 _law_fore, 3 _law_aft, 4 _law_room -/
noncomputable def b_l_boxes : SF :=
  sSeq (sSet 2 (eComp [4] (.one 4) (iR1 (aC (eV 1) (aN))) (eT) (eF h_l_out (aC (eV 0) (aC (eK (.int 0)) (aC (eK (.int 1)) (aC (eV 4) (aN)))))))) <|
  sSeq (sSet 3 (eComp [4] (.one 4) (iR1 (aC (eV 1) (aN))) (eT) (eF h_l_out (aC (eV 0) (aC (eB .sub (eBi .len (aC (eV 0) (aN))) (eK (.int 1))) (aC (eNeg (eK (.int 1))) (aC (eV 4) (aN)))))))) <|
  sRet (eTup (aC (eBi .tuple (aC (eV 2) (aN))) (aC (eBi .tuple (aC (eV 3) (aN))) (aN))))
noncomputable def h_l_boxes : List D → R D := runF 5 b_l_boxes
/- slots of law: 0 _law_script, 1 _law_rooms, 2 _law_many, 3 _law_tables, 4 _law_due, 5 _law_left, 6 _law_turn, 7 _law_same, 8 _law_at, 9 _law_made, 10 _law_k -/
noncomputable def b_p_law : SF :=
  sSeq (sSet 1 (eB .add (eK (.int 1)) (eB .mod (eF h_l_cell (aC (eV 0) (aC (eK (.int 0)) (aN)))) (eK (.int 5))))) <|
  sSeq (sSet 2 (eBi .max (aC (eK (.int 1)) (aC (eBi .min (aC (eK (.int 60)) (aC (eB .sub (eBi .len (aC (eV 0) (aN))) (eK (.int 2))) (aN)))) (aN))))) <|
  sSeq (sSet 3 (eComp [10] (.one 10) (iR1 (aC (eV 2) (aN))) (eT) (eF h_l_any_table (aC (eV 0) (aC (eB .add (eK (.int 2)) (eV 10)) (aC (eV 1) (aN))))))) <|
  sSeq (sSet 4 (eF h_l_boxes (aC (eV 3) (aC (eV 1) (aN))))) <|
  sSeq (sSet 5 (eBi .list (aC (eV 3) (aN)))) <|
  sSeq (sSet 6 (eB .mod (eF h_l_cell (aC (eV 0) (aC (eK (.int 1)) (aN)))) (eK (.int 2147483647)))) <|
  sSeq (sWhl (eC .gt (eBi .len (aC (eV 5) (aN))) (eK (.int 1)))
    (sSeq (sSet 6 (eB .mod (eB .add (eB .mul (eV 6) (eK (.int 48271))) (eK (.int 7919))) (eK (.int 2147483647)))) <|
    sSeq (sSet 8 (eB .mod (eB .fdiv (eV 6) (eK (.int 64))) (eB .sub (eBi .len (aC (eV 5) (aN))) (eK (.int 1))))) <|
    sSeq (sSet 9 (eF h_p_behind (aC (eIx (eV 5) (eV 8)) (aC (eIx (eV 5) (eB .add (eV 8) (eK (.int 1)))) (aN))))) <|
    sSeq (sIf (eNot (eF h_l_is_table (aC (eV 9) (aC (eF h_l_boxes (aC (eSl (eV 5) false (eV 8) false (eB .add (eV 8) (eK (.int 2)))) (aC (eV 1) (aN)))) (aN)))))
      (sRet (eK (.bl false)))
      (sSkip)) <|
    sFz 9 <| sSet 5 (eB .add (eB .add (eSl (eV 5) true (eK .non) false (eV 8)) (eLst (aC (eO (eV 9)) (aN)))) (eSl (eV 5) false (eB .add (eV 8) (eK (.int 2))) true (eK .non))))) <|
  sSeq (sIf (eNot (eF h_l_is_table (aC (eIx (eV 5) (eK (.int 0))) (aC (eV 4) (aN)))))
    (sRet (eK (.bl false)))
    (sSkip)) <|
  sSeq (sSet 7 (eF h_p_still (aC (eV 1) (aN)))) <|
  sSeq (sIf (eOr (eC .ne (eF h_p_behind (aC (eV 7) (aC (eIx (eV 5) (eK (.int 0))) (aN)))) (eV 4)) (eC .ne (eF h_p_behind (aC (eIx (eV 5) (eK (.int 0))) (aC (eV 7) (aN)))) (eV 4)))
    (sRet (eK (.bl false)))
    (sSkip)) <|
  sRet (eC .eq (eV 3) (eComp [10] (.one 10) (iR1 (aC (eV 2) (aN))) (eT) (eF h_l_any_table (aC (eV 0) (aC (eB .add (eK (.int 2)) (eV 10)) (aC (eV 1) (aN)))))))
noncomputable def h_p_law : List D → R D := runF 11 b_p_law
section
variable {P : Program} {w : World} {K : PySem.W.Frag} {mg : Str → Option Value} {base : Heap} {c : Nat → Option (Addr × List Str)}
theorem sc_p_still : FnScope ["rooms", "room"] ["rooms"] (defScope st_p_still) := ⟨rfl, rfl, rfl, by decide +kernel, rfl, by decide +kernel, by decide +kernel⟩
theorem ok_p_still (T : Tx K mg) : DefOk P w K mg base ⟨P, w, K, c⟩ 1 "still" ["rooms"] 1 h_p_still :=
  di_def _ T.d_p_still sc_p_still 1 rfl 2 rfl b_p_still fun f cdv A outer s H E hr tk hp => by
  have hu := hu70 hr
  have nd := sc_p_still.nd
  exact ss_one (t_ret (z_tup (z_aO (z_tuple ⟨rfl, rfl, rfl⟩ (z_aC (z_comp [("room", 1)] nd (i_r1 (z_aC (z_v 0) (z_aN)) T.b_range) (fun _ _ _ _ _ => g_one 1 nd) (fun _ _ _ _ _ => sts_nil) (fun _ _ _ _ _ => z_tup (z_aO (z_i) (z_aO (z_o (z_v 1)) (z_aN))))) (z_aN)) T.b_tuple) (z_aO (z_tuple ⟨rfl, rfl, rfl⟩ (z_aC (z_comp [("room", 1)] nd (i_r1 (z_aC (z_v 0) (z_aN)) T.b_range) (fun _ _ _ _ _ => g_one 1 nd) (fun _ _ _ _ _ => sts_nil) (fun _ _ _ _ _ => z_tup (z_aO (z_neg (z_i)) (z_aO (z_o (z_v 1)) (z_aN))))) (z_aN)) T.b_tuple) (z_aN)))))
theorem sc_p_followed : FnScope ["one", "other", "thing", "behind_it", "seen", "way", "room"] ["one", "other", "thing", "behind_it"] (defScope st_p_followed) := ⟨rfl, rfl, rfl, by decide +kernel, rfl, by decide +kernel, by decide +kernel⟩
theorem ok_p_followed (T : Tx K mg) : DefOk P w K mg base ⟨P, w, K, c⟩ 1 "followed" ["one", "other", "thing", "behind_it"] 4 h_p_followed :=
  di_def _ T.d_p_followed sc_p_followed 4 rfl 7 rfl b_p_followed fun f cdv A outer s H E hr tk hp => by
  have hu := hu70 hr
  have nd := sc_p_followed.nd
  exact ss_cons (t_set 4 nd (z_d0)) <|
  ss_cons (t_whl hp (y_ntn (z_v 2) (z_non))
    (ss_cons (t_unp (z_v 2) (g_many ⟨rfl, rfl, rfl⟩ (g_cons (g_one 5 nd) (g_cons (g_one 6 nd) (g_nil))))) <|
    ss_cons (t_if (y_eq hu ⟨rfl, rfl, rfl⟩ (z_v 3) (z_eq hu ⟨rfl, rfl, rfl⟩ (z_v 5) (z_i)))
      (ss_one (t_retV 2))
      (ss_nil)) <|
    ss_cons (t_if (y_in hu ⟨rfl, rfl, rfl⟩ (z_tup (z_aO (z_o (z_v 3)) (z_aO (z_o (z_v 6)) (z_aN)))) (z_v 4))
      (ss_one (t_ret (z_non)))
      (ss_nil)) <|
    ss_cons (t_putk 4 hu ⟨rfl, rfl, rfl⟩ (z_b) (z_tup (z_aO (z_o (z_v 3)) (z_aO (z_o (z_v 6)) (z_aN))))) <|
    ss_cons (t_if (y_e (z_v 3))
      (ss_one (t_set 2 nd (z_o (z_ix hu ⟨rfl, rfl, rfl⟩ (z_ix hu ⟨rfl, rfl, rfl⟩ (z_v 0) (z_i)) (z_v 6)))))
      (ss_one (t_set 2 nd (z_o (z_ix hu ⟨rfl, rfl, rfl⟩ (z_ix hu ⟨rfl, rfl, rfl⟩ (z_v 1) (z_i)) (z_v 6)))))) <|
    ss_one (t_set 3 nd (z_not (z_v 3))))) <|
  ss_one (t_ret (z_non))
theorem sc_p_behind : FnScope ["one", "other", "fore", "aft", "thing"] ["one", "other"] (defScope st_p_behind) := ⟨rfl, rfl, rfl, by decide +kernel, rfl, by decide +kernel, by decide +kernel⟩
theorem ok_p_behind (T : Tx K mg) : DefOk P w K mg base ⟨P, w, K, c⟩ 2 "behind" ["one", "other"] 2 h_p_behind :=
  di_def _ T.d_p_behind sc_p_behind 2 rfl 5 rfl b_p_behind fun f cdv A outer s H E hr tk hp => by
  have hu := hu70 hr
  have nd := sc_p_behind.nd
  exact ss_cons (t_lc 2 [("thing", 4)] nd (i_seq ⟨rfl, rfl, rfl⟩ (z_ix hu ⟨rfl, rfl, rfl⟩ (z_v 0) (z_i))) (fun _ _ _ _ _ => g_one 4 nd) (fun _ _ _ _ _ => sts_nil) (fun _ _ _ _ _ => z_call' (ok_p_followed T) (hr.mono (by decide)) takes0 (z_aC (z_v 0) (z_aC (z_v 1) (z_aC (z_v 4) (z_aC (z_b) (z_aN))))) (len_aC (len_aC (len_aC (len_aC (len_aN))))))) <|
  ss_cons (t_lc 3 [("thing", 4)] nd (i_seq ⟨rfl, rfl, rfl⟩ (z_ix hu ⟨rfl, rfl, rfl⟩ (z_v 1) (z_i))) (fun _ _ _ _ _ => g_one 4 nd) (fun _ _ _ _ _ => sts_nil) (fun _ _ _ _ _ => z_call' (ok_p_followed T) (hr.mono (by decide)) takes0 (z_aC (z_v 0) (z_aC (z_v 1) (z_aC (z_v 4) (z_aC (z_b) (z_aN))))) (len_aC (len_aC (len_aC (len_aC (len_aN))))))) <|
  ss_one (t_ret (z_tup (z_aO (z_tuple ⟨rfl, rfl, rfl⟩ (z_aC (z_v 2) (z_aN)) T.b_tuple) (z_aO (z_tuple ⟨rfl, rfl, rfl⟩ (z_aC (z_v 3) (z_aN)) T.b_tuple) (z_aN)))))
theorem sc_l_whole : FnScope ["_law_found"] ["_law_found"] (defScope st_l_whole) := ⟨rfl, rfl, rfl, by decide +kernel, rfl, by decide +kernel, by decide +kernel⟩
theorem ok_l_whole (T : Tx K mg) : DefOk P w K mg base ⟨P, w, K, c⟩ 1 "_law_whole" ["_law_found"] 1 h_l_whole :=
  di_def _ T.d_l_whole sc_l_whole 1 rfl 1 rfl b_l_whole fun f cdv A outer s H E hr tk hp => by
  have hu := hu70 hr
  have nd := sc_l_whole.nd
  exact ss_one (t_ret (z_o (z_and (z_isi ⟨rfl, rfl, rfl⟩ .int (z_v 0) T.b_isinstance T.b_int) (z_one (z_not (z_isi ⟨rfl, rfl, rfl⟩ .bool (z_v 0) T.b_isinstance T.b_bool))))))
theorem sc_l_is_thing : FnScope ["_law_found", "_law_number"] ["_law_found"] (defScope st_l_is_thing) := ⟨rfl, rfl, rfl, by decide +kernel, rfl, by decide +kernel, by decide +kernel⟩
theorem ok_l_is_thing (T : Tx K mg) : DefOk P w K mg base ⟨P, w, K, c⟩ 2 "_law_is_thing" ["_law_found"] 1 h_l_is_thing :=
  di_def _ T.d_l_is_thing sc_l_is_thing 1 rfl 2 rfl b_l_is_thing fun f cdv A outer s H E hr tk hp => by
  have hu := hu70 hr
  have nd := sc_l_is_thing.nd
  exact ss_cons (t_if (y_isn (z_v 0) (z_non))
    (ss_one (t_ret (z_b)))
    (ss_nil)) <|
  ss_one (t_ret (z_o (z_and (z_isi ⟨rfl, rfl, rfl⟩ .tuple (z_v 0) T.b_isinstance T.b_tuple) (z_and (z_eq hu ⟨rfl, rfl, rfl⟩ (z_len ⟨rfl, rfl, rfl⟩ (z_aC (z_v 0) (z_aN)) T.b_len) (z_i)) (z_one (z_all rfl ⟨rfl, rfl, rfl⟩ (z_aC (z_comp [("_law_number", 1)] nd (i_seq ⟨rfl, rfl, rfl⟩ (z_v 0)) (fun _ _ _ _ _ => g_one 1 nd) (fun _ _ _ _ _ => sts_nil) (fun _ _ _ _ _ => z_call' (ok_l_whole T) (hr.mono (by decide)) takes0 (z_aC (z_v 1) (z_aN)) (len_aC (len_aN)))) (z_aN)) T.b_all))))))
theorem sc_l_is_table : FnScope ["_law_found", "_law_due", "_law_things", "_law_thing"] ["_law_found", "_law_due"] (defScope st_l_is_table) := ⟨rfl, rfl, rfl, by decide +kernel, rfl, by decide +kernel, by decide +kernel⟩
theorem ok_l_is_table (T : Tx K mg) : DefOk P w K mg base ⟨P, w, K, c⟩ 3 "_law_is_table" ["_law_found", "_law_due"] 2 h_l_is_table :=
  di_def _ T.d_l_is_table sc_l_is_table 2 rfl 4 rfl b_l_is_table fun f cdv A outer s H E hr tk hp => by
  have hu := hu70 hr
  have nd := sc_l_is_table.nd
  exact ss_cons (t_if (y_w (w_or (y_not (y_e (z_isi ⟨rfl, rfl, rfl⟩ .tuple (z_v 0) T.b_isinstance T.b_tuple))) (w_or (y_ne hu ⟨rfl, rfl, rfl⟩ (z_len ⟨rfl, rfl, rfl⟩ (z_aC (z_v 0) (z_aN)) T.b_len) (z_i)) (w_or1 (y_ne hu ⟨rfl, rfl, rfl⟩ (z_v 0) (z_v 1))))))
    (ss_one (t_ret (z_b)))
    (ss_nil)) <|
  ss_cons (t_for hp (i_seq ⟨rfl, rfl, rfl⟩ (z_o (z_v 0))) (g_one 2 nd)
    (ss_one (t_if (y_w (w_or (y_not (y_e (z_isi ⟨rfl, rfl, rfl⟩ .tuple (z_v 2) T.b_isinstance T.b_tuple))) (w_or1 (y_not (y_e (z_all rfl ⟨rfl, rfl, rfl⟩ (z_aC (z_comp [("_law_thing", 3)] nd (i_seq ⟨rfl, rfl, rfl⟩ (z_v 2)) (fun _ _ _ _ _ => g_one 3 nd) (fun _ _ _ _ _ => sts_nil) (fun _ _ _ _ _ => z_call' (ok_l_is_thing T) (hr.mono (by decide)) takes0 (z_aC (z_v 3) (z_aN)) (len_aC (len_aN)))) (z_aN)) T.b_all))))))
      (ss_one (t_ret (z_b)))
      (ss_nil)))) <|
  ss_one (t_ret (z_b))
theorem sc_l_cell : FnScope ["_law_script", "_law_k", "_law_cell_here", "_law_mixed"] ["_law_script", "_law_k"] (defScope st_l_cell) := ⟨rfl, rfl, rfl, by decide +kernel, rfl, by decide +kernel, by decide +kernel⟩
theorem ok_l_cell (T : Tx K mg) : DefOk P w K mg base ⟨P, w, K, c⟩ 1 "_law_cell" ["_law_script", "_law_k"] 2 h_l_cell :=
  di_def _ T.d_l_cell sc_l_cell 2 rfl 4 rfl b_l_cell fun f cdv A outer s H E hr tk hp => by
  have hu := hu70 hr
  have nd := sc_l_cell.nd
  exact ss_cons (t_set 2 nd (z_i)) <|
  ss_cons (t_if (y_gt (z_len ⟨rfl, rfl, rfl⟩ (z_aC (z_v 0) (z_aN)) T.b_len) (z_i))
    (ss_one (t_set 2 nd (z_o (z_ix hu ⟨rfl, rfl, rfl⟩ (z_v 0) (z_mod (z_v 1) (z_len ⟨rfl, rfl, rfl⟩ (z_aC (z_v 0) (z_aN)) T.b_len))))))
    (ss_nil)) <|
  ss_cons (t_set 3 nd (z_mod (z_mul (z_add ⟨rfl, rfl, rfl⟩ (z_add ⟨rfl, rfl, rfl⟩ (z_mod (z_v 2) (z_i)) (z_mul (z_i) (z_v 1))) (z_i)) (z_i)) (z_i))) <|
  ss_one (t_ret (z_add ⟨rfl, rfl, rfl⟩ (z_mul (z_fdiv (z_v 2) (z_i)) (z_i)) (z_mod (z_add ⟨rfl, rfl, rfl⟩ (z_mul (z_v 3) (z_i)) (z_mul (z_i) (z_v 1))) (z_i))))
theorem sc_l_any_table : FnScope ["_law_script", "_law_at", "_law_rooms", "_law_digits", "_law_number", "_law_parts", "_law_side", "_law_things", "_law_room", "_law_kind", "_law_thing"] ["_law_script", "_law_at", "_law_rooms"] (defScope st_l_any_table) := ⟨rfl, rfl, rfl, by decide +kernel, rfl, by decide +kernel, by decide +kernel⟩
theorem ok_l_any_table (T : Tx K mg) : DefOk P w K mg base ⟨P, w, K, c⟩ 2 "_law_any_table" ["_law_script", "_law_at", "_law_rooms"] 3 h_l_any_table :=
  di_def _ T.d_l_any_table sc_l_any_table 3 rfl 11 rfl b_l_any_table fun f cdv A outer s H E hr tk hp => by
  have hu := hu70 hr
  have nd := sc_l_any_table.nd
  exact ss_cons (t_set 3 nd (z_o (z_and (z_lt (z_v 1) (z_len ⟨rfl, rfl, rfl⟩ (z_aC (z_v 0) (z_aN)) T.b_len)) (z_one (z_eq hu ⟨rfl, rfl, rfl⟩ (z_mod (z_ix hu ⟨rfl, rfl, rfl⟩ (z_v 0) (z_i)) (z_i)) (z_i)))))) <|
  ss_cons (t_set 4 nd (z_mod (z_call' (ok_l_cell T) (hr.mono (by decide)) tk (z_aC (z_v 0) (z_aC (z_v 1) (z_aN))) (len_aC (len_aC (len_aN)))) (z_i))) <|
  ss_cons (t_if (y_e (z_v 3))
    (ss_one (t_set 4 nd (z_o (z_ix hu ⟨rfl, rfl, rfl⟩ (z_v 0) (z_v 1)))))
    (ss_nil)) <|
  ss_cons (t_set 5 nd (z_lst (z_aN))) <|
  ss_cons (t_for hp (i_r1 (z_aC (z_i) (z_aN)) T.b_range) (g_one 6 nd)
    (ss_cons (t_set 7 nd (z_lst (z_aN))) <|
    ss_cons (t_for hp (i_r1 (z_aC (z_v 2) (z_aN)) T.b_range) (g_one 8 nd)
      (ss_cons (t_if (y_not (y_e (z_v 3)))
        (ss_one (t_set 4 nd (z_mod (z_add ⟨rfl, rfl, rfl⟩ (z_mul (z_v 4) (z_i)) (z_i)) (z_i))))
        (ss_nil)) <|
      ss_cons (t_set 9 nd (z_mod (z_fdiv (z_v 4) (z_ix hu ⟨rfl, rfl, rfl⟩ (z_lst (z_aO (z_i) (z_aO (z_i) (z_aN)))) (z_int (z_aC (z_v 3) (z_aN)) T.b_int))) (z_add ⟨rfl, rfl, rfl⟩ (z_mul (z_i) (z_v 2)) (z_i)))) <|
      ss_cons (t_set 10 nd (z_non)) <|
      ss_cons (t_if (y_lt (z_v 9) (z_mul (z_i) (z_v 2)))
        (ss_one (t_set 10 nd (z_tup (z_aO (z_o (z_ix hu ⟨rfl, rfl, rfl⟩ (z_lst (z_aO (z_i) (z_aO (z_neg (z_i)) (z_aN)))) (z_mod (z_v 9) (z_i)))) (z_aO (z_fdiv (z_v 9) (z_i)) (z_aN))))))
        (ss_nil)) <|
      ss_cons (t_app 7 ⟨rfl, rfl, rfl⟩ (z_o (z_v 10))) <|
      ss_one (t_if (y_e (z_v 3))
        (ss_one (t_set 4 nd (z_fdiv (z_v 4) (z_add ⟨rfl, rfl, rfl⟩ (z_mul (z_i) (z_v 2)) (z_i)))))
        (ss_nil)))) <|
    ss_one (t_app 5 ⟨rfl, rfl, rfl⟩ (z_tuple ⟨rfl, rfl, rfl⟩ (z_aC (z_v 7) (z_aN)) T.b_tuple)))) <|
  ss_one (t_ret (z_tup (z_aO (z_o (z_ix hu ⟨rfl, rfl, rfl⟩ (z_v 5) (z_i))) (z_aO (z_o (z_ix hu ⟨rfl, rfl, rfl⟩ (z_v 5) (z_i))) (z_aN)))))
theorem sc_l_out : FnScope ["_law_tables", "_law_at", "_law_way", "_law_room", "_law_met", "_law_thing"] ["_law_tables", "_law_at", "_law_way", "_law_room"] (defScope st_l_out) := ⟨rfl, rfl, rfl, by decide +kernel, rfl, by decide +kernel, by decide +kernel⟩
theorem ok_l_out (T : Tx K mg) : DefOk P w K mg base ⟨P, w, K, c⟩ 1 "_law_out" ["_law_tables", "_law_at", "_law_way", "_law_room"] 4 h_l_out :=
  di_def _ T.d_l_out sc_l_out 4 rfl 6 rfl b_l_out fun f cdv A outer s H E hr tk hp => by
  have hu := hu70 hr
  have nd := sc_l_out.nd
  exact ss_cons (t_set 4 nd (z_d0)) <|
  ss_cons (t_whl hp (y_lelt (z_i) (z_v 1) (z_len ⟨rfl, rfl, rfl⟩ (z_aC (z_v 0) (z_aN)) T.b_len))
    (ss_cons (t_if (y_in hu ⟨rfl, rfl, rfl⟩ (z_tup (z_aO (z_o (z_v 1)) (z_aO (z_o (z_v 2)) (z_aO (z_o (z_v 3)) (z_aN))))) (z_v 4))
      (ss_one (t_ret (z_non)))
      (ss_nil)) <|
    ss_cons (t_putk 4 hu ⟨rfl, rfl, rfl⟩ (z_b) (z_tup (z_aO (z_o (z_v 1)) (z_aO (z_o (z_v 2)) (z_aO (z_o (z_v 3)) (z_aN)))))) <|
    ss_cons (t_set 5 nd (z_o (z_ix hu ⟨rfl, rfl, rfl⟩ (z_ix hu ⟨rfl, rfl, rfl⟩ (z_ix hu ⟨rfl, rfl, rfl⟩ (z_v 0) (z_v 1)) (z_int (z_aC (z_lt (z_v 2) (z_i)) (z_aN)) T.b_int)) (z_v 3)))) <|
    ss_cons (t_if (y_isn (z_v 5) (z_non))
      (ss_one (t_ret (z_non)))
      (ss_nil)) <|
    ss_cons (t_unp (z_v 5) (g_many ⟨rfl, rfl, rfl⟩ (g_cons (g_one 2 nd) (g_cons (g_one 3 nd) (g_nil))))) <|
    ss_one (t_set 1 nd (z_add ⟨rfl, rfl, rfl⟩ (z_v 1) (z_v 2))))) <|
  ss_one (t_ret (z_tup (z_aO (z_o (z_v 2)) (z_aO (z_o (z_v 3)) (z_aN)))))
theorem sc_l_boxes : FnScope ["_law_tables", "_law_rooms", "_law_fore", "_law_aft", "_law_room"] ["_law_tables", "_law_rooms"] (defScope st_l_boxes) := ⟨rfl, rfl, rfl, by decide +kernel, rfl, by decide +kernel, by decide +kernel⟩
theorem ok_l_boxes (T : Tx K mg) : DefOk P w K mg base ⟨P, w, K, c⟩ 2 "_law_boxes" ["_law_tables", "_law_rooms"] 2 h_l_boxes :=
  di_def _ T.d_l_boxes sc_l_boxes 2 rfl 5 rfl b_l_boxes fun f cdv A outer s H E hr tk hp => by
  have hu := hu70 hr
  have nd := sc_l_boxes.nd
  exact ss_cons (t_lc 2 [("_law_room", 4)] nd (i_r1 (z_aC (z_v 1) (z_aN)) T.b_range) (fun _ _ _ _ _ => g_one 4 nd) (fun _ _ _ _ _ => sts_nil) (fun _ _ _ _ _ => z_call' (ok_l_out T) (hr.mono (by decide)) takes0 (z_aC (z_v 0) (z_aC (z_i) (z_aC (z_i) (z_aC (z_v 4) (z_aN))))) (len_aC (len_aC (len_aC (len_aC (len_aN))))))) <|
  ss_cons (t_lc 3 [("_law_room", 4)] nd (i_r1 (z_aC (z_v 1) (z_aN)) T.b_range) (fun _ _ _ _ _ => g_one 4 nd) (fun _ _ _ _ _ => sts_nil) (fun _ _ _ _ _ => z_call' (ok_l_out T) (hr.mono (by decide)) takes0 (z_aC (z_v 0) (z_aC (z_sub (z_len ⟨rfl, rfl, rfl⟩ (z_aC (z_v 0) (z_aN)) T.b_len) (z_i)) (z_aC (z_neg (z_i)) (z_aC (z_v 4) (z_aN))))) (len_aC (len_aC (len_aC (len_aC (len_aN))))))) <|
  ss_one (t_ret (z_tup (z_aO (z_tuple ⟨rfl, rfl, rfl⟩ (z_aC (z_v 2) (z_aN)) T.b_tuple) (z_aO (z_tuple ⟨rfl, rfl, rfl⟩ (z_aC (z_v 3) (z_aN)) T.b_tuple) (z_aN)))))
theorem sc_p_law : FnScope ["_law_script", "_law_rooms", "_law_many", "_law_tables", "_law_due", "_law_left", "_law_turn", "_law_same", "_law_at", "_law_made", "_law_k"] ["_law_script"] (defScope st_p_law) := ⟨rfl, rfl, rfl, by decide +kernel, rfl, by decide +kernel, by decide +kernel⟩
theorem ok_p_law (T : Tx K mg) {f : Addr} {fd : FuncData} (F : Fun K "law" "law" st_p_law f fd) : FnOk P w K mg base (L2.CX P w) 4 f fd ["_law_script"] (spI ⟨P, w, K, c⟩ 1 h_p_law) :=
  di_fn _ F sc_p_law 1 rfl 11 rfl b_p_law fun cdv A outer s H E hr tk hp => by
  have hu := hu70 hr
  have nd := sc_p_law.nd
  exact ss_cons (t_set 1 nd (z_add ⟨rfl, rfl, rfl⟩ (z_i) (z_mod (z_call' (ok_l_cell T) (hr.mono (by decide)) tk (z_aC (z_v 0) (z_aC (z_i) (z_aN))) (len_aC (len_aC (len_aN)))) (z_i)))) <|
  ss_cons (t_set 2 nd (z_max rfl (z_aC (z_i) (z_aC (z_min rfl (z_aC (z_i) (z_aC (z_sub (z_len ⟨rfl, rfl, rfl⟩ (z_aC (z_v 0) (z_aN)) T.b_len) (z_i)) (z_aN))) T.b_min) (z_aN))) T.b_max)) <|
  ss_cons (t_lc 3 [("_law_k", 10)] nd (i_r1 (z_aC (z_v 2) (z_aN)) T.b_range) (fun _ _ _ _ _ => g_one 10 nd) (fun _ _ _ _ _ => sts_nil) (fun _ _ _ _ _ => z_call' (ok_l_any_table T) (hr.mono (by decide)) takes0 (z_aC (z_v 0) (z_aC (z_add ⟨rfl, rfl, rfl⟩ (z_i) (z_v 10)) (z_aC (z_v 1) (z_aN)))) (len_aC (len_aC (len_aC (len_aN)))))) <|
  ss_cons (t_set 4 nd (z_call' (ok_l_boxes T) (hr.mono (by decide)) tk (z_aC (z_v 3) (z_aC (z_v 1) (z_aN))) (len_aC (len_aC (len_aN))))) <|
  ss_cons (t_set 5 nd (z_list ⟨rfl, rfl, rfl⟩ (z_aC (z_v 3) (z_aN)) T.b_list)) <|
  ss_cons (t_set 6 nd (z_mod (z_call' (ok_l_cell T) (hr.mono (by decide)) tk (z_aC (z_v 0) (z_aC (z_i) (z_aN))) (len_aC (len_aC (len_aN)))) (z_i))) <|
  ss_cons (t_whl hp (y_gt (z_len ⟨rfl, rfl, rfl⟩ (z_aC (z_v 5) (z_aN)) T.b_len) (z_i))
    (ss_cons (t_set 6 nd (z_mod (z_add ⟨rfl, rfl, rfl⟩ (z_mul (z_v 6) (z_i)) (z_i)) (z_i))) <|
    ss_cons (t_set 8 nd (z_mod (z_fdiv (z_v 6) (z_i)) (z_sub (z_len ⟨rfl, rfl, rfl⟩ (z_aC (z_v 5) (z_aN)) T.b_len) (z_i)))) <|
    ss_cons (t_set 9 nd (z_call' (ok_p_behind T) (hr.mono (by decide)) tk (z_aC (z_ix hu ⟨rfl, rfl, rfl⟩ (z_v 5) (z_v 8)) (z_aC (z_ix hu ⟨rfl, rfl, rfl⟩ (z_v 5) (z_add ⟨rfl, rfl, rfl⟩ (z_v 8) (z_i))) (z_aN))) (len_aC (len_aC (len_aN))))) <|
    ss_cons (t_if (y_not (y_e (z_call' (ok_l_is_table T) (hr.mono (by decide)) tk (z_aC (z_v 9) (z_aC (z_call' (ok_l_boxes T) (hr.mono (by decide)) tk (z_aC (z_sl ⟨rfl, rfl, rfl⟩ (z_v 5) (z_pe (z_v 8)) (z_pe (z_add ⟨rfl, rfl, rfl⟩ (z_v 8) (z_i)))) (z_aC (z_v 1) (z_aN))) (len_aC (len_aC (len_aN)))) (z_aN))) (len_aC (len_aC (len_aN))))))
      (ss_one (t_ret (z_b)))
      (ss_nil)) <|
    ss_fz (i := 9) <| ss_one (t_set 5 nd (z_add ⟨rfl, rfl, rfl⟩ (z_add ⟨rfl, rfl, rfl⟩ (z_sl ⟨rfl, rfl, rfl⟩ (z_v 5) z_pn (z_pe (z_v 8))) (z_lst (z_aO (z_o (z_v 9)) (z_aN)))) (z_sl ⟨rfl, rfl, rfl⟩ (z_v 5) (z_pe (z_add ⟨rfl, rfl, rfl⟩ (z_v 8) (z_i))) z_pn))))) <|
  ss_cons (t_if (y_not (y_e (z_call' (ok_l_is_table T) (hr.mono (by decide)) tk (z_aC (z_ix hu ⟨rfl, rfl, rfl⟩ (z_v 5) (z_i)) (z_aC (z_v 4) (z_aN))) (len_aC (len_aC (len_aN))))))
    (ss_one (t_ret (z_b)))
    (ss_nil)) <|
  ss_cons (t_set 7 nd (z_call' (ok_p_still T) (hr.mono (by decide)) tk (z_aC (z_v 1) (z_aN)) (len_aC (len_aN)))) <|
  ss_cons (t_if (y_w (w_or (y_ne hu ⟨rfl, rfl, rfl⟩ (z_call' (ok_p_behind T) (hr.mono (by decide)) tk (z_aC (z_v 7) (z_aC (z_ix hu ⟨rfl, rfl, rfl⟩ (z_v 5) (z_i)) (z_aN))) (len_aC (len_aC (len_aN)))) (z_v 4)) (w_or1 (y_ne hu ⟨rfl, rfl, rfl⟩ (z_call' (ok_p_behind T) (hr.mono (by decide)) tk (z_aC (z_ix hu ⟨rfl, rfl, rfl⟩ (z_v 5) (z_i)) (z_aC (z_v 7) (z_aN))) (len_aC (len_aC (len_aN)))) (z_v 4)))))
    (ss_one (t_ret (z_b)))
    (ss_nil)) <|
  ss_one (t_ret (z_eq hu ⟨rfl, rfl, rfl⟩ (z_v 3) (z_comp [("_law_k", 10)] nd (i_r1 (z_aC (z_v 2) (z_aN)) T.b_range) (fun _ _ _ _ _ => g_one 10 nd) (fun _ _ _ _ _ => sts_nil) (fun _ _ _ _ _ => z_call' (ok_l_any_table T) (hr.mono (by decide)) takes0 (z_aC (z_v 0) (z_aC (z_add ⟨rfl, rfl, rfl⟩ (z_i) (z_v 10)) (z_aC (z_v 1) (z_aN)))) (len_aC (len_aC (len_aC (len_aN))))))))
end
theorem all_mk {l : PySem.W.OpenLaw} {w : World} {K : PySem.W.Frag} {h : Heap} {mg : Str → Option Value} {fa : Addr} (X : K.In h) (G : h.Ns mainGlobals mg) (hfa : mg "law" = some (.ref fa))
    (z0 : PySem.W.nsIn K mainGlobals "all" = some none)
    (z1 : PySem.W.nsIn K mainGlobals "bool" = some none)
    (z2 : PySem.W.nsIn K mainGlobals "int" = some none)
    (z3 : PySem.W.nsIn K mainGlobals "isinstance" = some none)
    (z4 : PySem.W.nsIn K mainGlobals "len" = some none)
    (z5 : PySem.W.nsIn K mainGlobals "list" = some none)
    (z6 : PySem.W.nsIn K mainGlobals "max" = some none)
    (z7 : PySem.W.nsIn K mainGlobals "min" = some none)
    (z8 : PySem.W.nsIn K mainGlobals "range" = some none)
    (z9 : PySem.W.nsIn K mainGlobals "tuple" = some none)
    {f0 : Addr} {od0 an0 : Option Addr} {sl0 : Array (Option Value)} {oc0 kV0 dc0 pm0 cd0 ct0 : Value} (a0 : PySem.W.nsIn K mainGlobals "still" = some (some (.ref f0)))
    (l0 : K.lookup f0 = some ⟨oc0, od0, .func (PySem.W.fnOf "still" "still" (defArgs st_p_still) (defBody st_p_still) (defScope st_p_still) .none kV0 dc0 pm0 an0 cd0 ct0), sl0⟩) (c0 : PySem.W.codeIn K cd0 "still" = true) (k0 : PySem.W.keepIn K (.ref f0) = true)
    {f1 : Addr} {od1 an1 : Option Addr} {sl1 : Array (Option Value)} {oc1 kV1 dc1 pm1 cd1 ct1 : Value} (a1 : PySem.W.nsIn K mainGlobals "followed" = some (some (.ref f1)))
    (l1 : K.lookup f1 = some ⟨oc1, od1, .func (PySem.W.fnOf "followed" "followed" (defArgs st_p_followed) (defBody st_p_followed) (defScope st_p_followed) .none kV1 dc1 pm1 an1 cd1 ct1), sl1⟩) (c1 : PySem.W.codeIn K cd1 "followed" = true) (k1 : PySem.W.keepIn K (.ref f1) = true)
    {f2 : Addr} {od2 an2 : Option Addr} {sl2 : Array (Option Value)} {oc2 kV2 dc2 pm2 cd2 ct2 : Value} (a2 : PySem.W.nsIn K mainGlobals "behind" = some (some (.ref f2)))
    (l2 : K.lookup f2 = some ⟨oc2, od2, .func (PySem.W.fnOf "behind" "behind" (defArgs st_p_behind) (defBody st_p_behind) (defScope st_p_behind) .none kV2 dc2 pm2 an2 cd2 ct2), sl2⟩) (c2 : PySem.W.codeIn K cd2 "behind" = true) (k2 : PySem.W.keepIn K (.ref f2) = true)
    {f3 : Addr} {od3 an3 : Option Addr} {sl3 : Array (Option Value)} {oc3 kV3 dc3 pm3 cd3 ct3 : Value} (a3 : PySem.W.nsIn K mainGlobals "_law_whole" = some (some (.ref f3)))
    (l3 : K.lookup f3 = some ⟨oc3, od3, .func (PySem.W.fnOf "_law_whole" "_law_whole" (defArgs st_l_whole) (defBody st_l_whole) (defScope st_l_whole) .none kV3 dc3 pm3 an3 cd3 ct3), sl3⟩) (c3 : PySem.W.codeIn K cd3 "_law_whole" = true) (k3 : PySem.W.keepIn K (.ref f3) = true)
    {f4 : Addr} {od4 an4 : Option Addr} {sl4 : Array (Option Value)} {oc4 kV4 dc4 pm4 cd4 ct4 : Value} (a4 : PySem.W.nsIn K mainGlobals "_law_is_thing" = some (some (.ref f4)))
    (l4 : K.lookup f4 = some ⟨oc4, od4, .func (PySem.W.fnOf "_law_is_thing" "_law_is_thing" (defArgs st_l_is_thing) (defBody st_l_is_thing) (defScope st_l_is_thing) .none kV4 dc4 pm4 an4 cd4 ct4), sl4⟩) (c4 : PySem.W.codeIn K cd4 "_law_is_thing" = true) (k4 : PySem.W.keepIn K (.ref f4) = true)
    {f5 : Addr} {od5 an5 : Option Addr} {sl5 : Array (Option Value)} {oc5 kV5 dc5 pm5 cd5 ct5 : Value} (a5 : PySem.W.nsIn K mainGlobals "_law_is_table" = some (some (.ref f5)))
    (l5 : K.lookup f5 = some ⟨oc5, od5, .func (PySem.W.fnOf "_law_is_table" "_law_is_table" (defArgs st_l_is_table) (defBody st_l_is_table) (defScope st_l_is_table) .none kV5 dc5 pm5 an5 cd5 ct5), sl5⟩) (c5 : PySem.W.codeIn K cd5 "_law_is_table" = true) (k5 : PySem.W.keepIn K (.ref f5) = true)
    {f6 : Addr} {od6 an6 : Option Addr} {sl6 : Array (Option Value)} {oc6 kV6 dc6 pm6 cd6 ct6 : Value} (a6 : PySem.W.nsIn K mainGlobals "_law_cell" = some (some (.ref f6)))
    (l6 : K.lookup f6 = some ⟨oc6, od6, .func (PySem.W.fnOf "_law_cell" "_law_cell" (defArgs st_l_cell) (defBody st_l_cell) (defScope st_l_cell) .none kV6 dc6 pm6 an6 cd6 ct6), sl6⟩) (c6 : PySem.W.codeIn K cd6 "_law_cell" = true) (k6 : PySem.W.keepIn K (.ref f6) = true)
    {f7 : Addr} {od7 an7 : Option Addr} {sl7 : Array (Option Value)} {oc7 kV7 dc7 pm7 cd7 ct7 : Value} (a7 : PySem.W.nsIn K mainGlobals "_law_any_table" = some (some (.ref f7)))
    (l7 : K.lookup f7 = some ⟨oc7, od7, .func (PySem.W.fnOf "_law_any_table" "_law_any_table" (defArgs st_l_any_table) (defBody st_l_any_table) (defScope st_l_any_table) .none kV7 dc7 pm7 an7 cd7 ct7), sl7⟩) (c7 : PySem.W.codeIn K cd7 "_law_any_table" = true) (k7 : PySem.W.keepIn K (.ref f7) = true)
    {f8 : Addr} {od8 an8 : Option Addr} {sl8 : Array (Option Value)} {oc8 kV8 dc8 pm8 cd8 ct8 : Value} (a8 : PySem.W.nsIn K mainGlobals "_law_out" = some (some (.ref f8)))
    (l8 : K.lookup f8 = some ⟨oc8, od8, .func (PySem.W.fnOf "_law_out" "_law_out" (defArgs st_l_out) (defBody st_l_out) (defScope st_l_out) .none kV8 dc8 pm8 an8 cd8 ct8), sl8⟩) (c8 : PySem.W.codeIn K cd8 "_law_out" = true) (k8 : PySem.W.keepIn K (.ref f8) = true)
    {f9 : Addr} {od9 an9 : Option Addr} {sl9 : Array (Option Value)} {oc9 kV9 dc9 pm9 cd9 ct9 : Value} (a9 : PySem.W.nsIn K mainGlobals "_law_boxes" = some (some (.ref f9)))
    (l9 : K.lookup f9 = some ⟨oc9, od9, .func (PySem.W.fnOf "_law_boxes" "_law_boxes" (defArgs st_l_boxes) (defBody st_l_boxes) (defScope st_l_boxes) .none kV9 dc9 pm9 an9 cd9 ct9), sl9⟩) (c9 : PySem.W.codeIn K cd9 "_law_boxes" = true) (k9 : PySem.W.keepIn K (.ref f9) = true)
    {f10 : Addr} {od10 an10 : Option Addr} {sl10 : Array (Option Value)} {oc10 kV10 dc10 pm10 cd10 ct10 : Value} (a10 : PySem.W.nsIn K mainGlobals "law" = some (some (.ref f10)))
    (l10 : K.lookup f10 = some ⟨oc10, od10, .func (PySem.W.fnOf "law" "law" (defArgs st_p_law) (defBody st_p_law) (defScope st_p_law) .none kV10 dc10 pm10 an10 cd10 ct10), sl10⟩) (c10 : PySem.W.codeIn K cd10 "law" = true) (k10 : PySem.W.keepIn K (.ref f10) = true)
    : ∃ fd : FuncData, (∀ (s : Shared) (v : Value), BindsTo s fd ⟨[v], []⟩ [("_law_script", v)]) ∧ ∀ base : Heap, K.In base → base.Ns mainGlobals mg → FnOk l.prog w K mg base (L2.CX l.prog w) 4 fa fd ["_law_script"] (spI ⟨l.prog, w, K, fun _ => none⟩ 1 h_p_law) := by
  have T : Tx K mg := ⟨PySem.W.mg_none_of X G z0, PySem.W.mg_none_of X G z1, PySem.W.mg_none_of X G z2, PySem.W.mg_none_of X G z3, PySem.W.mg_none_of X G z4, PySem.W.mg_none_of X G z5, PySem.W.mg_none_of X G z6, PySem.W.mg_none_of X G z7, PySem.W.mg_none_of X G z8, PySem.W.mg_none_of X G z9, txd_mk X G a0 l0 c0 k0 (fun _ _ _ _ _ _ us hl => match us, hl with | [_], _ => rfl), txd_mk X G a1 l1 c1 k1 (fun _ _ _ _ _ _ us hl => match us, hl with | [_, _, _, _], _ => rfl), txd_mk X G a2 l2 c2 k2 (fun _ _ _ _ _ _ us hl => match us, hl with | [_, _], _ => rfl), txd_mk X G a3 l3 c3 k3 (fun _ _ _ _ _ _ us hl => match us, hl with | [_], _ => rfl), txd_mk X G a4 l4 c4 k4 (fun _ _ _ _ _ _ us hl => match us, hl with | [_], _ => rfl), txd_mk X G a5 l5 c5 k5 (fun _ _ _ _ _ _ us hl => match us, hl with | [_, _], _ => rfl), txd_mk X G a6 l6 c6 k6 (fun _ _ _ _ _ _ us hl => match us, hl with | [_, _], _ => rfl), txd_mk X G a7 l7 c7 k7 (fun _ _ _ _ _ _ us hl => match us, hl with | [_, _, _], _ => rfl), txd_mk X G a8 l8 c8 k8 (fun _ _ _ _ _ _ us hl => match us, hl with | [_, _, _, _], _ => rfl), txd_mk X G a9 l9 c9 k9 (fun _ _ _ _ _ _ us hl => match us, hl with | [_, _], _ => rfl), txd_mk X G a10 l10 c10 k10 (fun _ _ _ _ _ _ us hl => match us, hl with | [_], _ => rfl)⟩
  have e := hfa.symm.trans (PySem.W.mg_of X G a10)
  cases e
  refine ⟨PySem.W.fnOf "law" "law" (defArgs st_p_law) (defBody st_p_law) (defScope st_p_law) .none kV10 dc10 pm10 an10 cd10 ct10, fun s v => .of_eq rfl, fun base _ _ => ?_⟩
  exact ok_p_law T (fun_mk l10 c10 k10)
end DI
/-! the numbers drawn -/
namespace DI
open PySem
theorem cell_ok (ns : List Int) (k : Int) (hk : 0 ≤ k) : ∃ z : Int, h_l_cell [scr ns, .int k] = .ok (.int z) := by
  by_cases e1 : 0 < ns.length
  · obtain ⟨c, e2, _⟩ := atI_ok (xs := ns) (i := k % (ns.length : Int)) (Int.emod_nonneg _ (by omega)) (Int.emod_lt_of_pos _ (by omega))
    exact ⟨(c / 2147483647 * 2147483659 + ((c % 2147483647 + 7919 * k + 1) * 48271 % 2147483647 * 69621 + 104729 * k) % 2147483659), by
      unfold h_l_cell runF b_l_cell scr
      simp [e1, e2, atI_map]⟩
  · have e1 : ns = [] := by cases ns with
      | nil => rfl
      | cons => simp at e1
    subst e1
    obtain ⟨z, hz⟩ : ∃ z : Int, z = 0 := ⟨0, rfl⟩
    exact ⟨(z / 2147483647 * 2147483659 + ((z % 2147483647 + 7919 * k + 1) * 48271 % 2147483647 * 69621 + 104729 * k) % 2147483659), by
      unfold h_l_cell runF b_l_cell scr
      have h0 : (z < 0) = False := by simp; omega
      rw [← hz]
      simp [h0]⟩
end DI
/-! tables drawn -/
namespace DI
open PySem
abbrev Th := Option (Int × Int)
def thD : Th → D
  | none => .non
  | some p => .tup [.int p.1, .int p.2]
abbrev Tab := List Th × List Th
def tabD (t : Tab) : D := .tup [.tup (t.1.map thD), .tup (t.2.map thD)]
def ThOk (R : Nat) : Th → Prop
  | none => True
  | some p => (p.1 = 1 ∨ p.1 = -1) ∧ 0 ≤ p.2 ∧ p.2 < (R : Int)
structure TabOk (R : Nat) (t : Tab) : Prop where
  l1 : t.1.length = R
  l2 : t.2.length = R
  o1 : ∀ x ∈ t.1, ThOk R x
  o2 : ∀ x ∈ t.2, ThOk R x
@[simp] theorem thD_clean (x : Th) : clean (thD x) = true := by cases x <;> rfl
@[simp] theorem thsD_clean (l : List Th) : cleanL (l.map thD) = true := by
  rw [cleanL_all, List.all_map]
  exact List.all_eq_true.mpr fun x _ => thD_clean x
@[simp] theorem tabD_clean (t : Tab) : clean (tabD t) = true := by simp [tabD]
@[simp] theorem tabD_frz (t : Tab) : frz (tabD t) = tabD t := frz_clean _ (tabD_clean t)
@[simp] theorem thD_frz (x : Th) : frz (thD x) = thD x := frz_clean _ (thD_clean x)
section
variable {R : Nat}
def InTh (x0 x1 x3 x5 x6 : Option D) (R : Nat) (j : Nat) (σ : Sl) : Prop :=
  ∃ (n : Int) (ths : List Th) (x8 x9 x10 : Option D), σ = [x0, x1, some (.int R), x3, some (.int n), x5, x6, some (.lst true (ths.map thD)), x8, x9, x10] ∧ ths.length = j ∧ ∀ x ∈ ths, ThOk R x
noncomputable def fTh : SF := (sSeq (sIf (eNot (eV 3))
        (sSet 4 (eB .mod (eB .add (eB .mul (eV 4) (eK (.int 48271))) (eK (.int 7919))) (eK (.int 2147483647))))
        (sSkip)) <|
      sSeq (sSet 9 (eB .mod (eB .fdiv (eV 4) (eIx (eLst (aC (eK (.int 64)) (aC (eK (.int 1)) (aN)))) (eBi .int (aC (eV 3) (aN))))) (eB .add (eB .mul (eK (.int 2)) (eV 2)) (eK (.int 1))))) <|
      sSeq (sSet 10 (eK (.non))) <|
      sSeq (sIf (eC .lt (eV 9) (eB .mul (eK (.int 2)) (eV 2)))
        (sSet 10 (eTup (aC (eO (eIx (eLst (aC (eK (.int 1)) (aC (eNeg (eK (.int 1))) (aN)))) (eB .mod (eV 9) (eK (.int 2))))) (aC (eB .fdiv (eV 9) (eK (.int 2))) (aN)))))
        (sSkip)) <|
      sSeq (sApp 7 (eO (eV 10))) <|
      sIf (eV 3)
        (sSet 4 (eB .fdiv (eV 4) (eB .add (eB .mul (eK (.int 2)) (eV 2)) (eK (.int 1)))))
        (sSkip))
def thZ (R : Nat) (k : Int) : Th := if k < 2 * (R : Int) then some (if k % 2 = 0 then 1 else -1, k / 2) else none
theorem thZ_ok {k : Int} (h : 0 ≤ k) : ThOk R (thZ R k) := by
  unfold thZ
  by_cases hk : k < 2 * (R : Int)
  · rw [if_pos hk]
    refine ⟨?_, by show 0 ≤ k / 2; omega, by show k / 2 < _; omega⟩
    show (if k % 2 = 0 then (1 : Int) else -1) = 1 ∨ (if k % 2 = 0 then (1 : Int) else -1) = -1
    split
    · exact .inl rfl
    · exact .inr rfl
  · rw [if_neg hk]; exact True.intro
theorem th_step (hr : 0 < R) (hr2 : R ≤ 1000) (b : Bool) (n : Int) (ths : List Th) (hl : ths.length < 100000) (x0 x1 x5 x6 x8 x9 x10 : Option D) : ∃ (k n2 : Int), 0 ≤ k ∧
    fTh [x0, x1, some (.int R), some (.bl b), some (.int n), x5, x6, some (.lst true (ths.map thD)), x8, x9, x10] = .nx [x0, x1, some (.int R), some (.bl b), some (.int n2), x5, x6, some (.lst true ((ths ++ [thZ R k]).map thD)), x8, some (.int k), some (thD (thZ R k))] := by
  have big := sizeLine_big
  have p1 : (0 : Int) < 2 * (R : Int) + 1 := by omega
  have p2 : 2 * (R : Int) + 1 < 18446744073709551616 := by omega
  have m2 : binD .mul (.int 2) (.int R) = .ok (.int (2 * (R : Int))) := binD_mulL 2 _ (by omega) (by omega)
  have t64 : L2.atI [D.int 64, D.int 1] 0 = some (.int 64) := rfl
  have t1 : L2.atI [D.int 64, D.int 1] 1 = some (.int 1) := rfl
  have hll : (ths.map thD).length < sizeLine := by rw [List.length_map]; omega
  have tail : ∀ (n k : Int), 0 ≤ k → ∃ n2 : Int, (sSeq (sSet 10 (eK (.non))) <|
      sSeq (sIf (eC .lt (eV 9) (eB .mul (eK (.int 2)) (eV 2)))
        (sSet 10 (eTup (aC (eO (eIx (eLst (aC (eK (.int 1)) (aC (eNeg (eK (.int 1))) (aN)))) (eB .mod (eV 9) (eK (.int 2))))) (aC (eB .fdiv (eV 9) (eK (.int 2))) (aN)))))
        (sSkip)) <|
      sSeq (sApp 7 (eO (eV 10))) <|
      sIf (eV 3)
        (sSet 4 (eB .fdiv (eV 4) (eB .add (eB .mul (eK (.int 2)) (eV 2)) (eK (.int 1)))))
        (sSkip)) [x0, x1, some (.int R), some (.bl b), some (.int n), x5, x6, some (.lst true (ths.map thD)), x8, some (.int k), x10] = .nx [x0, x1, some (.int R), some (.bl b), some (.int n2), x5, x6, some (.lst true ((ths ++ [thZ R k]).map thD)), x8, some (.int k), some (thD (thZ R k))] := by
    intro n k hk
    refine ⟨if b = true then n / (2 * (R : Int) + 1) else n, ?_⟩
    have c1 : sSet 10 (eK (.non)) [x0, x1, some (.int R), some (.bl b), some (.int n), x5, x6, some (.lst true (ths.map thD)), x8, some (.int k), x10] = .nx [x0, x1, some (.int R), some (.bl b), some (.int n), x5, x6, some (.lst true (ths.map thD)), x8, some (.int k), some .non] := rfl
    have c2 : sIf (eC .lt (eV 9) (eB .mul (eK (.int 2)) (eV 2)))
        (sSet 10 (eTup (aC (eO (eIx (eLst (aC (eK (.int 1)) (aC (eNeg (eK (.int 1))) (aN)))) (eB .mod (eV 9) (eK (.int 2))))) (aC (eB .fdiv (eV 9) (eK (.int 2))) (aN)))))
        (sSkip) [x0, x1, some (.int R), some (.bl b), some (.int n), x5, x6, some (.lst true (ths.map thD)), x8, some (.int k), some .non] = .nx [x0, x1, some (.int R), some (.bl b), some (.int n), x5, x6, some (.lst true (ths.map thD)), x8, some (.int k), some (thD (thZ R k))] := by
      generalize ths.map thD = q
      have e : k % 2 = 0 ∨ k % 2 = 1 := by omega
      have s0 : L2.atI [D.int 1, D.int (-1)] 0 = some (.int 1) := rfl
      have s1 : L2.atI [D.int 1, D.int (-1)] 1 = some (.int (-1)) := rfl
      by_cases hk2 : k < 2 * (R : Int)
      · rcases e with e | e
        · simp [m2, hk2, thZ, thD, e, s0]
        · simp [m2, hk2, thZ, thD, e, s1]
      · simp [m2, hk2, thZ, thD]
    rw [sSeq_nx c1, sSeq_nx c2, List.map_append]
    generalize ths.map thD = q at *
    have cl := thD_clean (thZ R k)
    show _ = RS.nx [x0, x1, some (.int R), some (.bl b), some (.int (if b = true then n / (2 * (R : Int) + 1) else n)), x5, x6, some (.lst true (q ++ [thD (thZ R k)])), x8, some (.int k), some (thD (thZ R k))]
    generalize thD (thZ R k) = d at *
    have m3 : binD .fdiv (.int n) (.int (2 * (R : Int) + 1)) = .ok (.int (n / (2 * (R : Int) + 1))) := binD_fdiv _ _ p1 p2
    cases b <;> simp [cl, hll, m2, m3]
  cases b with
  | true =>
    have hk := Int.emod_nonneg n (show 2 * (R : Int) + 1 ≠ 0 by omega)
    obtain ⟨n2, ht⟩ := tail n (n % (2 * (R : Int) + 1)) hk
    refine ⟨n % (2 * (R : Int) + 1), n2, hk, ?_⟩
    unfold fTh
    generalize ths.map thD = q at *
    rw [sSeq_nx (σ' := [x0, x1, some (.int R), some (.bl true), some (.int n), x5, x6, some (.lst true q), x8, x9, x10]) (by rw [sIf_false (by rfl)]; rfl)]
    have m4 : binD .fdiv (.int n) (.int 1) = .ok (.int n) := by rw [binD_fdiv _ _ (by omega) (by omega), Int.ediv_one]
    have m5 : binD .mod (.int n) (.int (2 * (R : Int) + 1)) = .ok (.int (n % (2 * (R : Int) + 1))) := binD_mod _ _ p1
    rw [sSeq_nx (σ' := [x0, x1, some (.int R), some (.bl true), some (.int n), x5, x6, some (.lst true q), x8, some (.int (n % (2 * (R : Int) + 1))), x10]) (by simp [m2, t1, m4, m5])]
    exact ht
  | false =>
    have hk := Int.emod_nonneg ((n * 48271 + 7919) % 2147483647 / 64) (show 2 * (R : Int) + 1 ≠ 0 by omega)
    obtain ⟨n2, ht⟩ := tail ((n * 48271 + 7919) % 2147483647) ((n * 48271 + 7919) % 2147483647 / 64 % (2 * (R : Int) + 1)) hk
    refine ⟨(n * 48271 + 7919) % 2147483647 / 64 % (2 * (R : Int) + 1), n2, hk, ?_⟩
    unfold fTh
    generalize ths.map thD = q at *
    rw [sSeq_nx (σ' := [x0, x1, some (.int R), some (.bl false), some (.int ((n * 48271 + 7919) % 2147483647)), x5, x6, some (.lst true q), x8, x9, x10]) (by rw [sIf_true (by rfl)]; simp)]
    generalize (n * 48271 + 7919) % 2147483647 = n1 at *
    have m5 : binD .mod (.int (n1 / 64)) (.int (2 * (R : Int) + 1)) = .ok (.int (n1 / 64 % (2 * (R : Int) + 1))) := binD_mod _ _ p1
    rw [sSeq_nx (σ' := [x0, x1, some (.int R), some (.bl false), some (.int n1), x5, x6, some (.lst true q), x8, some (.int (n1 / 64 % (2 * (R : Int) + 1))), x10]) (by simp [m2, t64, m5])]
    exact ht
def InTabs (x0 x1 x3 : Option D) (R : Nat) (j : Nat) (σ : Sl) : Prop :=
  ∃ (n : Int) (parts : List (List Th)) (x6 x7 x8 x9 x10 : Option D), σ = [x0, x1, some (.int R), x3, some (.int n), some (.lst true (parts.map fun p => .tup (p.map thD))), x6, x7, x8, x9, x10] ∧ parts.length = j ∧ ∀ p ∈ parts, p.length = R ∧ ∀ x ∈ p, ThOk R x
theorem parts_clean (parts : List (List Th)) : cleanL (parts.map fun p => .tup (p.map thD)) = true := by
  rw [cleanL_all, List.all_map]
  exact List.all_eq_true.mpr fun p _ => by simp
theorem any_table_ok (ns : List Int) (at_ : Nat) (hr : 0 < R) (hr2 : R ≤ 1000) : ∃ t, h_l_any_table [scr ns, .int at_, .int R] = .ok (tabD t) ∧ TabOk R t := by
  have h7 : small62 (R : Int) = true := small62_of (by omega) (by omega)
  have h8 : small62 2 = true := small62_of (by omega) (by omega)
  have big := sizeLine_big
  obtain ⟨z, hz⟩ := cell_ok ns (at_ : Int) (by omega)
  unfold h_l_any_table runF b_l_any_table
  obtain ⟨b, n, hb⟩ : ∃ (b : Bool) (n : Int), ∀ k : SF, (sSeq (sSet 3 (eO (eAnd (eC .lt (eV 1) (eBi .len (aC (eV 0) (aN)))) (eC .eq (eB .mod (eIx (eV 0) (eK (.int 0))) (eK (.int 2))) (eK (.int 1)))))) <|
      sSeq (sSet 4 (eB .mod (eF h_l_cell (aC (eV 0) (aC (eV 1) (aN)))) (eK (.int 2147483647)))) <|
      sSeq (sIf (eV 3)
        (sSet 4 (eO (eIx (eV 0) (eV 1))))
        (sSkip)) k) (startL 11 [scr ns, .int at_, .int R]) = k [some (scr ns), some (.int at_), some (.int R), some (.bl b), some (.int n), none, none, none, none, none, none] := by
    have s2 : ∀ b : Bool, sSet 4 (eB .mod (eF h_l_cell (aC (eV 0) (aC (eV 1) (aN)))) (eK (.int 2147483647))) [some (scr ns), some (.int at_), some (.int R), some (.bl b), none, none, none, none, none, none, none] = .nx [some (scr ns), some (.int at_), some (.int R), some (.bl b), some (.int (z % 2147483647)), none, none, none, none, none, none] := by
      intro b
      simp [hz]
    have fals : sSet 3 (eO (eAnd (eC .lt (eV 1) (eBi .len (aC (eV 0) (aN)))) (eC .eq (eB .mod (eIx (eV 0) (eK (.int 0))) (eK (.int 2))) (eK (.int 1))))) (startL 11 [scr ns, .int at_, .int R]) = .nx [some (scr ns), some (.int at_), some (.int R), some (.bl false), none, none, none, none, none, none, none] →
        ∃ (b : Bool) (n : Int), ∀ k : SF, (sSeq (sSet 3 (eO (eAnd (eC .lt (eV 1) (eBi .len (aC (eV 0) (aN)))) (eC .eq (eB .mod (eIx (eV 0) (eK (.int 0))) (eK (.int 2))) (eK (.int 1)))))) <|
      sSeq (sSet 4 (eB .mod (eF h_l_cell (aC (eV 0) (aC (eV 1) (aN)))) (eK (.int 2147483647)))) <|
      sSeq (sIf (eV 3)
        (sSet 4 (eO (eIx (eV 0) (eV 1))))
        (sSkip)) k) (startL 11 [scr ns, .int at_, .int R]) = k [some (scr ns), some (.int at_), some (.int R), some (.bl b), some (.int n), none, none, none, none, none, none] := fun s1 => by
      refine ⟨false, z % 2147483647, fun k => ?_⟩
      rw [sSeq_nx s1, sSeq_nx (s2 _), sSeq_nx (σ' := [some (scr ns), some (.int at_), some (.int R), some (.bl false), some (.int (z % 2147483647)), none, none, none, none, none, none]) (by rw [sIf_false (by rfl)]; rfl)]
    by_cases hd : at_ < ns.length
    · obtain ⟨n0, h00, _⟩ := atI_ok (xs := ns) (i := 0) (by omega) (by omega)
      by_cases ho : n0 % 2 = 1
      · obtain ⟨v, hv, _⟩ := atI_ok (xs := ns) (i := (at_ : Int)) (by omega) (by omega)
        refine ⟨true, v, fun k => ?_⟩
        rw [sSeq_nx (σ' := [some (scr ns), some (.int at_), some (.int R), some (.bl true), none, none, none, none, none, none, none]) (by simp [hd, h00, ho]), sSeq_nx (s2 _),
          sSeq_nx (σ' := [some (scr ns), some (.int at_), some (.int R), some (.bl true), some (.int v), none, none, none, none, none, none]) (by rw [sIf_true (by rfl)]; simp [hv])]
      · exact fals (by simp [hd, h00, ho])
    · exact fals (by simp [hd])
  rw [hb]
  have a1 : sSet 5 (eLst aN) [some (scr ns), some (.int at_), some (.int R), some (.bl b), some (.int n), none, none, none, none, none, none] = .nx [some (scr ns), some (.int at_), some (.int R), some (.bl b), some (.int n), some (.lst true (([] : List (List Th)).map fun p => .tup (p.map thD))), none, none, none, none, none] := rfl
  obtain ⟨σ', e, n', parts, x6, x7, x8, x9, x10, rfl, hl, hp⟩ := fr_inv (p := .one 6) (f := (sSeq (sSet 7 (eLst (aN))) <|
    sSeq (sFor (.one 8) (iR1 (aC (eV 2) (aN))) fTh) <|
    sApp 5 (eBi .tuple (aC (eV 7) (aN))))) (InTabs (some (scr ns)) (some (.int at_)) (some (.bl b)) R) (rngL 0 2) 0 _ ⟨n, [], none, none, none, none, none, rfl, rfl, fun p h => nomatch h⟩ fun i x σ hx hi => by
      rw [rngL_get] at hx
      by_cases hlt : i < 2
      · obtain ⟨m, parts, x6, x7, x8, x9, x10, rfl, hl, hp⟩ := hi
        have c1 : sSet 7 (eLst (aN)) [some (scr ns), some (.int at_), some (.int R), some (.bl b), some (.int m), some (.lst true (parts.map fun p => .tup (p.map thD))), some x, x7, x8, x9, x10] = .nx [some (scr ns), some (.int at_), some (.int R), some (.bl b), some (.int m), some (.lst true (parts.map fun p => .tup (p.map thD))), some x, some (.lst true (([] : List Th).map thD)), x8, x9, x10] := by
          generalize (parts.map fun p => D.tup (p.map thD)) = q
          simp
        obtain ⟨σ2, e2, m2, ths, y8, y9, y10, rfl, hl2, ht⟩ := fr_inv (p := .one 8) (f := fTh) (InTh (some (scr ns)) (some (.int at_)) (some (.bl b)) (some (.lst true (parts.map fun p => .tup (p.map thD)))) (some x) R) (rngL 0 R) 0 _ ⟨m, [], x8, x9, x10, rfl, rfl, fun p h => nomatch h⟩ fun j y σ hy hj => by
          rw [rngL_get] at hy
          by_cases hjl : j < R
          · obtain ⟨m, ths, x8, x9, x10, rfl, hl, ht⟩ := hj
            obtain ⟨k, n2, hk, hs⟩ := th_step hr hr2 b m ths (by omega) (some (scr ns)) (some (.int at_)) (some (.lst true (parts.map fun p => .tup (p.map thD)))) (some x) (some y) x9 x10
            refine ⟨_, _, rfl, .inl hs, n2, ths ++ [thZ R k], _, _, _, rfl, by simp [hl], fun q hq => ?_⟩
            rcases List.mem_append.mp hq with hq | hq
            · exact ht q hq
            · rw [List.mem_singleton.mp hq]; exact thZ_ok hk
          · rw [if_neg hjl] at hy; cases hy
        rw [rngL_length, Nat.zero_add] at hl2
        refine ⟨_, [some (scr ns), some (.int at_), some (.int R), some (.bl b), some (.int m2), some (.lst true ((parts ++ [ths]).map fun p => .tup (p.map thD))), some x, some (.lst true (ths.map thD)), y8, y9, y10], rfl, .inl ?_, m2, parts ++ [ths], _, _, _, _, _, rfl, by simp [hl], fun q hq => ?_⟩
        · show sSeq _ _ [some (scr ns), some (.int at_), some (.int R), some (.bl b), some (.int m), some (.lst true (parts.map fun p => .tup (p.map thD))), some x, x7, x8, x9, x10] = _
          have c2 : (iR1 (aC (eV 2) (aN))) [some (scr ns), some (.int at_), some (.int R), some (.bl b), some (.int m), some (.lst true (parts.map fun p => .tup (p.map thD))), some x, some (.lst true (([] : List Th).map thD)), x8, x9, x10] = .ok (rngL 0 R) := by
            generalize (parts.map fun p => D.tup (p.map thD)) = q
            simp [h7]
          rw [sSeq_nx c1, sSeq_nx ((sFor_ok c2).trans e2), List.map_append]
          have hpl : (parts.map fun p => D.tup (p.map thD)).length < sizeLine := by rw [List.length_map]; omega
          have cl := thsD_clean ths
          generalize (parts.map fun p => D.tup (p.map thD)) = q at *
          show _ = RS.nx [some (scr ns), some (.int at_), some (.int R), some (.bl b), some (.int m2), some (.lst true (q ++ [.tup (ths.map thD)])), some x, some (.lst true (ths.map thD)), y8, y9, y10]
          generalize ths.map thD = q2 at *
          simp [cl, hpl]
        · rcases List.mem_append.mp hq with hq | hq
          · exact hp q hq
          · rw [List.mem_singleton.mp hq]; exact ⟨hl2, ht⟩
      · rw [if_neg hlt] at hx; cases hx
  rw [rngL_length, Nat.zero_add] at hl
  have a2 : (iR1 (aC (eK (.int 2)) (aN))) [some (scr ns), some (.int at_), some (.int R), some (.bl b), some (.int n), some (.lst true (([] : List (List Th)).map fun p => .tup (p.map thD))), none, none, none, none, none] = .ok (rngL 0 2) := by
    simp [h8]
  unfold fTh at e
  rw [sSeq_nx a1, sSeq_nx ((sFor_ok a2).trans e)]
  match parts, hl, hp with
  | [p0, p1], _, hp =>
    obtain ⟨l0, o0⟩ := hp p0 (by simp)
    obtain ⟨l1, o1⟩ := hp p1 (by simp)
    refine ⟨(p0, p1), ?_, ⟨l0, l1, o0, o1⟩⟩
    have t0 : L2.atI [D.tup (p0.map thD), .tup (p1.map thD)] 0 = some (.tup (p0.map thD)) := rfl
    have t1 : L2.atI [D.tup (p0.map thD), .tup (p1.map thD)] 1 = some (.tup (p1.map thD)) := rfl
    have c0 := thsD_clean p0
    have c1 := thsD_clean p1
    unfold tabD
    show resR (sRet _ [some (scr ns), some (.int at_), some (.int R), some (.bl b), some (.int n'), some (.lst true [.tup (p0.map thD), .tup (p1.map thD)]), x6, x7, x8, x9, x10]) = .ok (.tup [.tup (p0.map thD), .tup (p1.map thD)])
    generalize p0.map thD = q0 at *
    generalize p1.map thD = q1 at *
    simp [t0, t1, c0, c1]
end
end DI
/-! walks of a deterministic machine: what comes out, never, by a list of what was met, by greater steps -/
namespace DI
section
variable {S O : Type} {f : S → S ⊕ O}
def outN (f : S → S ⊕ O) : Nat → S → Option O
  | 0, _ => none
  | n + 1, s => match f s with
    | .inr o => some o
    | .inl t => outN f n t
theorem outN_inl {s t : S} (h : f s = .inl t) (n : Nat) : outN f (n + 1) s = outN f n t := by rw [outN, h]
theorem outN_inr {s : S} {o : O} (h : f s = .inr o) (n : Nat) : outN f (n + 1) s = some o := by rw [outN, h]
theorem outN_up : ∀ (n : Nat) (s : S) (o : O), outN f n s = some o → outN f (n + 1) s = some o
  | 0, _, _, h => by cases h
  | n + 1, s, o, h => by
    cases e : f s with
    | inr q => rw [outN_inr e] at h ⊢; exact h
    | inl t => rw [outN_inl e] at h ⊢; exact outN_up n t o h
theorem outN_le {n m : Nat} {s : S} {o : O} (h : outN f n s = some o) (hm : n ≤ m) : outN f m s = some o := by
  induction hm with
  | refl => exact h
  | step _ ih => exact outN_up _ _ _ ih
def Ends (f : S → S ⊕ O) (s : S) (o : O) : Prop := ∃ n, outN f n s = some o
theorem Ends.uniq {s : S} {o o' : O} (h : Ends f s o) (h' : Ends f s o') : o = o' := by
  obtain ⟨n, e⟩ := h
  obtain ⟨m, e'⟩ := h'
  have a := outN_le e (Nat.le_max_left n m)
  have b := outN_le e' (Nat.le_max_right n m)
  rw [a] at b
  exact Option.some.inj b
open Classical in
/-- what comes out at last -/
noncomputable def sem (f : S → S ⊕ O) (s : S) : Option O := if h : ∃ o, Ends f s o then some (Classical.choose h) else none
theorem sem_of {s : S} {o : O} (h : Ends f s o) : sem f s = some o := by
  have hx : ∃ o, Ends f s o := ⟨o, h⟩
  unfold sem
  rw [dif_pos hx, (Classical.choose_spec hx).uniq h]
theorem sem_ends {s : S} {o : O} (h : sem f s = some o) : Ends f s o := by
  unfold sem at h
  by_cases hx : ∃ o, Ends f s o
  · rw [dif_pos hx] at h
    have := Classical.choose_spec hx
    rw [Option.some.inj h] at this
    exact this
  · rw [dif_neg hx] at h; cases h
theorem sem_never {s : S} (h : ∀ n, outN f n s = none) : sem f s = none := by
  cases e : sem f s with
  | none => rfl
  | some o =>
    obtain ⟨n, hn⟩ := sem_ends e
    rw [h n] at hn; cases hn
theorem never_sem {s : S} (h : sem f s = none) (n : Nat) : outN f n s = none := by
  cases e : outN f n s with
  | none => rfl
  | some o => rw [sem_of ⟨n, e⟩] at h; cases h
theorem sem_inr {s : S} {o : O} (h : f s = .inr o) : sem f s = some o := sem_of ⟨1, outN_inr h 0⟩
theorem sem_inl {s t : S} (h : f s = .inl t) : sem f s = sem f t := by
  cases e : sem f t with
  | some o =>
    obtain ⟨n, hn⟩ := sem_ends e
    exact sem_of ⟨n + 1, by rw [outN_inl h]; exact hn⟩
  | none =>
    refine sem_never fun n => ?_
    cases n with
    | zero => rfl
    | succ n => rw [outN_inl h]; exact never_sem e n
/-- t is come to in just so many steps -/
def itN (f : S → S ⊕ O) : Nat → S → S → Prop
  | 0, s, t => s = t
  | k + 1, s, t => ∃ u, f s = .inl u ∧ itN f k u t
theorem itN_snoc : ∀ {k : Nat} {s t u : S}, itN f k s t → f t = .inl u → itN f (k + 1) s u
  | 0, s, t, u, h, e => by cases h; exact ⟨u, e, rfl⟩
  | k + 1, s, t, u, ⟨v, hv, h⟩, e => ⟨v, hv, itN_snoc h e⟩
theorem itN_trans : ∀ {j k : Nat} {s t u : S}, itN f j s t → itN f k t u → itN f (j + k) s u
  | 0, k, s, t, u, h, h' => by cases h; rw [Nat.zero_add]; exact h'
  | j + 1, k, s, t, u, ⟨v, hv, h⟩, h' => by
    rw [show j + 1 + k = j + k + 1 by omega]
    exact ⟨v, hv, itN_trans h h'⟩
theorem itN_out : ∀ {k : Nat} {s t : S} (n : Nat), itN f k s t → outN f (n + k) s = outN f n t
  | 0, s, t, n, h => by cases h; rfl
  | k + 1, s, t, n, ⟨u, hu, h⟩ => by
    rw [show n + (k + 1) = n + k + 1 by omega, outN_inl hu]
    exact itN_out n h
theorem itN_none : ∀ {k m : Nat} {s t : S}, itN f k s t → m ≤ k → outN f m s = none
  | _, 0, _, _, _, _ => rfl
  | 0, m + 1, _, _, _, h => by omega
  | k + 1, m + 1, s, t, ⟨u, hu, h⟩, hm => by rw [outN_inl hu]; exact itN_none h (by omega)
theorem itN_sem {k : Nat} {s t : S} (h : itN f k s t) : sem f s = sem f t := by
  induction k generalizing s with
  | zero => cases h; rfl
  | succ k ih =>
    obtain ⟨u, hu, h⟩ := h
    rw [sem_inl hu, ih h]
theorem cycle_never {k : Nat} {s : S} (h : itN f (k + 1) s s) : ∀ n, outN f n s = none := by
  intro n
  induction n using Nat.strongRecOn with
  | ind n ih =>
    by_cases hn : n ≤ k + 1
    · exact itN_none h hn
    · have := itN_out (n - (k + 1)) h
      rw [show n - (k + 1) + (k + 1) = n by omega] at this
      rw [this]
      exact ih _ (by omega)
/-- the walk that keeps what it met: some none where one comes again -/
def metW [DecidableEq S] (f : S → S ⊕ O) : Nat → List S → S → Option (Option O)
  | 0, _, _ => none
  | n + 1, met, s => if s ∈ met then some none else match f s with
    | .inr o => some (some o)
    | .inl t => metW f n (met ++ [s]) t
theorem metW_sem [DecidableEq S] : ∀ (n : Nat) (met : List S) (s : S) (r : Option O), (∀ t ∈ met, ∃ k, itN f (k + 1) t s) → metW f n met s = some r → sem f s = r
  | 0, _, _, _, _, h => by cases h
  | n + 1, met, s, r, hm, h => by
    rw [metW] at h
    by_cases hs : s ∈ met
    · rw [if_pos hs] at h
      cases h
      obtain ⟨k, hk⟩ := hm s hs
      exact sem_never (cycle_never hk)
    · rw [if_neg hs] at h
      cases e : f s with
      | inr o => rw [e] at h; cases h; exact sem_inr e
      | inl t =>
        rw [e] at h
        rw [sem_inl e]
        refine metW_sem n (met ++ [s]) t r (fun q hq => ?_) h
        rcases List.mem_append.mp hq with hq | hq
        · obtain ⟨k, hk⟩ := hm q hq
          exact ⟨k + 1, itN_snoc hk e⟩
        · rw [List.mem_singleton.mp hq]
          exact ⟨0, t, e, rfl⟩
theorem metW_fuel [DecidableEq S] {P : S → Prop} {N : Nat} (hN : ∀ l : List S, l.Nodup → (∀ s ∈ l, P s) → l.length ≤ N) (hP : ∀ s t, P s → f s = .inl t → P t) :
    ∀ (n : Nat) (met : List S) (s : S), met.Nodup → (∀ t ∈ met, P t) → P s → N < met.length + n → ∃ r, metW f n met s = some r
  | 0, met, s, nd, hm, hs, hb => by have := hN met nd hm; omega
  | n + 1, met, s, nd, hm, hs, hb => by
    rw [metW]
    by_cases h : s ∈ met
    · exact ⟨none, by rw [if_pos h]⟩
    · rw [if_neg h]
      cases e : f s with
      | inr o => exact ⟨some o, rfl⟩
      | inl t =>
        refine metW_fuel hN hP n (met ++ [s]) t (List.nodup_append.mpr ⟨nd, by simp, fun a ha b hb' e => h (by rw [List.mem_singleton.mp hb'] at e; rw [← e]; exact ha)⟩) (fun q hq => ?_) (hP s t hs e) (by rw [List.length_append]; show N < met.length + 1 + n; omega)
        rcases List.mem_append.mp hq with hq | hq
        · exact hm q hq
        · rw [List.mem_singleton.mp hq]; exact hs
end
/-! greater steps -/
section
variable {S S' Q : Type} {f : S → S ⊕ Option Q} {g : S' → S' ⊕ Option Q} {e : S' → S} {P : S' → Prop}
/-- none: it stops within, or never comes out -/
noncomputable def val {S Q : Type} (f : S → S ⊕ Option Q) (s : S) : Option Q := (sem f s).join
theorem val_inl {s t : S} (h : f s = .inl t) : val f s = val f t := by unfold val; rw [sem_inl h]
theorem val_inr {s : S} {o : Option Q} (h : f s = .inr o) : val f s = o := by unfold val; rw [sem_inr h]; rfl
theorem val_it {k : Nat} {s t : S} (h : itN f k s t) : val f s = val f t := by unfold val; rw [itN_sem h]
theorem val_great (hP : ∀ s t, P s → g s = .inl t → P t) (h1 : ∀ s o, P s → g s = .inr o → val f (e s) = o) (h2 : ∀ s t, P s → g s = .inl t → ∃ k, itN f (k + 1) (e s) (e t)) {s : S'} (hs : P s) : val g s = val f (e s) := by
  cases hg : sem g s with
  | some o =>
    obtain ⟨n, hn⟩ := sem_ends hg
    have : val f (e s) = o := by
      clear hg
      induction n generalizing s with
      | zero => cases hn
      | succ n ih =>
        cases hx : g s with
        | inr q => rw [outN_inr hx] at hn; cases hn; exact h1 s _ hs hx
        | inl t =>
          rw [outN_inl hx] at hn
          obtain ⟨k, hk⟩ := h2 s t hs hx
          rw [val_it hk]
          exact ih (hP s t hs hx) hn
    rw [this]
    unfold val
    rw [hg]
    rfl
  | none =>
    have never : ∀ n (s : S'), P s → sem g s = none → outN f n (e s) = none := by
      intro n
      induction n using Nat.strongRecOn with
      | ind n ih =>
        intro s hs hg
        cases hx : g s with
        | inr q => rw [sem_inr hx] at hg; cases hg
        | inl t =>
          obtain ⟨k, hk⟩ := h2 s t hs hx
          by_cases hn : n ≤ k + 1
          · exact itN_none hk hn
          · have := itN_out (n - (k + 1)) hk
            rw [show n - (k + 1) + (k + 1) = n by omega] at this
            rw [this]
            exact ih _ (by omega) t (hP s t hs hx) (by rw [← sem_inl hx]; exact hg)
    have : sem f (e s) = none := sem_never fun n => never n s hs hg
    unfold val
    rw [hg, this]
end
end DI
/-! the walk through tables, as the law goes it -/
namespace DI
open PySem
abbrev S3 := Int × Int × Int
def thingAt (t : Tab) (way room : Int) : Th := (if way < 0 then t.2 else t.1).getD room.toNat none
def wf (L : List Tab) (s : S3) : S3 ⊕ Th :=
  if 0 ≤ s.1 ∧ s.1 < (L.length : Int) then
    match thingAt (L.getD s.1.toNat ([], [])) s.2.1 s.2.2 with
    | none => .inr none
    | some p => .inl (s.1 + p.1, p.1, p.2)
  else .inr (some (s.2.1, s.2.2))
def kS (s : S3) : NestedKey := .tup [.num s.1, .num s.2.1, .num s.2.2]
def sD (s : S3) : D := .tup [.int s.1, .int s.2.1, .int s.2.2]
def kvS (st : List S3) : List (NestedKey × D) := st.map fun p => (kS p, .bl true)
theorem kS_inj {p q : S3} (h : kS p = kS q) : p = q := by
  unfold kS at h
  injection h with h
  injection h with h1 h2
  injection h1 with h1
  injection h2 with h2 h3
  injection h2 with h2
  injection h3 with h3 _
  injection h3 with h3
  exact Prod.ext h1 (Prod.ext h2 h3)
theorem keyIn_S (p : S3) (st : List S3) : keyIn (sD p) (kvS st) = .ok (kS p) := by
  have h : (kvS st).all (fun p => isTupKey p.1) = true := by
    rw [List.all_eq_true]
    intro q hq
    obtain ⟨x, _, rfl⟩ := List.mem_map.mp hq
    rfl
  have hd : (kS p).depth ≤ 8 := by
    unfold kS
    simp [NestedKey.depth, NestedKey.depthAll]
  show (match key (sD p) with | some k => if (keysWith k (kvS st) && (isTupKey k || leafD (sD p))) = true then R.ok k else .bad | none => .bad) = _
  have hk : key (sD p) = some (kS p) := rfl
  rw [hk]
  have : (keysWith (kS p) (kvS st) && (isTupKey (kS p) || leafD (sD p))) = true := by
    unfold keysWith
    rw [h, decide_eq_true hd]
    rfl
  simp only [this, if_true]
theorem any_S (p : S3) (st : List S3) : (kvS st).any (fun q => decide (q.1 = kS p)) = decide (p ∈ st) := by
  unfold kvS
  rw [List.any_map, Bool.eq_iff_iff, List.any_eq_true, decide_eq_true_iff]
  constructor
  · rintro ⟨q, hq, e⟩
    have e : kS q = kS p := of_decide_eq_true e
    rw [← kS_inj e]; exact hq
  · exact fun h => ⟨p, h, decide_eq_true rfl⟩
theorem dget_S (p : S3) (st : List S3) : (dget (kvS st) (kS p)).isSome = decide (p ∈ st) := by rw [find_map_some, any_S]
theorem dput_S {p : S3} {st : List S3} (h : p ∉ st) : dput (kvS st) (kS p) (.bl true) = kvS (st ++ [p]) := by
  unfold dput
  rw [any_S, decide_eq_false h, if_neg Bool.false_ne_true]
  unfold kvS
  rw [List.map_append]
  rfl
section
variable {R : Nat} {L : List Tab}
def sO (L : List Tab) (met : List S3) (s : S3) (x5 : Option D) : Sl := [some (.lst false (L.map tabD)), some (.int s.1), some (.int s.2.1), some (.int s.2.2), some (.dct true (kvS met)), x5]
noncomputable def cO : Sl → DI.R D := eCC .le .lt (eK (.int 0)) (eV 1) (eBi .len (aC (eV 0) (aN)))
noncomputable def fO : SF := (sSeq (sIf (eC .mem (eTup (aC (eO (eV 1)) (aC (eO (eV 2)) (aC (eO (eV 3)) (aN))))) (eV 4))
      (sRet (eK (.non)))
      (sSkip)) <|
    sSeq (sPutK 4 (eTup (aC (eO (eV 1)) (aC (eO (eV 2)) (aC (eO (eV 3)) (aN))))) (eK (.bl true))) <|
    sSeq (sSet 5 (eO (eIx (eIx (eIx (eV 0) (eV 1)) (eBi .int (aC (eC .lt (eV 2) (eK (.int 0))) (aN)))) (eV 3)))) <|
    sSeq (sIf (eC .isN (eV 5) (eK (.non)))
      (sRet (eK (.non)))
      (sSkip)) <|
    sSeq (sUnp (.many [2, 3]) (eV 5)) <|
    sSet 1 (eB .add (eV 1) (eV 2)))
theorem thing_ix (hL : ∀ t ∈ L, TabOk R t) {s : S3} (hr : 0 ≤ s.2.2 ∧ s.2.2 < (R : Int)) (hs : 0 ≤ s.1 ∧ s.1 < (L.length : Int)) (x4 x5 : Option D) :
    (eO (eIx (eIx (eIx (eV 0) (eV 1)) (eBi .int (aC (eC .lt (eV 2) (eK (.int 0))) (aN)))) (eV 3))) [some (.lst false (L.map tabD)), some (.int s.1), some (.int s.2.1), some (.int s.2.2), x4, x5] = .ok (thD (thingAt (L.getD s.1.toNat ([], [])) s.2.1 s.2.2)) ∧ ThOk R (thingAt (L.getD s.1.toNat ([], [])) s.2.1 s.2.2) := by
  obtain ⟨a, w, r⟩ := s
  simp only at hr hs ⊢
  have hl : a.toNat < L.length := by omega
  have e0 : L.getD a.toNat ([], []) = L[a.toNat] := by rw [List.getD_eq_getElem?_getD, List.getElem?_eq_getElem hl]; rfl
  have ok := hL _ (List.getElem_mem hl)
  have ea : ((a.toNat : Nat) : Int) = a := by omega
  have q1 := L2.atI_nat (xs := L.map tabD) (j := a.toNat) (v := tabD L[a.toNat]) (by rw [List.getElem?_map, List.getElem?_eq_getElem hl]; rfl)
  rw [ea] at q1
  rw [e0]
  generalize L[a.toNat] = t at *
  have er : ((r.toNat : Nat) : Int) = r := by omega
  have side : ∀ l : List Th, l.length = R → (∀ x ∈ l, ThOk R x) → L2.atI (l.map thD) r = some (thD (l.getD r.toNat none)) ∧ ThOk R (l.getD r.toNat none) := fun l h1 h2 => by
    have hl2 : r.toNat < l.length := by omega
    have e : l.getD r.toNat none = l[r.toNat] := by rw [List.getD_eq_getElem?_getD, List.getElem?_eq_getElem hl2]; rfl
    have := L2.atI_nat (xs := l.map thD) (j := r.toNat) (v := thD l[r.toNat]) (by rw [List.getElem?_map, List.getElem?_eq_getElem hl2]; rfl)
    rw [er] at this
    rw [e]
    exact ⟨this, h2 _ (List.getElem_mem _)⟩
  have t0 : idxD (tabD t) (.int 0) = .ok (.tup (t.1.map thD)) := rfl
  have t1 : idxD (tabD t) (.int 1) = .ok (.tup (t.2.map thD)) := rfl
  unfold thingAt
  by_cases hw : w < 0
  · rw [if_pos hw]
    obtain ⟨q2, k2⟩ := side t.2 ok.l2 ok.o2
    refine ⟨?_, k2⟩
    generalize thD (t.2.getD r.toNat none) = d at *
    generalize hd2 : t.2.map thD = q at *
    have cd : clean d = true := by
      have := thsD_clean t.2
      rw [hd2] at this
      obtain ⟨j, h1, h2, h3⟩ := L2.atI_get q2
      rw [cleanL_all] at this
      exact List.all_eq_true.mp this d (List.mem_of_getElem? h2)
    simp [q1, hw, t1, q2, cd]
  · rw [if_neg hw]
    obtain ⟨q2, k2⟩ := side t.1 ok.l1 ok.o1
    refine ⟨?_, k2⟩
    generalize thD (t.1.getD r.toNat none) = d at *
    generalize hd2 : t.1.map thD = q at *
    have cd : clean d = true := by
      have := thsD_clean t.1
      rw [hd2] at this
      obtain ⟨j, h1, h2, h3⟩ := L2.atI_get q2
      rw [cleanL_all] at this
      exact List.all_eq_true.mp this d (List.mem_of_getElem? h2)
    simp [q1, hw, t0, q2, cd]
theorem lpo_rt {c : Sl → DI.R D} {f : SF} {n : Nat} {σ : Sl} {d : D} (h : c σ = .ok (.bl true)) (h2 : f σ = .rt d) : lp c f (n + 1) σ = .rt d := by rw [lp, h, rS_ok, h2]; rfl
theorem cO_eq (met : List S3) (s : S3) (x5 : Option D) : cO (sO L met s x5) = .ok (.bl (decide (0 ≤ s.1 ∧ s.1 < (L.length : Int)))) := by
  unfold cO sO
  by_cases h0 : 0 ≤ s.1
  · by_cases h1 : s.1 < (L.length : Int)
    · simp [h0, h1]
    · simp [h0, h1]
  · simp [h0]
theorem out_loop (hL : ∀ t ∈ L, TabOk R t) : ∀ (n : Nat) (met : List S3) (s : S3) (x5 : Option D) (r : Option Th), (∀ q ∈ met, 0 ≤ q.1 ∧ q.1 < (L.length : Int)) → met.length + n < 1000000 → 0 ≤ s.2.2 ∧ s.2.2 < (R : Int) → metW (wf L) n met s = some r →
    (lp cO fO n (sO L met s x5) = .rt .non ∧ r.join = none) ∨ ∃ (a : Int) (p : Int × Int) (m' x5' : Option D), lp cO fO n (sO L met s x5) = .nx [some (.lst false (L.map tabD)), some (.int a), some (.int p.1), some (.int p.2), m', x5'] ∧ r = some (some p)
  | 0, _, _, _, _, _, _, _, h => by cases h
  | n + 1, met, s, x5, r, hm, hlen, hr, h => by
    rw [metW] at h
    have ec := cO_eq (L := L) met s x5
    have ki := keyIn_S s met
    have dg := dget_S s met
    by_cases hs : s ∈ met
    · rw [if_pos hs] at h
      cases h
      rw [decide_eq_true (hm s hs)] at ec
      left
      refine ⟨lpo_rt ec ?_, rfl⟩
      have m1 : sIf (eC .mem (eTup (aC (eO (eV 1)) (aC (eO (eV 2)) (aC (eO (eV 3)) (aN))))) (eV 4)) (sRet (eK (.non))) (sSkip) (sO L met s x5) = .rt .non := by
        rw [decide_eq_true hs] at dg
        unfold sO
        unfold sD at ki
        rw [sIf_true (by simp [ki, dg])]
        rfl
      show sSeq _ _ (sO L met s x5) = _
      rw [sSeq_rt m1]
    · rw [if_neg hs] at h
      by_cases hin : 0 ≤ s.1 ∧ s.1 < (L.length : Int)
      · rw [decide_eq_true hin] at ec
        rw [decide_eq_false hs] at dg
        obtain ⟨ix, ok⟩ := thing_ix hL hr hin (some (.dct true (kvS (met ++ [s])))) x5
        have wfe : wf L s = match thingAt (L.getD s.1.toNat ([], [])) s.2.1 s.2.2 with | none => .inr none | some p => .inl (s.1 + p.1, p.1, p.2) := by unfold wf; rw [if_pos hin]
        have m1 : sIf (eC .mem (eTup (aC (eO (eV 1)) (aC (eO (eV 2)) (aC (eO (eV 3)) (aN))))) (eV 4)) (sRet (eK (.non))) (sSkip) (sO L met s x5) = .nx (sO L met s x5) := by
          unfold sO
          unfold sD at ki
          rw [sIf_false (by simp [ki, dg])]
          rfl
        have l1 : (kvS met).length < sizeLine := by unfold kvS; rw [List.length_map]; have := sizeLine_big; omega
        have dp := dput_S hs
        have m2 : sPutK 4 (eTup (aC (eO (eV 1)) (aC (eO (eV 2)) (aC (eO (eV 3)) (aN))))) (eK (.bl true)) (sO L met s x5) = .nx (sO L (met ++ [s]) s x5) := by
          unfold sO
          unfold sD at ki
          generalize L.map tabD = q
          simp [ki, dp, l1]
        generalize thingAt (L.getD s.1.toNat ([], [])) s.2.1 s.2.2 = th at *
        have m3 : sSet 5 (eO (eIx (eIx (eIx (eV 0) (eV 1)) (eBi .int (aC (eC .lt (eV 2) (eK (.int 0))) (aN)))) (eV 3))) (sO L (met ++ [s]) s x5) = .nx (sO L (met ++ [s]) s (some (thD th))) := by
          show rS _ _ _ = _
          unfold sO
          rw [ix]
          rfl
        cases th with
        | none =>
          rw [wfe] at h
          cases h
          left
          refine ⟨lpo_rt ec ?_, rfl⟩
          show sSeq _ _ (sO L met s x5) = _
          rw [sSeq_nx m1, sSeq_nx m2, sSeq_nx m3, sSeq_rt (d := .non) (by
            unfold sO
            rw [sIf_true (by rfl)]
            rfl)]
        | some p =>
          rw [wfe] at h
          have m4 : fO (sO L met s x5) = .nx (sO L (met ++ [s]) (s.1 + p.1, p.1, p.2) (some (thD (some p)))) := by
            show sSeq _ _ (sO L met s x5) = _
            rw [sSeq_nx m1, sSeq_nx m2, sSeq_nx m3, sSeq_nx (σ' := sO L (met ++ [s]) s (some (thD (some p)))) (by
              unfold sO
              rw [sIf_false (by rfl)]
              rfl)]
            unfold sO thD
            generalize L.map tabD = q
            simp
          rw [lp_true ec m4]
          exact out_loop hL n (met ++ [s]) (s.1 + p.1, p.1, p.2) _ r (fun q hq => by
            rcases List.mem_append.mp hq with hq | hq
            · exact hm q hq
            · rw [List.mem_singleton.mp hq]; exact hin) (by rw [List.length_append]; show met.length + 1 + n < _; omega) ok.2 h
      · rw [decide_eq_false hin] at ec
        have wfe : wf L s = .inr (some (s.2.1, s.2.2)) := by unfold wf; rw [if_neg hin]
        rw [wfe] at h
        cases h
        right
        exact ⟨s.1, (s.2.1, s.2.2), _, _, lp_false ec, rfl⟩
theorem pig3 : ∀ (n : Nat) (xs : List Int), xs.Nodup → (∀ a ∈ xs, 0 ≤ a ∧ a < (n : Int)) → xs.length ≤ n
  | 0, [], _, _ => Nat.le_refl _
  | 0, x :: xs, _, h => by have := h x List.mem_cons_self; omega
  | n + 1, xs, nd, h => by
    have h1 := pig3 n (xs.erase (n : Int)) (nd.erase _) fun a ha => by
      obtain ⟨h2, h3⟩ := nd.mem_erase_iff.mp ha
      have := h a h3
      omega
    by_cases hm : (n : Int) ∈ xs
    · rw [List.length_erase_of_mem hm] at h1; omega
    · rw [List.erase_of_not_mem hm] at h1; omega
theorem pig_by {α : Type} {P : α → Prop} (e : α → Int) (N : Nat) (hb : ∀ a, P a → 0 ≤ e a ∧ e a < (N : Int)) (inj : ∀ a b, P a → P b → e a = e b → a = b) (l : List α) (nd : l.Nodup) (hl : ∀ a ∈ l, P a) : l.length ≤ N := by
  have := pig3 N (l.map e) (by
    rw [List.Nodup, List.pairwise_map]
    exact List.Pairwise.imp_of_mem (R := fun a b => a ≠ b) (fun {p q} hp hq ne h => ne (inj p q (hl p hp) (hl q hq) h)) nd) fun a ha => by
      obtain ⟨p, hp, rfl⟩ := List.mem_map.mp ha
      exact hb p (hl p hp)
  rwa [List.length_map] at this
def PS3 (R : Nat) (L : List Tab) (s : S3) : Prop := (-1 ≤ s.1 ∧ s.1 ≤ (L.length : Int)) ∧ (s.2.1 = 1 ∨ s.2.1 = -1) ∧ 0 ≤ s.2.2 ∧ s.2.2 < (R : Int)
def eS3 (R : Nat) (s : S3) : Int := ((s.1 + 1) * 2 + (if s.2.1 = 1 then 1 else 0)) * (R : Int) + s.2.2
theorem eS3_div {s : S3} (h : PS3 R L s) : eS3 R s / (R : Int) = (s.1 + 1) * 2 + (if s.2.1 = 1 then 1 else 0) := by
  obtain ⟨_, _, h3, h4⟩ := h
  unfold eS3
  rw [Int.add_comm, Int.add_mul_ediv_right _ _ (by omega), Int.ediv_eq_zero_of_lt h3 h4, Int.zero_add]
theorem eS3_inj (a b : S3) (ha : PS3 R L a) (hb : PS3 R L b) (h : eS3 R a = eS3 R b) : a = b := by
  have d1 := eS3_div ha
  have d2 := eS3_div hb
  rw [h, d2] at d1
  have e3 : a.2.2 = b.2.2 := by
    unfold eS3 at h
    rw [← d1] at h
    omega
  obtain ⟨_, wa, _⟩ := ha
  obtain ⟨_, wb, _⟩ := hb
  have e12 : a.1 = b.1 ∧ a.2.1 = b.2.1 := by
    rcases wa with wa | wa <;> rcases wb with wb | wb <;> rw [wa, wb] at d1 <;> simp at d1 <;> first | (exfalso; omega) | exact ⟨by omega, by rw [wa, wb]⟩
  exact Prod.ext e12.1 (Prod.ext e12.2 e3)
theorem eS3_b (hr : 0 < R) (a : S3) (h : PS3 R L a) : 0 ≤ eS3 R a ∧ eS3 R a < (((L.length + 2) * 2 * R : Nat) : Int) := by
  have d := eS3_div h
  obtain ⟨⟨h1, h2⟩, hw, h3, h4⟩ := h
  have hR : (0 : Int) ≤ (R : Int) := by omega
  have k0 : 0 ≤ (a.1 + 1) * 2 + (if a.2.1 = 1 then (1 : Int) else 0) := by split <;> omega
  have k1 : (a.1 + 1) * 2 + (if a.2.1 = 1 then (1 : Int) else 0) ≤ ((L.length : Int) + 2) * 2 - 1 := by split <;> omega
  unfold eS3
  generalize (a.1 + 1) * 2 + (if a.2.1 = 1 then (1 : Int) else 0) = k at *
  have m1 : 0 ≤ k * (R : Int) := Int.mul_nonneg k0 hR
  have m2 : k * (R : Int) ≤ (((L.length : Int) + 2) * 2 - 1) * (R : Int) := Int.mul_le_mul_of_nonneg_right k1 hR
  have e : (((L.length + 2) * 2 * R : Nat) : Int) = (((L.length : Int) + 2) * 2 - 1) * (R : Int) + (R : Int) := by
    have key : ∀ X : Int, X * (R : Int) + (R : Int) = (X + 1) * (R : Int) := fun X => by rw [Int.add_mul, Int.one_mul]
    rw [key, Int.sub_add_cancel, Int.natCast_mul, Int.natCast_mul, Int.natCast_add]
    rfl
  rw [e]
  exact ⟨by omega, by omega⟩
theorem wf_P (hL : ∀ t ∈ L, TabOk R t) {s t : S3} (h : PS3 R L s) (e : wf L s = .inl t) : PS3 R L t := by
  unfold wf at e
  by_cases hin : 0 ≤ s.1 ∧ s.1 < (L.length : Int)
  · rw [if_pos hin] at e
    have ok := (thing_ix hL h.2.2 hin none none).2
    generalize thingAt (L.getD s.1.toNat ([], [])) s.2.1 s.2.2 = th at *
    cases th with
    | none => cases e
    | some p =>
      cases e
      obtain ⟨hw, h3, h4⟩ := ok
      refine ⟨?_, hw, h3, h4⟩
      show -1 ≤ s.1 + p.1 ∧ s.1 + p.1 ≤ _
      rcases hw with hw | hw <;> rw [hw] <;> omega
  · rw [if_neg hin] at e; cases e
theorem out_ok (hL : ∀ t ∈ L, TabOk R t) (hr : 0 < R) (hr2 : R ≤ 100) (hl : L.length ≤ 100) {s : S3} (h : PS3 R L s) : h_l_out [.lst false (L.map tabD), .int s.1, .int s.2.1, .int s.2.2] = .ok (thD (val (wf L) s)) := by
  have hb : (L.length + 2) * 2 * R ≤ 102 * 2 * 100 := Nat.mul_le_mul (by omega) hr2
  obtain ⟨r, hm⟩ := metW_fuel (f := wf L) (P := PS3 R L) (N := (L.length + 2) * 2 * R) (fun l nd hp => pig_by (eS3 R) _ (eS3_b hr) eS3_inj l nd hp) (fun s t hs e => wf_P hL hs e) ((L.length + 2) * 2 * R + 1) [] s List.nodup_nil (fun t h => nomatch h) h (by simp)
  have hv : val (wf L) s = r.join := by
    unfold val
    rw [metW_sem _ [] s r (fun t h => nomatch h) hm]
  unfold h_l_out runF b_l_out
  have a1 : sSet 4 eD0 (startL 6 [.lst false (L.map tabD), .int s.1, .int s.2.1, .int s.2.2]) = .nx (sO L [] s none) := rfl
  rw [hv]
  rcases out_loop hL ((L.length + 2) * 2 * R + 1) [] s none r (fun q h => nomatch h) (by simp; omega) h.2.2 hm with ⟨e, er⟩ | ⟨a, p, m', x5', e, er⟩
  · rw [er]
    unfold cO fO at e
    rw [sSeq_nx a1, sSeq_rt (whl_eq e (by intro h; cases h))]
    rfl
  · rw [er]
    unfold cO fO at e
    rw [sSeq_nx a1, sSeq_nx (whl_eq e (by intro h; cases h))]
    simp [thD]
end
end DI
/-! boxes -/
namespace DI
open PySem
section
variable {R : Nat} {L : List Tab}
theorem val_ok (hL : ∀ t ∈ L, TabOk R t) {s : S3} (h : PS3 R L s) : ThOk R (val (wf L) s) := by
  have go : ∀ (n : Nat) (s : S3) (o : Th), PS3 R L s → outN (wf L) n s = some o → ThOk R o := by
    intro n
    induction n with
    | zero => intro s o _ e; cases e
    | succ n ih =>
      intro s o hs e
      cases q : wf L s with
      | inl t => rw [outN_inl q] at e; exact ih t o (wf_P hL hs q) e
      | inr x =>
        rw [outN_inr q] at e
        cases e
        unfold wf at q
        by_cases hin : 0 ≤ s.1 ∧ s.1 < (L.length : Int)
        · rw [if_pos hin] at q
          generalize thingAt (L.getD s.1.toNat ([], [])) s.2.1 s.2.2 = th at *
          cases th with
          | none => cases q; exact True.intro
          | some p => cases q
        · rw [if_neg hin] at q
          cases q
          exact ⟨hs.2.1, hs.2.2⟩
  unfold val
  cases e : sem (wf L) s with
  | none => exact True.intro
  | some o =>
    obtain ⟨n, hn⟩ := sem_ends e
    exact go n s o h hn
noncomputable def boxes (L : List Tab) (R : Nat) : Tab := ((List.range R).map fun (r : Nat) => val (wf L) (0, 1, (r : Int)), (List.range R).map fun (r : Nat) => val (wf L) ((L.length : Int) - 1, -1, (r : Int)))
theorem ps_fore {r : Nat} (h : r < R) (hl : 0 < L.length) : PS3 R L (0, 1, (r : Int)) := ⟨⟨by show (-1 : Int) ≤ 0; omega, by show (0 : Int) ≤ _; omega⟩, .inl rfl, by show (0 : Int) ≤ (r : Int); omega, by show (r : Int) < _; omega⟩
theorem ps_aft {r : Nat} (h : r < R) (hl : 0 < L.length) : PS3 R L ((L.length : Int) - 1, -1, (r : Int)) := ⟨⟨by show (-1 : Int) ≤ (L.length : Int) - 1; omega, by show (L.length : Int) - 1 ≤ _; omega⟩, .inr rfl, by show (0 : Int) ≤ (r : Int); omega, by show (r : Int) < _; omega⟩
theorem boxes_tab (hL : ∀ t ∈ L, TabOk R t) (hl : 0 < L.length) : TabOk R (boxes L R) where
  l1 := by unfold boxes; simp
  l2 := by unfold boxes; simp
  o1 x hx := by
    obtain ⟨r, hr, rfl⟩ := List.mem_map.mp hx
    exact val_ok hL (ps_fore (List.mem_range.mp hr) hl)
  o2 x hx := by
    obtain ⟨r, hr, rfl⟩ := List.mem_map.mp hx
    exact val_ok hL (ps_aft (List.mem_range.mp hr) hl)
noncomputable def gF (L : List Tab) (a w : Int) : D → D
  | .int r => thD (val (wf L) (a, w, r))
  | d => d
theorem gF_map (a w : Int) (n : Nat) : (rngL 0 n).map (gF L a w) = ((List.range n).map fun (r : Nat) => val (wf L) (a, w, (r : Int))).map thD := by
  unfold rngL
  rw [List.map_map, List.map_map]
  apply List.map_congr_left
  intro k _
  show thD (val (wf L) (a, w, (0 : Int) + (k : Int))) = thD (val (wf L) (a, w, (k : Int)))
  rw [Int.zero_add]
theorem boxes_ok (hL : ∀ t ∈ L, TabOk R t) (hr : 0 < R) (hr2 : R ≤ 100) (hl : L.length ≤ 100) (hl0 : 0 < L.length) : h_l_boxes [.lst false (L.map tabD), .int R] = .ok (tabD (boxes L R)) := by
  have h7 : small62 (R : Int) = true := small62_of (by omega) (by omega)
  have big := sizeLine_big
  have hc : cleanL (L.map tabD) = true := by
    rw [cleanL_all, List.all_map]
    exact List.all_eq_true.mpr fun t _ => tabD_clean t
  have hfz : frz (.lst false (L.map tabD)) = .lst false (L.map tabD) := frz_clean _ (by simp [hc])
  have hlen : (L.map tabD).length = L.length := List.length_map _
  unfold h_l_boxes runF b_l_boxes
  have f1 : ∀ r : Nat, r < R → h_l_out [.lst false (L.map tabD), .int 0, .int 1, .int (r : Int)] = .ok (thD (val (wf L) (0, 1, (r : Int)))) := fun r h => out_ok hL hr hr2 hl (ps_fore h hl0)
  have f2 : ∀ r : Nat, r < R → h_l_out [.lst false (L.map tabD), .int ((L.length : Int) - 1), .int (-1), .int (r : Int)] = .ok (thD (val (wf L) ((L.length : Int) - 1, -1, (r : Int)))) := fun r h => out_ok hL hr hr2 hl (ps_aft h hl0)
  have c1 : eComp [4] (.one 4) (iR1 (aC (eV 1) (aN))) (eT) (eF h_l_out (aC (eV 0) (aC (eK (.int 0)) (aC (eK (.int 1)) (aC (eV 4) (aN)))))) (startL 5 [.lst false (L.map tabD), .int R]) = .ok (.lst true ((boxes L R).1.map thD)) := by
    show _ = DI.R.ok (D.lst true (((List.range R).map fun (r : Nat) => val (wf L) (0, 1, (r : Int))).map thD))
    rw [← gF_map]
    refine comp_ok (by generalize L.map tabD = q; simp [h7]) (fun x hx => ?_) (by rw [rngL_length]; omega)
    obtain ⟨r, hr', rfl⟩ := mem_rngL hx
    have e := f1 r hr'
    show _ = DI.R.ok (some (thD (val (wf L) (0, 1, (r : Int)))))
    generalize thD (val (wf L) (0, 1, (r : Int))) = d at *
    generalize L.map tabD = q at *
    unfold cBody
    simp at hfz
    simp [hc, hfz, e]
  have c2 : eComp [4] (.one 4) (iR1 (aC (eV 1) (aN))) (eT) (eF h_l_out (aC (eV 0) (aC (eB .sub (eBi .len (aC (eV 0) (aN))) (eK (.int 1))) (aC (eNeg (eK (.int 1))) (aC (eV 4) (aN)))))) [some (.lst false (L.map tabD)), some (.int R), some (.lst true ((boxes L R).1.map thD)), none, none] = .ok (.lst true ((boxes L R).2.map thD)) := by
    show _ = DI.R.ok (D.lst true (((List.range R).map fun (r : Nat) => val (wf L) ((L.length : Int) - 1, -1, (r : Int))).map thD))
    rw [← gF_map]
    generalize (boxes L R).1.map thD = q1
    refine comp_ok (by generalize L.map tabD = q; simp [h7]) (fun x hx => ?_) (by rw [rngL_length]; omega)
    obtain ⟨r, hr', rfl⟩ := mem_rngL hx
    have e := f2 r hr'
    show _ = DI.R.ok (some (thD (val (wf L) ((L.length : Int) - 1, -1, (r : Int)))))
    generalize thD (val (wf L) ((L.length : Int) - 1, -1, (r : Int))) = d at *
    generalize L.map tabD = q at *
    unfold cBody
    simp at hfz
    simp [hc, hfz, e, hlen]
  have b1 : sSet 2 (eComp [4] (.one 4) (iR1 (aC (eV 1) (aN))) (eT) (eF h_l_out (aC (eV 0) (aC (eK (.int 0)) (aC (eK (.int 1)) (aC (eV 4) (aN))))))) (startL 5 [.lst false (L.map tabD), .int R]) = .nx [some (.lst false (L.map tabD)), some (.int R), some (.lst true ((boxes L R).1.map thD)), none, none] := by
    show rS _ _ _ = _
    rw [c1]
    rfl
  have b2 : sSet 3 (eComp [4] (.one 4) (iR1 (aC (eV 1) (aN))) (eT) (eF h_l_out (aC (eV 0) (aC (eB .sub (eBi .len (aC (eV 0) (aN))) (eK (.int 1))) (aC (eNeg (eK (.int 1))) (aC (eV 4) (aN))))))) [some (.lst false (L.map tabD)), some (.int R), some (.lst true ((boxes L R).1.map thD)), none, none] = .nx [some (.lst false (L.map tabD)), some (.int R), some (.lst true ((boxes L R).1.map thD)), some (.lst true ((boxes L R).2.map thD)), none] := by
    show rS _ _ _ = _
    rw [c2]
    rfl
  rw [sSeq_nx b1, sSeq_nx b2]
  have k1 := thsD_clean (boxes L R).1
  have k2 := thsD_clean (boxes L R).2
  unfold tabD
  generalize (boxes L R).1.map thD = q1 at *
  generalize (boxes L R).2.map thD = q2 at *
  simp [k1, k2]
end
end DI
/-! behind -/
namespace DI
open PySem
abbrev SB := Bool × Int
def wayB (b : Bool) (w : Int) : Bool := b == decide (w = 1)
def inB (s t : Tab) (q : SB) : Th := (if q.1 = true then s.2 else t.1).getD q.2.toNat none
def fB (s t : Tab) (q : SB) : SB ⊕ Th :=
  match inB s t q with
  | none => .inr none
  | some p => if wayB (!q.1) p.1 = true then .inr (some p) else .inl (!q.1, p.2)
/-- followed, as a value -/
noncomputable def folV (s t : Tab) (b : Bool) : Th → Th
  | none => none
  | some p => if wayB b p.1 = true then some p else val (fB s t) (b, p.2)
def eB3 (q : SB) : S3 := (if q.1 = true then 0 else 1, if q.1 = true then -1 else 1, q.2)
section
variable {R : Nat} {s t : Tab}
theorem inB_at (q : SB) : thingAt (([s, t] : List Tab).getD (eB3 q).1.toNat ([], [])) (eB3 q).2.1 (eB3 q).2.2 = inB s t q := by
  obtain ⟨b, r⟩ := q
  cases b <;> rfl
theorem inB_ok (hs : TabOk R s) (ht : TabOk R t) {q : SB} (h : 0 ≤ q.2 ∧ q.2 < (R : Int)) : ThOk R (inB s t q) := by
  unfold inB
  have side : ∀ l : List Th, l.length = R → (∀ x ∈ l, ThOk R x) → ThOk R (l.getD q.2.toNat none) := fun l h1 h2 => by
    have hl2 : q.2.toNat < l.length := by omega
    have e : l.getD q.2.toNat none = l[q.2.toNat] := by rw [List.getD_eq_getElem?_getD, List.getElem?_eq_getElem hl2]; rfl
    rw [e]
    exact h2 _ (List.getElem_mem _)
  split
  · exact side s.2 hs.l2 hs.o2
  · exact side t.1 ht.l1 ht.o1
theorem wf_eB (q : SB) : wf [s, t] (eB3 q) = match inB s t q with | none => .inr none | some p => .inl ((eB3 q).1 + p.1, p.1, p.2) := by
  rw [← inB_at]
  unfold wf
  have hin : 0 ≤ (eB3 q).1 ∧ (eB3 q).1 < (([s, t] : List Tab).length : Int) := by
    obtain ⟨b, r⟩ := q
    cases b
    · exact show (0 : Int) ≤ 1 ∧ (1 : Int) < 2 by decide
    · exact show (0 : Int) ≤ 0 ∧ (0 : Int) < 2 by decide
  exact (if_pos hin).trans rfl
theorem wf_out (a w r : Int) (h : ¬ (0 ≤ a ∧ a < 2)) : wf [s, t] (a, w, r) = .inr (some (w, r)) := by
  unfold wf
  exact if_neg h
/-- the two walks are one -/
theorem val_fB (hs : TabOk R s) (ht : TabOk R t) {q : SB} (h : 0 ≤ q.2 ∧ q.2 < (R : Int)) : val (fB s t) q = val (wf [s, t]) (eB3 q) := by
  refine val_great (f := wf [s, t]) (g := fB s t) (e := eB3) (P := fun q => 0 ≤ q.2 ∧ q.2 < (R : Int)) (fun q q' hq e => ?_) (fun q o hq e => ?_) (fun q q' hq e => ?_) h
  · have ok := inB_ok hs ht hq
    unfold fB at e
    cases hi : inB s t q with
    | none => rw [hi] at e; cases e
    | some p =>
      rw [hi] at e ok
      by_cases hw : wayB (!q.1) p.1 = true
      · simp only [if_pos hw] at e; cases e
      · simp only [if_neg hw] at e; cases e; exact ok.2
  · have w := wf_eB (s := s) (t := t) q
    unfold fB at e
    cases hi : inB s t q with
    | none => rw [hi] at e w; cases e; exact val_inr w
    | some p =>
      have ok := inB_ok hs ht hq
      rw [hi] at e w ok
      by_cases hw : wayB (!q.1) p.1 = true
      · simp only [if_pos hw] at e
        cases e
        rw [val_inl w]
        refine val_inr (wf_out _ _ _ ?_)
        obtain ⟨b, r⟩ := q
        obtain ⟨hp, _⟩ := ok
        unfold wayB at hw
        have hw1 : (!b) = decide (p.1 = 1) := by simpa using hw
        cases b with
        | false =>
          have e1 : p.1 = 1 := of_decide_eq_true hw1.symm
          rw [e1]
          exact show ¬ ((0 : Int) ≤ 1 + 1 ∧ (1 : Int) + 1 < 2) by decide
        | true =>
          have e1 : p.1 = -1 := by
            rcases hp with hp | hp
            · rw [hp] at hw1; cases hw1
            · exact hp
          rw [e1]
          exact show ¬ ((0 : Int) ≤ 0 + -1 ∧ (0 : Int) + -1 < 2) by decide
      · simp only [if_neg hw] at e; cases e
  · have w := wf_eB (s := s) (t := t) q
    unfold fB at e
    cases hi : inB s t q with
    | none => rw [hi] at e; cases e
    | some p =>
      have ok := inB_ok hs ht hq
      rw [hi] at e w ok
      by_cases hw : wayB (!q.1) p.1 = true
      · simp only [if_pos hw] at e; cases e
      · simp only [if_neg hw] at e
        cases e
        refine ⟨0, _, w, ?_⟩
        show _ = eB3 (!q.1, p.2)
        obtain ⟨b, r⟩ := q
        obtain ⟨hp, _⟩ := ok
        unfold wayB at hw
        have hw1 : ¬ (!b) = decide (p.1 = 1) := by simpa using hw
        cases b with
        | false =>
          have e1 : p.1 = -1 := by
            rcases hp with hp | hp
            · rw [hp] at hw1; exact absurd rfl hw1
            · exact hp
          rw [e1]
          rfl
        | true =>
          have e1 : p.1 = 1 := by
            rcases hp with hp | hp
            · exact hp
            · rw [hp] at hw1; exact absurd rfl hw1
          rw [e1]
          rfl
def kB (q : SB) : NestedKey := .tup [.num (if q.1 = true then 1 else 0), .num q.2]
def qD (q : SB) : D := .tup [.bl q.1, .int q.2]
def kvB (st : List SB) : List (NestedKey × D) := st.map fun p => (kB p, .bl true)
theorem kB_inj {p q : SB} (h : kB p = kB q) : p = q := by
  obtain ⟨b, r⟩ := p
  obtain ⟨b', r'⟩ := q
  unfold kB at h
  injection h with h
  injection h with h1 h2
  injection h1 with h1
  injection h2 with h2 _
  injection h2 with h2
  cases b <;> cases b' <;> first | (exfalso; simp at h1; done) | (simp only at h2; rw [h2])
theorem keyIn_B (p : SB) (st : List SB) : keyIn (qD p) (kvB st) = .ok (kB p) := by
  have h : (kvB st).all (fun p => isTupKey p.1) = true := by
    rw [List.all_eq_true]
    intro q hq
    obtain ⟨x, _, rfl⟩ := List.mem_map.mp hq
    rfl
  have hd : (kB p).depth ≤ 8 := by
    unfold kB
    simp [NestedKey.depth, NestedKey.depthAll]
  show (match key (qD p) with | some k => if (keysWith k (kvB st) && (isTupKey k || leafD (qD p))) = true then DI.R.ok k else .bad | none => .bad) = _
  have hk : key (qD p) = some (kB p) := rfl
  rw [hk]
  have : (keysWith (kB p) (kvB st) && (isTupKey (kB p) || leafD (qD p))) = true := by
    unfold keysWith
    rw [h, decide_eq_true hd]
    rfl
  simp only [this, if_true]
theorem any_B (p : SB) (st : List SB) : (kvB st).any (fun q => decide (q.1 = kB p)) = decide (p ∈ st) := by
  unfold kvB
  rw [List.any_map, Bool.eq_iff_iff, List.any_eq_true, decide_eq_true_iff]
  constructor
  · rintro ⟨q, hq, e⟩
    have e : kB q = kB p := of_decide_eq_true e
    rw [← kB_inj e]; exact hq
  · exact fun h => ⟨p, h, decide_eq_true rfl⟩
theorem dget_B (p : SB) (st : List SB) : (dget (kvB st) (kB p)).isSome = decide (p ∈ st) := by rw [find_map_some, any_B]
theorem dput_B {p : SB} {st : List SB} (h : p ∉ st) : dput (kvB st) (kB p) (.bl true) = kvB (st ++ [p]) := by
  unfold dput
  rw [any_B, decide_eq_false h, if_neg Bool.false_ne_true]
  unfold kvB
  rw [List.map_append]
  rfl
theorem eqD_bl (a b : Bool) : eqD (.bl a) (.bl b) = .ok (a == b) := by
  rw [eqD_of (d := .bool a) (e := .bool b) rfl rfl rfl rfl]
  rfl
def sF (s t : Tab) (th : Th) (b : Bool) (met : List SB) (x5 x6 : Option D) : Sl := [some (tabD s), some (tabD t), some (thD th), some (.bl b), some (.dct true (kvB met)), x5, x6]
noncomputable def cF : Sl → DI.R D := eC .notN (eV 2) (eK (.non))
noncomputable def fF : SF := (sSeq (sUnp (.many [5, 6]) (eV 2)) <|
    sSeq (sIf (eC .eq (eV 3) (eC .eq (eV 5) (eK (.int 1))))
      (sRetV 2)
      (sSkip)) <|
    sSeq (sIf (eC .mem (eTup (aC (eO (eV 3)) (aC (eO (eV 6)) (aN)))) (eV 4))
      (sRet (eK (.non)))
      (sSkip)) <|
    sSeq (sPutK 4 (eTup (aC (eO (eV 3)) (aC (eO (eV 6)) (aN)))) (eK (.bl true))) <|
    sSeq (sIf (eV 3)
      (sSet 2 (eO (eIx (eIx (eV 0) (eK (.int 1))) (eV 6))))
      (sSet 2 (eO (eIx (eIx (eV 1) (eK (.int 0))) (eV 6))))) <|
    sSet 3 (eNot (eV 3)))
theorem cF_some (p : Int × Int) (b : Bool) (met : List SB) (x5 x6 : Option D) : cF (sF s t (some p) b met x5 x6) = .ok (.bl true) := rfl
theorem cF_none (b : Bool) (met : List SB) (x5 x6 : Option D) : cF (sF s t none b met x5 x6) = .ok (.bl false) := rfl
theorem unp_ok (p : Int × Int) (b : Bool) (met : List SB) (x5 x6 : Option D) : sUnp (.many [5, 6]) (eV 2) (sF s t (some p) b met x5 x6) = .nx (sF s t (some p) b met (some (.int p.1)) (some (.int p.2))) := by
  unfold sF thD
  simp
theorem exit_ok (p : Int × Int) (b : Bool) (met : List SB) (x6 : Option D) : (eC .eq (eV 3) (eC .eq (eV 5) (eK (.int 1)))) (sF s t (some p) b met (some (.int p.1)) x6) = .ok (.bl (wayB b p.1)) := by
  unfold sF wayB
  simp [eqD_bl]
theorem leave_ok {p : Int × Int} {b : Bool} (h : wayB b p.1 = true) (met : List SB) (x5 x6 : Option D) : fF (sF s t (some p) b met x5 x6) = .rt (thD (some p)) := by
  show sSeq _ _ (sF s t (some p) b met x5 x6) = _
  have e := exit_ok (s := s) (t := t) p b met (some (.int p.2))
  rw [h] at e
  rw [sSeq_nx (unp_ok p b met x5 x6), sSeq_rt (d := thD (some p)) (by
    rw [sIf_true e]
    rfl)]
theorem in_ix (hs : TabOk R s) (ht : TabOk R t) {b : Bool} {r : Int} (h : 0 ≤ r ∧ r < (R : Int)) (th : Th) (met : List SB) (x5 : Option D) :
    sIf (eV 3) (sSet 2 (eO (eIx (eIx (eV 0) (eK (.int 1))) (eV 6)))) (sSet 2 (eO (eIx (eIx (eV 1) (eK (.int 0))) (eV 6)))) (sF s t th b met x5 (some (.int r))) = .nx (sF s t (inB s t (b, r)) b met x5 (some (.int r))) := by
  have er : ((r.toNat : Nat) : Int) = r := by omega
  have side : ∀ l : List Th, l.length = R → L2.atI (l.map thD) r = some (thD (l.getD r.toNat none)) := fun l h1 => by
    have hl2 : r.toNat < l.length := by omega
    have e : l.getD r.toNat none = l[r.toNat] := by rw [List.getD_eq_getElem?_getD, List.getElem?_eq_getElem hl2]; rfl
    have := L2.atI_nat (xs := l.map thD) (j := r.toNat) (v := thD l[r.toNat]) (by rw [List.getElem?_map, List.getElem?_eq_getElem hl2]; rfl)
    rw [er] at this
    rw [e]
    exact this
  have t0 : idxD (tabD t) (.int 0) = .ok (.tup (t.1.map thD)) := rfl
  have s1 : idxD (tabD s) (.int 1) = .ok (.tup (s.2.map thD)) := rfl
  cases b with
  | true =>
    have q := side s.2 hs.l2
    have cd := thD_clean (s.2.getD r.toNat none)
    rw [sIf_true (by rfl)]
    show _ = RS.nx [some (tabD s), some (tabD t), some (thD (s.2.getD r.toNat none)), some (.bl true), some (.dct true (kvB met)), x5, some (.int r)]
    unfold sF
    generalize thD (s.2.getD r.toNat none) = d at *
    generalize s.2.map thD = l at *
    simp [s1, q, cd]
  | false =>
    have q := side t.1 ht.l1
    have cd := thD_clean (t.1.getD r.toNat none)
    rw [sIf_false (by rfl)]
    show _ = RS.nx [some (tabD s), some (tabD t), some (thD (t.1.getD r.toNat none)), some (.bl false), some (.dct true (kvB met)), x5, some (.int r)]
    unfold sF
    generalize thD (t.1.getD r.toNat none) = d at *
    generalize t.1.map thD = l at *
    simp [t0, q, cd]
theorem fol_loop (hs : TabOk R s) (ht : TabOk R t) : ∀ (n : Nat) (met : List SB) (b : Bool) (p : Int × Int) (x5 x6 : Option D) (r : Option Th), met.length + n < 1000000 → 0 ≤ p.2 ∧ p.2 < (R : Int) → wayB b p.1 = false → metW (fB s t) n met (b, p.2) = some r →
    lp cF fF (n + 1) (sF s t (some p) b met x5 x6) = .rt (thD r.join) ∨ (r.join = none ∧ ∃ σ', lp cF fF (n + 1) (sF s t (some p) b met x5 x6) = .nx σ')
  | 0, _, _, _, _, _, _, _, _, _, h => by cases h
  | n + 1, met, b, p, x5, x6, r, hl, hp, hw, h => by
    rw [metW] at h
    have ki := keyIn_B (b, p.2) met
    have dg := dget_B (b, p.2) met
    have ex := exit_ok (s := s) (t := t) p b met (some (.int p.2))
    rw [hw] at ex
    have m1 : sIf (eC .eq (eV 3) (eC .eq (eV 5) (eK (.int 1)))) (sRetV 2) (sSkip) (sF s t (some p) b met (some (.int p.1)) (some (.int p.2))) = .nx (sF s t (some p) b met (some (.int p.1)) (some (.int p.2))) := by
      rw [sIf_false ex]
      rfl
    by_cases hm : (b, p.2) ∈ met
    · rw [if_pos hm] at h
      cases h
      left
      rw [decide_eq_true hm] at dg
      refine lpo_rt (cF_some p b met x5 x6) ?_
      show sSeq _ _ (sF s t (some p) b met x5 x6) = _
      rw [sSeq_nx (unp_ok p b met x5 x6), sSeq_nx m1, sSeq_rt (d := .non) (by
        unfold sF
        unfold qD at ki
        generalize thD (some p) = d
        simp only at ki
        rw [sIf_true (by simp [ki, dg])]
        rfl)]
      rfl
    · rw [if_neg hm] at h
      rw [decide_eq_false hm] at dg
      have m2 : sIf (eC .mem (eTup (aC (eO (eV 3)) (aC (eO (eV 6)) (aN)))) (eV 4)) (sRet (eK (.non))) (sSkip) (sF s t (some p) b met (some (.int p.1)) (some (.int p.2))) = .nx (sF s t (some p) b met (some (.int p.1)) (some (.int p.2))) := by
        unfold sF
        unfold qD at ki
        generalize thD (some p) = d
        simp only at ki
        rw [sIf_false (by simp [ki, dg])]
        rfl
      have l1 : (kvB met).length < sizeLine := by unfold kvB; rw [List.length_map]; have := sizeLine_big; omega
      have dp := dput_B hm
      have m3 : sPutK 4 (eTup (aC (eO (eV 3)) (aC (eO (eV 6)) (aN)))) (eK (.bl true)) (sF s t (some p) b met (some (.int p.1)) (some (.int p.2))) = .nx (sF s t (some p) b (met ++ [(b, p.2)]) (some (.int p.1)) (some (.int p.2))) := by
        unfold sF
        unfold qD at ki
        generalize thD (some p) = d
        simp only at ki
        simp [ki, dp, l1]
      have m5 : sSet 3 (eNot (eV 3)) (sF s t (inB s t (b, p.2)) b (met ++ [(b, p.2)]) (some (.int p.1)) (some (.int p.2))) = .nx (sF s t (inB s t (b, p.2)) (!b) (met ++ [(b, p.2)]) (some (.int p.1)) (some (.int p.2))) := by
        unfold sF
        generalize thD (inB s t (b, p.2)) = d
        simp
      have body : fF (sF s t (some p) b met x5 x6) = .nx (sF s t (inB s t (b, p.2)) (!b) (met ++ [(b, p.2)]) (some (.int p.1)) (some (.int p.2))) := by
        show sSeq _ _ (sF s t (some p) b met x5 x6) = _
        rw [sSeq_nx (unp_ok p b met x5 x6), sSeq_nx m1, sSeq_nx m2, sSeq_nx m3, sSeq_nx (in_ix hs ht hp (some p) _ _), m5]
      rw [lp_true (cF_some p b met x5 x6) body]
      have ok := inB_ok hs ht (q := (b, p.2)) hp
      have fe : fB s t (b, p.2) = match inB s t (b, p.2) with
        | none => .inr none
        | some p => if wayB (!b) p.1 = true then .inr (some p) else .inl (!b, p.2) := rfl
      generalize inB s t (b, p.2) = th at *
      cases th with
      | none =>
        rw [fe] at h
        cases h
        exact .inr ⟨rfl, _, lp_false (cF_none _ _ _ _)⟩
      | some p' =>
        rw [fe] at h
        cases hw' : wayB (!b) p'.1 with
        | true =>
          simp only [hw', if_true] at h
          cases h
          left
          exact lpo_rt (cF_some p' _ _ _ _) (leave_ok hw' _ _ _)
        | false =>
          simp only [hw', Bool.false_eq_true, if_false] at h
          exact fol_loop hs ht n _ (!b) p' _ _ r (by rw [List.length_append]; show met.length + 1 + n < _; omega) ok.2 hw' h
end
end DI
/-! followed, behind -/
namespace DI
open PySem
section
variable {R : Nat} {s t : Tab}
def eSB (R : Nat) (q : SB) : Int := (if q.1 = true then 1 else 0) * (R : Int) + q.2
theorem eSB_b (q : SB) (hq : 0 ≤ q.2 ∧ q.2 < (R : Int)) : 0 ≤ eSB R q ∧ eSB R q < ((2 * R : Nat) : Int) := by
  obtain ⟨b, x⟩ := q
  have hq : 0 ≤ x ∧ x < (R : Int) := hq
  cases b
  · show 0 ≤ 0 * (R : Int) + x ∧ 0 * (R : Int) + x < _
    omega
  · show 0 ≤ 1 * (R : Int) + x ∧ 1 * (R : Int) + x < _
    omega
theorem eSB_inj (q q' : SB) (hq : 0 ≤ q.2 ∧ q.2 < (R : Int)) (hq' : 0 ≤ q'.2 ∧ q'.2 < (R : Int)) (e : eSB R q = eSB R q') : q = q' := by
  obtain ⟨b, x⟩ := q
  obtain ⟨b', x'⟩ := q'
  have hq : 0 ≤ x ∧ x < (R : Int) := hq
  have hq' : 0 ≤ x' ∧ x' < (R : Int) := hq'
  cases b <;> cases b'
  · have e : 0 * (R : Int) + x = 0 * (R : Int) + x' := e
    rw [show x = x' by omega]
  · have e : 0 * (R : Int) + x = 1 * (R : Int) + x' := e
    omega
  · have e : 1 * (R : Int) + x = 0 * (R : Int) + x' := e
    omega
  · have e : 1 * (R : Int) + x = 1 * (R : Int) + x' := e
    rw [show x = x' by omega]
theorem fB_P (hs : TabOk R s) (ht : TabOk R t) {q q' : SB} (h : 0 ≤ q.2 ∧ q.2 < (R : Int)) (e : fB s t q = .inl q') : 0 ≤ q'.2 ∧ q'.2 < (R : Int) := by
  have ok := inB_ok hs ht h
  unfold fB at e
  cases hi : inB s t q with
  | none => rw [hi] at e; cases e
  | some p =>
    rw [hi] at e ok
    by_cases hw : wayB (!q.1) p.1 = true
    · simp only [if_pos hw] at e; cases e
    · simp only [if_neg hw] at e; cases e; exact ok.2
theorem followed_ok (hs : TabOk R s) (ht : TabOk R t) (hr : 0 < R) (hr2 : R ≤ 100) (b : Bool) {th : Th} (hth : ThOk R th) : h_p_followed [tabD s, tabD t, thD th, .bl b] = .ok (thD (folV s t b th)) := by
  unfold h_p_followed runF b_p_followed
  have a1 : sSet 4 eD0 (startL 7 [tabD s, tabD t, thD th, .bl b]) = .nx (sF s t th b [] none none) := rfl
  have done : ∀ (d : D) (n : Nat), lp cF fF n (sF s t th b [] none none) = .rt d → resR (sSeq (sSet 4 eD0) (sSeq (sWhl cF fF) (sRet (eK .non))) (startL 7 [tabD s, tabD t, thD th, .bl b])) = .ok d := fun d n e => by
    rw [sSeq_nx a1, sSeq_rt (whl_eq e (by intro h; cases h))]
    rfl
  have done2 : ∀ (σ' : Sl) (n : Nat), lp cF fF n (sF s t th b [] none none) = .nx σ' → resR (sSeq (sSet 4 eD0) (sSeq (sWhl cF fF) (sRet (eK .non))) (startL 7 [tabD s, tabD t, thD th, .bl b])) = .ok .non := fun σ' n e => by
    rw [sSeq_nx a1, sSeq_nx (whl_eq e (by intro h; cases h))]
    rfl
  show resR (sSeq (sSet 4 eD0) (sSeq (sWhl cF fF) (sRet (eK .non))) (startL 7 [tabD s, tabD t, thD th, .bl b])) = _
  cases th with
  | none => exact done2 _ 1 (lp_false (cF_none _ _ _ _))
  | some p =>
    cases hw : wayB b p.1 with
    | true =>
      have : folV s t b (some p) = some p := by
        show (if wayB b p.1 = true then some p else val (fB s t) (b, p.2)) = _
        rw [if_pos hw]
      rw [this]
      exact done _ 1 (lpo_rt (cF_some p _ _ _ _) (leave_ok hw _ _ _))
    | false =>
      have : folV s t b (some p) = val (fB s t) (b, p.2) := by
        show (if wayB b p.1 = true then some p else val (fB s t) (b, p.2)) = _
        rw [hw]; rfl
      rw [this]
      have hb : 2 * R ≤ 200 := by omega
      obtain ⟨r, hm⟩ := metW_fuel (f := fB s t) (P := fun q : SB => 0 ≤ q.2 ∧ q.2 < (R : Int)) (N := 2 * R) (fun l nd hp => pig_by (eSB R) (2 * R) eSB_b eSB_inj l nd hp) (fun q q' hq e => fB_P hs ht hq e) (2 * R + 1) [] (b, p.2) List.nodup_nil (fun q h => nomatch h) hth.2 (by simp)
      have hv : val (fB s t) (b, p.2) = r.join := by
        unfold val
        rw [metW_sem _ [] _ r (fun q h => nomatch h) hm]
      rw [hv]
      rcases fol_loop hs ht (2 * R + 1) [] b p none none r (by simp; omega) hth.2 hw hm with e | ⟨er, σ', e⟩
      · exact done _ _ e
      · rw [er]; exact done2 _ _ e
theorem fol_fore (hs : TabOk R s) (ht : TabOk R t) {r : Nat} (h : r < R) : folV s t false (s.1.getD r none) = val (wf [s, t]) (0, 1, (r : Int)) := by
  have hl : r < s.1.length := by rw [hs.l1]; exact h
  have e : s.1.getD r none = s.1[r] := by rw [List.getD_eq_getElem?_getD, List.getElem?_eq_getElem hl]; rfl
  have ok : ThOk R (s.1.getD r none) := by rw [e]; exact hs.o1 _ (List.getElem_mem _)
  have w : wf [s, t] (0, 1, (r : Int)) = match s.1.getD r none with | none => .inr none | some p => .inl (0 + p.1, p.1, p.2) := by
    unfold wf
    exact (if_pos (show (0 : Int) ≤ 0 ∧ (0 : Int) < 2 by decide)).trans rfl
  generalize s.1.getD r none = th at *
  cases th with
  | none => exact (val_inr w).symm
  | some p =>
    rw [val_inl w]
    obtain ⟨hw, hp⟩ := ok
    show (if wayB false p.1 = true then some p else val (fB s t) (false, p.2)) = _
    rcases hw with hw | hw
    · have : wayB false p.1 = false := by unfold wayB; rw [hw]; rfl
      rw [this, if_neg Bool.false_ne_true, val_fB hs ht hp, hw]
      rfl
    · have : wayB false p.1 = true := by unfold wayB; rw [hw]; rfl
      rw [this, if_pos rfl, hw]
      have := val_inr (wf_out (s := s) (t := t) (0 + -1) (-1) p.2 (by omega))
      rw [this, ← hw]
theorem fol_aft (hs : TabOk R s) (ht : TabOk R t) {r : Nat} (h : r < R) : folV s t true (t.2.getD r none) = val (wf [s, t]) (1, -1, (r : Int)) := by
  have hl : r < t.2.length := by rw [ht.l2]; exact h
  have e : t.2.getD r none = t.2[r] := by rw [List.getD_eq_getElem?_getD, List.getElem?_eq_getElem hl]; rfl
  have ok : ThOk R (t.2.getD r none) := by rw [e]; exact ht.o2 _ (List.getElem_mem _)
  have w : wf [s, t] (1, -1, (r : Int)) = match t.2.getD r none with | none => .inr none | some p => .inl (1 + p.1, p.1, p.2) := by
    unfold wf
    exact (if_pos (show (0 : Int) ≤ 1 ∧ (1 : Int) < 2 by decide)).trans rfl
  generalize t.2.getD r none = th at *
  cases th with
  | none => exact (val_inr w).symm
  | some p =>
    rw [val_inl w]
    obtain ⟨hw, hp⟩ := ok
    show (if wayB true p.1 = true then some p else val (fB s t) (true, p.2)) = _
    rcases hw with hw | hw
    · have : wayB true p.1 = true := by unfold wayB; rw [hw]; rfl
      rw [this, if_pos rfl, hw]
      have := val_inr (wf_out (s := s) (t := t) (1 + 1) 1 p.2 (by omega))
      rw [this, ← hw]
    · have : wayB true p.1 = false := by unfold wayB; rw [hw]; rfl
      rw [this, if_neg Bool.false_ne_true, val_fB hs ht hp, hw]
      rfl
noncomputable def gFol (s t : Tab) (b : Bool) : D → D
  | .non => .non
  | .tup [.int w, .int r] => thD (folV s t b (some (w, r)))
  | d => d
theorem gFol_th (b : Bool) (x : Th) : gFol s t b (thD x) = thD (folV s t b x) := by cases x <;> rfl
theorem map_getD {l : List Th} {n : Nat} (h : l.length = n) (f g : Th → Th) (hf : ∀ r, r < n → f (l.getD r none) = g (l.getD r none)) : l.map f = (List.range n).map fun r => g (l.getD r none) := by
  apply List.ext_getElem?
  intro i
  rw [List.getElem?_map, List.getElem?_map]
  by_cases hi : i < n
  · have hl : i < l.length := by omega
    have e : l.getD i none = l[i] := by rw [List.getD_eq_getElem?_getD, List.getElem?_eq_getElem hl]; rfl
    have := hf i hi
    rw [List.getElem?_eq_getElem hl, List.getElem?_range hi]
    show some (f l[i]) = some (g (l.getD i none))
    rw [← this, e]
  · rw [List.getElem?_eq_none (by omega), List.getElem?_eq_none (by simp; omega)]
    rfl
theorem fore_eq (hs : TabOk R s) (ht : TabOk R t) : s.1.map (folV s t false) = (boxes [s, t] R).1 := by
  rw [map_getD hs.l1 (folV s t false) (folV s t false) fun _ _ => rfl]
  unfold boxes
  exact List.map_congr_left fun r hr => fol_fore hs ht (List.mem_range.mp hr)
theorem aft_eq (hs : TabOk R s) (ht : TabOk R t) : t.2.map (folV s t true) = (boxes [s, t] R).2 := by
  rw [map_getD ht.l2 (folV s t true) (folV s t true) fun _ _ => rfl]
  unfold boxes
  exact List.map_congr_left fun r hr => fol_aft hs ht (List.mem_range.mp hr)
theorem behind_ok (hs : TabOk R s) (ht : TabOk R t) (hr : 0 < R) (hr2 : R ≤ 100) : h_p_behind [tabD s, tabD t] = .ok (tabD (boxes [s, t] R)) := by
  have big := sizeLine_big
  have i0 : idxD (tabD s) (.int 0) = .ok (.tup (s.1.map thD)) := rfl
  have i1 : idxD (tabD t) (.int 1) = .ok (.tup (t.2.map thD)) := rfl
  unfold h_p_behind runF b_p_behind
  have c1 : eComp [4] (.one 4) (iSeq' (eIx (eV 0) (eK (.int 0)))) (eT) (eF h_p_followed (aC (eV 0) (aC (eV 1) (aC (eV 4) (aC (eK (.bl false)) (aN)))))) (startL 5 [tabD s, tabD t]) = .ok (.lst true ((boxes [s, t] R).1.map thD)) := by
    rw [← fore_eq hs ht, List.map_map]
    have e0 : (s.1.map (thD ∘ folV s t false)) = (s.1.map thD).map (gFol s t false) := by
      rw [List.map_map]
      exact List.map_congr_left fun x _ => (gFol_th false x).symm
    rw [e0]
    refine comp_ok (by have := thsD_clean s.1; generalize s.1.map thD = q at *; simp [i0, this]) (fun x hx => ?_) (by rw [List.length_map, hs.l1]; omega)
    obtain ⟨y, hy, rfl⟩ := List.mem_map.mp hx
    have e := followed_ok hs ht hr hr2 false (hs.o1 y hy)
    rw [gFol_th]
    have cy := thD_clean y
    have fy := thD_frz y
    generalize thD (folV s t false y) = d at *
    generalize thD y = d2 at *
    unfold cBody
    simp [cy, fy, e]
  have c2 : eComp [4] (.one 4) (iSeq' (eIx (eV 1) (eK (.int 1)))) (eT) (eF h_p_followed (aC (eV 0) (aC (eV 1) (aC (eV 4) (aC (eK (.bl true)) (aN)))))) [some (tabD s), some (tabD t), some (.lst true ((boxes [s, t] R).1.map thD)), none, none] = .ok (.lst true ((boxes [s, t] R).2.map thD)) := by
    generalize (boxes [s, t] R).1.map thD = q1
    rw [← aft_eq hs ht, List.map_map]
    have e0 : (t.2.map (thD ∘ folV s t true)) = (t.2.map thD).map (gFol s t true) := by
      rw [List.map_map]
      exact List.map_congr_left fun x _ => (gFol_th true x).symm
    rw [e0]
    refine comp_ok (by have := thsD_clean t.2; generalize t.2.map thD = q at *; simp [i1, this]) (fun x hx => ?_) (by rw [List.length_map, ht.l2]; omega)
    obtain ⟨y, hy, rfl⟩ := List.mem_map.mp hx
    have e := followed_ok hs ht hr hr2 true (ht.o2 y hy)
    rw [gFol_th]
    have cy := thD_clean y
    have fy := thD_frz y
    generalize thD (folV s t true y) = d at *
    generalize thD y = d2 at *
    unfold cBody
    simp [cy, fy, e]
  have b1 : sSet 2 (eComp [4] (.one 4) (iSeq' (eIx (eV 0) (eK (.int 0)))) (eT) (eF h_p_followed (aC (eV 0) (aC (eV 1) (aC (eV 4) (aC (eK (.bl false)) (aN))))))) (startL 5 [tabD s, tabD t]) = .nx [some (tabD s), some (tabD t), some (.lst true ((boxes [s, t] R).1.map thD)), none, none] := by
    show rS _ _ _ = _
    rw [c1]
    rfl
  have b2 : sSet 3 (eComp [4] (.one 4) (iSeq' (eIx (eV 1) (eK (.int 1)))) (eT) (eF h_p_followed (aC (eV 0) (aC (eV 1) (aC (eV 4) (aC (eK (.bl true)) (aN))))))) [some (tabD s), some (tabD t), some (.lst true ((boxes [s, t] R).1.map thD)), none, none] = .nx [some (tabD s), some (tabD t), some (.lst true ((boxes [s, t] R).1.map thD)), some (.lst true ((boxes [s, t] R).2.map thD)), none] := by
    show rS _ _ _ = _
    rw [c2]
    rfl
  rw [sSeq_nx b1, sSeq_nx b2]
  have k1 := thsD_clean (boxes [s, t] R).1
  have k2 := thsD_clean (boxes [s, t] R).2
  show _ = DI.R.ok (D.tup [.tup ((boxes [s, t] R).1.map thD), .tup ((boxes [s, t] R).2.map thD)])
  generalize (boxes [s, t] R).1.map thD = q1 at *
  generalize (boxes [s, t] R).2.map thD = q2 at *
  simp [k1, k2]
end
end DI
/-! a pair put together changes nothing -/
namespace DI
open PySem
section
variable {R : Nat} {s t : Tab} {A B : List Tab}
def eM (k : Int) (q : S3) : S3 := if q.1 < k then q else if q.1 = k then (if q.2.1 = -1 then (k + 1, q.2) else q) else (q.1 + 1, q.2)
def lift (k : Int) (q : S3) : S3 := (k + q.1, q.2)
/-- within the pair the long walk goes as the short one -/
theorem wf_in {q : S3} (h : 0 ≤ q.1 ∧ q.1 < 2) : wf (A ++ s :: t :: B) (lift A.length q) = match wf [s, t] q with | .inl q' => .inl (lift A.length q') | .inr o => .inr o := by
  obtain ⟨a, w, r⟩ := q
  simp only at h
  have ha : a = 0 ∨ a = 1 := by omega
  have hin : 0 ≤ (lift (A.length : Int) (a, w, r)).1 ∧ (lift (A.length : Int) (a, w, r)).1 < ((A ++ s :: t :: B).length : Int) := by
    show 0 ≤ (A.length : Int) + a ∧ (A.length : Int) + a < _
    rw [List.length_append, List.length_cons, List.length_cons]
    omega
  have e1 : wf (A ++ s :: t :: B) (lift A.length (a, w, r)) = match thingAt ((A ++ s :: t :: B).getD (lift (A.length : Int) (a, w, r)).1.toNat ([], [])) w r with | none => .inr none | some p => .inl ((A.length : Int) + a + p.1, p.1, p.2) := (if_pos hin).trans rfl
  have e2 : wf [s, t] (a, w, r) = match thingAt (([s, t] : List Tab).getD a.toNat ([], [])) w r with | none => .inr none | some p => .inl (a + p.1, p.1, p.2) := (if_pos (show 0 ≤ a ∧ a < 2 from h)).trans rfl
  have e3 : (A ++ s :: t :: B).getD (lift (A.length : Int) (a, w, r)).1.toNat ([], []) = ([s, t] : List Tab).getD a.toNat ([], []) := by
    show (A ++ s :: t :: B).getD ((A.length : Int) + a).toNat ([], []) = _
    rcases ha with rfl | rfl
    · rw [show ((A.length : Int) + 0).toNat = A.length by omega, List.getD_eq_getElem?_getD, List.getElem?_append_right (Nat.le_refl _), Nat.sub_self]
      rfl
    · rw [show ((A.length : Int) + 1).toNat = A.length + 1 by omega, List.getD_eq_getElem?_getD, List.getElem?_append_right (by omega), show A.length + 1 - A.length = 1 by omega]
      rfl
  rw [e1, e2, e3]
  cases thingAt (([s, t] : List Tab).getD a.toNat ([], [])) w r with
  | none => rfl
  | some p =>
    show Sum.inl _ = Sum.inl _
    congr 1
    exact Prod.ext (by show (A.length : Int) + a + p.1 = (A.length : Int) + (a + p.1); omega) rfl
/-- how the pair is left -/
theorem in_exit (hs : TabOk R s) (ht : TabOk R t) : ∀ (n : Nat) (q : S3) (o : Th), PS3 R [s, t] q → 0 ≤ q.1 ∧ q.1 < 2 → outN (wf [s, t]) n q = some o →
    match o with
    | none => val (wf (A ++ s :: t :: B)) (lift A.length q) = none
    | some p => ∃ j, itN (wf (A ++ s :: t :: B)) (j + 1) (lift A.length q) (lift A.length (if p.1 = 1 then 2 else -1, p.1, p.2))
  | 0, _, _, _, _, h => by cases h
  | n + 1, q, o, hP, hin, h => by
    have hL : ∀ x ∈ ([s, t] : List Tab), TabOk R x := fun x hx => by
      rcases List.mem_cons.mp hx with rfl | hx
      · exact hs
      · rw [List.mem_singleton.mp hx]; exact ht
    have w := wf_in (A := A) (B := B) (s := s) (t := t) hin
    cases e : wf [s, t] q with
    | inr x =>
      rw [outN_inr e] at h
      rw [e] at w
      cases h
      have hx : o = none := by
        unfold wf at e
        rw [if_pos (show 0 ≤ q.1 ∧ q.1 < (([s, t] : List Tab).length : Int) from hin)] at e
        cases hth : thingAt (([s, t] : List Tab).getD q.1.toNat ([], [])) q.2.1 q.2.2 with
        | none => rw [hth] at e; cases e; rfl
        | some p => rw [hth] at e; cases e
      subst hx
      exact val_inr w
    | inl q' =>
      rw [outN_inl e] at h
      rw [e] at w
      have hP' := wf_P hL hP e
      have hst : q'.1 = q.1 + q'.2.1 := by
        unfold wf at e
        rw [if_pos (show 0 ≤ q.1 ∧ q.1 < (([s, t] : List Tab).length : Int) from hin)] at e
        cases hth : thingAt (([s, t] : List Tab).getD q.1.toNat ([], [])) q.2.1 q.2.2 with
        | none => rw [hth] at e; cases e
        | some p => rw [hth] at e; cases e; rfl
      by_cases hin' : 0 ≤ q'.1 ∧ q'.1 < 2
      · have ih := in_exit hs ht n q' o hP' hin' h
        cases o with
        | none => exact (val_inl w).trans ih
        | some p =>
          obtain ⟨j, hj⟩ := ih
          exact ⟨j + 1, _, w, hj⟩
      · have e2 : wf [s, t] q' = .inr (some (q'.2.1, q'.2.2)) := by
          unfold wf
          exact if_neg hin'
        cases n with
        | zero => cases h
        | succ n =>
          rw [outN_inr e2] at h
          cases h
          refine ⟨0, _, w, ?_⟩
          show lift _ q' = lift _ _
          congr 1
          obtain ⟨_, hw, _⟩ := hP'
          refine Prod.ext ?_ rfl
          show q'.1 = if q'.2.1 = 1 then 2 else -1
          rcases hw with hw | hw <;> rw [hw] at hst ⊢ <;> simp <;> omega
end
end DI
/-! a pair put together changes nothing: the law -/
namespace DI
open PySem
section
variable {R : Nat} {s t : Tab} {A B : List Tab}
theorem in_never : ∀ (n : Nat) (q : S3), sem (wf [s, t]) q = none → outN (wf (A ++ s :: t :: B)) n (lift A.length q) = none
  | 0, _, _ => rfl
  | n + 1, q, h => by
    by_cases hin : 0 ≤ q.1 ∧ q.1 < 2
    · have w := wf_in (A := A) (B := B) (s := s) (t := t) hin
      cases e : wf [s, t] q with
      | inr o => rw [sem_inr e] at h; cases h
      | inl q' =>
        rw [e] at w
        rw [outN_inl w]
        exact in_never n q' (by rw [← sem_inl e]; exact h)
    · have e2 : wf [s, t] q = .inr (some (q.2.1, q.2.2)) := by
        unfold wf
        exact if_neg hin
      rw [sem_inr e2] at h; cases h
theorem getD_app (A : List Tab) (x : Tab) (B : List Tab) : (A ++ x :: B).getD A.length ([], []) = x := by
  rw [List.getD_eq_getElem?_getD, List.getElem?_append_right (Nat.le_refl _), Nat.sub_self]
  rfl
theorem wf_at {L : List Tab} {a w r : Int} (h : 0 ≤ a ∧ a < (L.length : Int)) : wf L (a, w, r) = match thingAt (L.getD a.toNat ([], [])) w r with | none => .inr none | some p => .inl (a + p.1, p.1, p.2) := (if_pos (show 0 ≤ a ∧ a < (L.length : Int) from h)).trans rfl
theorem wf_off {L : List Tab} {a w r : Int} (h : ¬ (0 ≤ a ∧ a < (L.length : Int))) : wf L (a, w, r) = .inr (some (w, r)) := if_neg h
theorem getD_rng {f : Nat → Th} {n k : Nat} (h : k < n) : ((List.range n).map f).getD k none = f k := by
  rw [List.getD_eq_getElem?_getD, List.getElem?_map, List.getElem?_range h]
  rfl
/-- what the box answers is the walk through the pair -/
theorem thing_box {w r : Int} (hw : w = 1 ∨ w = -1) (h0 : 0 ≤ r) (hr : r < (R : Int)) : thingAt (boxes [s, t] R) w r = val (wf [s, t]) (if w = -1 then 1 else 0, w, r) := by
  have hk : r.toNat < R := by omega
  have hr' : ((r.toNat : Nat) : Int) = r := by omega
  rcases hw with rfl | rfl
  · show ((List.range R).map fun (r : Nat) => val (wf [s, t]) (0, 1, (r : Int))).getD r.toNat none = _
    rw [getD_rng hk, hr']
    rfl
  · show ((List.range R).map fun (r : Nat) => val (wf [s, t]) ((([s, t] : List Tab).length : Int) - 1, -1, (r : Int))).getD r.toNat none = _
    rw [getD_rng hk, hr']
    rfl
theorem getD_off {x : Tab} {k : Nat} (h : k ≠ A.length) : (A ++ x :: B).getD k ([], []) = (A ++ s :: t :: B).getD (if k < A.length then k else k + 1) ([], []) := by
  rw [List.getD_eq_getElem?_getD, List.getD_eq_getElem?_getD]
  congr 1
  by_cases hk : k < A.length
  · rw [if_pos hk, List.getElem?_append_left hk, List.getElem?_append_left hk]
  · rw [if_neg hk, List.getElem?_append_right (by omega), List.getElem?_append_right (by omega)]
    obtain ⟨j, hj⟩ : ∃ j, k = A.length + 1 + j := ⟨k - (A.length + 1), by omega⟩
    rw [show k - A.length = j + 1 by omega, show k + 1 - A.length = j + 1 + 1 by omega]
    rfl
theorem merge_val (hA : ∀ x ∈ A, TabOk R x) (hs : TabOk R s) (ht : TabOk R t) (hB : ∀ x ∈ B, TabOk R x) {q : S3} (hq : PS3 R (A ++ boxes [s, t] R :: B) q) : val (wf (A ++ boxes [s, t] R :: B)) q = val (wf (A ++ s :: t :: B)) (eM A.length q) := by
  have hL2 : ∀ x ∈ ([s, t] : List Tab), TabOk R x := fun x hx => by
    rcases List.mem_cons.mp hx with rfl | hx
    · exact hs
    · rw [List.mem_singleton.mp hx]; exact ht
  have hL : ∀ x ∈ A ++ boxes [s, t] R :: B, TabOk R x := fun x hx => by
    rcases List.mem_append.mp hx with hx | hx
    · exact hA x hx
    · rcases List.mem_cons.mp hx with rfl | hx
      · exact boxes_tab hL2 (by show 0 < 2; omega)
      · exact hB x hx
  have hlg : ((A ++ boxes [s, t] R :: B).length : Int) = A.length + 1 + B.length := by rw [List.length_append, List.length_cons]; omega
  have hlf : ((A ++ s :: t :: B).length : Int) = A.length + 2 + B.length := by rw [List.length_append, List.length_cons, List.length_cons]; omega
  -- what a step at the pair is
  have mid : ∀ (w r : Int), (w = 1 ∨ w = -1) → 0 ≤ r → r < (R : Int) → eM A.length ((A.length : Int), w, r) = lift A.length (if w = -1 then 1 else 0, w, r) := by
    intro w r hw _ _
    unfold eM lift
    rw [if_neg (show ¬ ((A.length : Int) < (A.length : Int)) by omega), if_pos rfl]
    rcases hw with rfl | rfl
    · show ((A.length : Int), (1 : Int), r) = ((A.length : Int) + 0, 1, r)
      rw [Int.add_zero]
    · rfl
  have out2 : ∀ (a w r : Int), a ≠ A.length → PS3 R (A ++ boxes [s, t] R :: B) (a, w, r) → 0 ≤ a ∧ a < ((A ++ boxes [s, t] R :: B).length : Int) → thingAt ((A ++ s :: t :: B).getD (eM A.length (a, w, r)).1.toNat ([], [])) w r = thingAt ((A ++ boxes [s, t] R :: B).getD a.toNat ([], [])) w r := by
    intro a w r ha hP hin
    rw [getD_off (A := A) (B := B) (s := s) (t := t) (x := boxes [s, t] R) (k := a.toNat) (by omega)]
    congr 2
    unfold eM
    by_cases h : a < (A.length : Int)
    · rw [if_pos (show (a, w, r).1 < (A.length : Int) from h), if_pos (by omega)]
    · rw [if_neg (show ¬ (a, w, r).1 < (A.length : Int) from h), if_neg (show ¬ (a, w, r).1 = (A.length : Int) from ha), if_neg (by omega)]
      show (a + 1).toNat = _
      omega
  have eMa : ∀ (a w r : Int), a ≠ A.length → eM A.length (a, w, r) = (if a < (A.length : Int) then a else a + 1, w, r) := by
    intro a w r ha
    unfold eM
    by_cases h : a < (A.length : Int)
    · rw [if_pos (show (a, w, r).1 < (A.length : Int) from h), if_pos h]
    · rw [if_neg (show ¬ (a, w, r).1 < (A.length : Int) from h), if_neg (show ¬ (a, w, r).1 = (A.length : Int) from ha), if_neg h]
  refine val_great (P := PS3 R (A ++ boxes [s, t] R :: B)) (e := eM A.length) (fun x y hx e => wf_P hL hx e) ?_ ?_ hq
  · rintro ⟨a, w, r⟩ o hP e
    have hP' := hP
    obtain ⟨⟨h1, h2⟩, hw, h0, hr⟩ := hP'
    simp only at h1 h2 hw h0 hr
    by_cases hin : 0 ≤ a ∧ a < ((A ++ boxes [s, t] R :: B).length : Int)
    · rw [wf_at hin] at e
      by_cases ha : a = A.length
      · subst ha
        rw [show (A.length : Int).toNat = A.length by omega, getD_app, thing_box hw h0 hr] at e
        rw [mid w r hw h0 hr]
        cases hv : val (wf [s, t]) (if w = -1 then 1 else 0, w, r) with
        | some p => rw [hv] at e; cases e
        | none =>
          rw [hv] at e
          cases e
          unfold val at hv
          cases hsem : sem (wf [s, t]) (if w = -1 then 1 else 0, w, r) with
          | none =>
            unfold val
            rw [sem_never fun n => in_never n _ hsem]
            rfl
          | some o =>
            rw [hsem] at hv
            have ho : o = none := hv
            subst ho
            obtain ⟨n, hn⟩ := sem_ends hsem
            refine in_exit (A := A) (B := B) hs ht n _ none ⟨?_, hw, h0, hr⟩ ?_ hn
            · show -1 ≤ (if w = -1 then (1 : Int) else 0) ∧ (if w = -1 then (1 : Int) else 0) ≤ 2
              rcases hw with rfl | rfl <;> simp
            · show 0 ≤ (if w = -1 then (1 : Int) else 0) ∧ (if w = -1 then (1 : Int) else 0) < 2
              rcases hw with rfl | rfl <;> simp
      · have key := out2 a w r ha hP hin
        cases hth : thingAt ((A ++ boxes [s, t] R :: B).getD a.toNat ([], [])) w r with
        | some p => rw [hth] at e; cases e
        | none =>
          rw [hth] at e key
          cases e
          rw [eMa a w r ha] at key ⊢
          apply val_inr
          rw [wf_at (by split <;> omega), key]
    · rw [wf_off hin] at e
      cases e
      rw [eMa a w r (by omega)]
      apply val_inr
      exact wf_off (by split <;> omega)
  · rintro ⟨a, w, r⟩ y hP e
    have hP' := hP
    obtain ⟨⟨h1, h2⟩, hw, h0, hr⟩ := hP'
    simp only at h1 h2 hw h0 hr
    have hPy := wf_P hL hP e
    by_cases hin : 0 ≤ a ∧ a < ((A ++ boxes [s, t] R :: B).length : Int)
    · rw [wf_at hin] at e
      by_cases ha : a = A.length
      · subst ha
        rw [show (A.length : Int).toNat = A.length by omega, getD_app, thing_box hw h0 hr] at e
        rw [mid w r hw h0 hr]
        cases hv : val (wf [s, t]) (if w = -1 then 1 else 0, w, r) with
        | none => rw [hv] at e; cases e
        | some p =>
          rw [hv] at e
          cases e
          unfold val at hv
          cases hsem : sem (wf [s, t]) (if w = -1 then 1 else 0, w, r) with
          | none => rw [hsem] at hv; cases hv
          | some o =>
            rw [hsem] at hv
            have ho : o = some p := hv
            subst ho
            obtain ⟨n, hn⟩ := sem_ends hsem
            obtain ⟨j, hj⟩ := in_exit (A := A) (B := B) hs ht n _ (some p) ⟨by
              show -1 ≤ (if w = -1 then (1 : Int) else 0) ∧ (if w = -1 then (1 : Int) else 0) ≤ 2
              rcases hw with rfl | rfl <;> simp, hw, h0, hr⟩ (by
              show 0 ≤ (if w = -1 then (1 : Int) else 0) ∧ (if w = -1 then (1 : Int) else 0) < 2
              rcases hw with rfl | rfl <;> simp) hn
            refine ⟨j, ?_⟩
            have hw2 : p.1 = 1 ∨ p.1 = -1 := hPy.2.1
            have : eM A.length ((A.length : Int) + p.1, p.1, p.2) = lift A.length (if p.1 = 1 then 2 else -1, p.1, p.2) := by
              rw [eMa _ _ _ (by rcases hw2 with h | h <;> rw [h] <;> omega)]
              unfold lift
              refine Prod.ext ?_ rfl
              show (if (A.length : Int) + p.1 < (A.length : Int) then (A.length : Int) + p.1 else (A.length : Int) + p.1 + 1) = (A.length : Int) + (if p.1 = 1 then 2 else -1)
              rcases hw2 with h | h <;> rw [h]
              · rw [if_neg (by omega), if_pos rfl]; omega
              · rw [if_pos (by omega), if_neg (by decide)]
            rw [this]
            exact hj
      · have key := out2 a w r ha hP hin
        cases hth : thingAt ((A ++ boxes [s, t] R :: B).getD a.toNat ([], [])) w r with
        | none => rw [hth] at e; cases e
        | some p =>
          rw [hth] at e key
          cases e
          rw [eMa a w r ha] at key ⊢
          refine ⟨0, _, ?_, rfl⟩
          rw [wf_at (by split <;> omega), key]
          show Sum.inl _ = Sum.inl _
          congr 1
          have hw2 : p.1 = 1 ∨ p.1 = -1 := hPy.2.1
          unfold eM
          rcases hw2 with h | h <;> rw [h]
          · by_cases hk : a < (A.length : Int)
            · rw [if_pos hk]
              by_cases hk2 : a + 1 < (A.length : Int)
              · rw [if_pos (show (a + 1, (1 : Int), p.2).1 < (A.length : Int) from hk2)]
              · rw [if_neg (show ¬ (a + 1, (1 : Int), p.2).1 < (A.length : Int) from hk2), if_pos (show (a + 1, (1 : Int), p.2).1 = (A.length : Int) by show a + 1 = _; omega), if_neg (show ¬ ((1 : Int), p.2).1 = -1 by show ¬ (1 : Int) = -1; decide)]
            · rw [if_neg hk, if_neg (show ¬ (a + 1, (1 : Int), p.2).1 < (A.length : Int) by show ¬ a + 1 < _; omega), if_neg (show ¬ (a + 1, (1 : Int), p.2).1 = (A.length : Int) by show ¬ a + 1 = _; omega)]
          · by_cases hk : a < (A.length : Int)
            · rw [if_pos hk, if_pos (show (a + -1, (-1 : Int), p.2).1 < (A.length : Int) by show a + -1 < _; omega)]
            · rw [if_neg hk]
              by_cases hk2 : a + -1 = (A.length : Int)
              · rw [if_neg (show ¬ (a + -1, (-1 : Int), p.2).1 < (A.length : Int) by show ¬ a + -1 < _; omega), if_pos (show (a + -1, (-1 : Int), p.2).1 = (A.length : Int) from hk2), if_pos (show ((-1 : Int), p.2).1 = -1 from rfl)]
                refine Prod.ext ?_ rfl
                show a + 1 + -1 = (A.length : Int) + 1
                omega
              · rw [if_neg (show ¬ (a + -1, (-1 : Int), p.2).1 < (A.length : Int) by show ¬ a + -1 < _; omega), if_neg (show ¬ (a + -1, (-1 : Int), p.2).1 = (A.length : Int) from hk2)]
                refine Prod.ext ?_ rfl
                show a + 1 + -1 = a + -1 + 1
                omega
    · rw [wf_off hin] at e
      cases e
/-- a pair's box in the list's box -/
theorem merge (hA : ∀ x ∈ A, TabOk R x) (hs : TabOk R s) (ht : TabOk R t) (hB : ∀ x ∈ B, TabOk R x) : boxes (A ++ boxes [s, t] R :: B) R = boxes (A ++ s :: t :: B) R := by
  have hl : 0 < (A ++ boxes [s, t] R :: B).length := by rw [List.length_append, List.length_cons]; omega
  unfold boxes
  refine Prod.ext ?_ ?_
  · apply List.map_congr_left
    intro r hr
    refine (merge_val hA hs ht hB (ps_fore (List.mem_range.mp hr) hl)).trans ?_
    congr 1
    unfold eM
    cases A with
    | nil => rfl
    | cons x A =>
      rw [if_pos (show ((0 : Int), (1 : Int), (r : Int)).1 < ((x :: A).length : Int) by show (0 : Int) < _; rw [List.length_cons]; omega)]
  · apply List.map_congr_left
    intro r hr
    refine (merge_val hA hs ht hB (ps_aft (List.mem_range.mp hr) hl)).trans ?_
    congr 1
    have hlg : ((A ++ boxes [s, t] R :: B).length : Int) = A.length + 1 + B.length := by rw [List.length_append, List.length_cons]; omega
    have hlf : ((A ++ s :: t :: B).length : Int) = A.length + 2 + B.length := by rw [List.length_append, List.length_cons, List.length_cons]; omega
    rw [hlg, hlf]
    unfold eM
    cases B with
    | nil =>
      rw [if_neg (by show ¬ (A.length : Int) + 1 + 0 - 1 < _; omega), if_pos (by show (A.length : Int) + 1 + 0 - 1 = _; omega), if_pos rfl]
      refine Prod.ext ?_ rfl
      show (A.length : Int) + 1 = A.length + 2 + 0 - 1
      omega
    | cons x B =>
      rw [if_neg (by show ¬ (A.length : Int) + 1 + ((x :: B).length : Int) - 1 < _; rw [List.length_cons]; omega), if_neg (by show ¬ (A.length : Int) + 1 + ((x :: B).length : Int) - 1 = _; rw [List.length_cons]; omega)]
      refine Prod.ext ?_ rfl
      show (A.length : Int) + 1 + ((x :: B).length : Int) - 1 + 1 = A.length + 2 + ((x :: B).length : Int) - 1
      omega
end
end DI
/-! one table; the still table -/
namespace DI
open PySem
section
variable {R : Nat} {T : Tab}
def stT (R : Nat) : Tab := ((List.range R).map fun (r : Nat) => some (1, (r : Int)), (List.range R).map fun (r : Nat) => some (-1, (r : Int)))
theorem rng_getD {l : List Th} {n : Nat} (h : l.length = n) : ((List.range n).map fun r => l.getD r none) = l := by
  subst h
  apply List.ext_getElem
  · simp
  · intro i h1 h2
    simp [List.getD_eq_getElem?_getD, h2]
theorem thing_in (hT : TabOk R T) {w r : Int} (hr : r.toNat < R) : ThOk R (thingAt T w r) := by
  unfold thingAt
  by_cases h : w < 0
  · rw [if_pos h, List.getD_eq_getElem?_getD, List.getElem?_eq_getElem (by rw [hT.l2]; exact hr)]
    exact hT.o2 _ (List.getElem_mem _)
  · rw [if_neg h, List.getD_eq_getElem?_getD, List.getElem?_eq_getElem (by rw [hT.l1]; exact hr)]
    exact hT.o1 _ (List.getElem_mem _)
theorem boxes_eq {L : List Tab} (hT : TabOk R T) (h1 : ∀ r : Nat, r < R → val (wf L) (0, 1, (r : Int)) = thingAt T 1 r) (h2 : ∀ r : Nat, r < R → val (wf L) ((L.length : Int) - 1, -1, (r : Int)) = thingAt T (-1) r) : boxes L R = T := by
  unfold boxes
  refine Prod.ext ?_ ?_
  · refine Eq.trans (List.map_congr_left fun r hr => (h1 r (List.mem_range.mp hr)).trans ?_) (rng_getD hT.l1)
    rfl
  · refine Eq.trans (List.map_congr_left fun r hr => (h2 r (List.mem_range.mp hr)).trans ?_) (rng_getD hT.l2)
    rfl
theorem one_val (hT : TabOk R T) {w r : Int} (hr : r.toNat < R) : val (wf [T]) (0, w, r) = thingAt T w r := by
  have hk := thing_in hT (w := w) hr
  have e : wf [T] (0, w, r) = match thingAt T w r with | none => .inr none | some p => .inl (0 + p.1, p.1, p.2) := wf_at (by show (0 : Int) ≤ 0 ∧ (0 : Int) < 1; omega)
  cases hth : thingAt T w r with
  | none => rw [hth] at e; exact val_inr e
  | some p =>
    rw [hth] at e hk
    rw [val_inl e]
    obtain ⟨hw, _⟩ := hk
    exact val_inr (wf_off (by show ¬ (0 ≤ 0 + p.1 ∧ 0 + p.1 < (1 : Int)); rcases hw with h | h <;> rw [h] <;> omega))
theorem boxes_one (hT : TabOk R T) : boxes [T] R = T := boxes_eq hT (fun r hr => one_val hT (by omega)) (fun r hr => one_val hT (by omega))
theorem st_thing {w r : Int} (hw : w = 1 ∨ w = -1) (h0 : 0 ≤ r) (hr : r < (R : Int)) : thingAt (stT R) w r = some (w, r) := by
  have hk : r.toNat < R := by omega
  have hr' : ((r.toNat : Nat) : Int) = r := by omega
  rcases hw with rfl | rfl
  · show ((List.range R).map fun (r : Nat) => (some (1, (r : Int)) : Th)).getD r.toNat none = _
    rw [getD_rng hk, hr']
  · show ((List.range R).map fun (r : Nat) => (some (-1, (r : Int)) : Th)).getD r.toNat none = _
    rw [getD_rng hk, hr']
theorem st_left (hT : TabOk R T) {w r : Int} (hr : r.toNat < R) : val (wf [stT R, T]) (1, w, r) = thingAt T w r := by
  have hk := thing_in hT (w := w) hr
  have e : wf [stT R, T] (1, w, r) = match thingAt T w r with | none => .inr none | some p => .inl (1 + p.1, p.1, p.2) := wf_at (by show (0 : Int) ≤ 1 ∧ (1 : Int) < 2; omega)
  cases hth : thingAt T w r with
  | none => rw [hth] at e; exact val_inr e
  | some p =>
    rw [hth] at e hk
    rw [val_inl e]
    obtain ⟨v, r'⟩ := p
    obtain ⟨hw, h0, hr'⟩ := hk
    simp only at hw h0 hr'
    rcases hw with rfl | rfl
    · exact val_inr (wf_off (by show ¬ ((0 : Int) ≤ 1 + 1 ∧ (1 : Int) + 1 < 2); omega))
    · have e2 : wf [stT R, T] (1 + -1, -1, r') = match thingAt (stT R) (-1) r' with | none => .inr none | some p => .inl (1 + -1 + p.1, p.1, p.2) := wf_at (by show (0 : Int) ≤ 1 + -1 ∧ (1 : Int) + -1 < 2; omega)
      rw [st_thing (.inr rfl) h0 hr'] at e2
      exact (val_inl e2).trans (val_inr (wf_off (by show ¬ ((0 : Int) ≤ 1 + -1 + -1 ∧ (1 : Int) + -1 + -1 < 2); omega)))
theorem st_right (hT : TabOk R T) {w r : Int} (hr : r.toNat < R) : val (wf [T, stT R]) (0, w, r) = thingAt T w r := by
  have hk := thing_in hT (w := w) hr
  have e : wf [T, stT R] (0, w, r) = match thingAt T w r with | none => .inr none | some p => .inl (0 + p.1, p.1, p.2) := wf_at (by show (0 : Int) ≤ 0 ∧ (0 : Int) < 2; omega)
  cases hth : thingAt T w r with
  | none => rw [hth] at e; exact val_inr e
  | some p =>
    rw [hth] at e hk
    rw [val_inl e]
    obtain ⟨v, r'⟩ := p
    obtain ⟨hw, h0, hr'⟩ := hk
    simp only at hw h0 hr'
    rcases hw with rfl | rfl
    · have e2 : wf [T, stT R] (0 + 1, 1, r') = match thingAt (stT R) 1 r' with | none => .inr none | some p => .inl (0 + 1 + p.1, p.1, p.2) := wf_at (by show (0 : Int) ≤ 0 + 1 ∧ (0 : Int) + 1 < 2; omega)
      rw [st_thing (.inl rfl) h0 hr'] at e2
      exact (val_inl e2).trans (val_inr (wf_off (by show ¬ ((0 : Int) ≤ 0 + 1 + 1 ∧ (0 : Int) + 1 + 1 < 2); omega)))
    · exact val_inr (wf_off (by show ¬ ((0 : Int) ≤ 0 + -1 ∧ (0 : Int) + -1 < 2); omega))
theorem boxes_st_left (hT : TabOk R T) : boxes [stT R, T] R = T := boxes_eq hT (fun r hr => by
  have e : wf [stT R, T] (0, 1, (r : Int)) = match thingAt (stT R) 1 (r : Int) with | none => .inr none | some p => .inl (0 + p.1, p.1, p.2) := wf_at (by show (0 : Int) ≤ 0 ∧ (0 : Int) < 2; omega)
  rw [st_thing (.inl rfl) (by omega) (by omega)] at e
  exact (val_inl e).trans (st_left hT (by omega))) (fun r hr => st_left hT (by omega))
theorem boxes_st_right (hT : TabOk R T) : boxes [T, stT R] R = T := boxes_eq hT (fun r hr => st_right hT (by omega)) (fun r hr => by
  have e : wf [T, stT R] (1, -1, (r : Int)) = match thingAt (stT R) (-1) (r : Int) with | none => .inr none | some p => .inl (1 + p.1, p.1, p.2) := wf_at (by show (0 : Int) ≤ 1 ∧ (1 : Int) < 2; omega)
  rw [st_thing (.inr rfl) (by omega) (by omega)] at e
  exact (val_inl e).trans (st_right hT (by omega)))
theorem stT_ok : TabOk R (stT R) where
  l1 := by unfold stT; simp
  l2 := by unfold stT; simp
  o1 x hx := by
    obtain ⟨r, hr, rfl⟩ := List.mem_map.mp hx
    have := List.mem_range.mp hr
    exact ⟨.inl rfl, by show (0 : Int) ≤ (r : Int); omega, by show (r : Int) < _; omega⟩
  o2 x hx := by
    obtain ⟨r, hr, rfl⟩ := List.mem_map.mp hx
    have := List.mem_range.mp hr
    exact ⟨.inr rfl, by show (0 : Int) ≤ (r : Int); omega, by show (r : Int) < _; omega⟩
end
end DI
/-! is a table; the still table made -/
namespace DI
open PySem
section
variable {R : Nat} {t : Tab}
theorem is_thing_ok (x : Th) : h_l_is_thing [thD x] = .ok (.bl true) := by
  have w : ∀ i : Int, h_l_whole [.int i] = .ok (.bl true) := fun i => rfl
  unfold h_l_is_thing runF b_l_is_thing
  cases x with
  | none => rfl
  | some p =>
    have big := sizeLine_big
    have ca : eComp [1] (.one 1) (iSeq' (eV 0)) (eT) (eF h_l_whole (aC (eV 1) (aN))) [some (thD (some p)), none] = .ok (.lst true [.bl true, .bl true]) := by
      refine comp_ok (xs := [.int p.1, .int p.2]) (g := fun _ => D.bl true) rfl (fun x hx => ?_) (by show 2 ≤ _; omega)
      rcases List.mem_cons.mp hx with rfl | hx
      · unfold cBody; simp [w]
      · rw [List.mem_singleton.mp hx]; unfold cBody; simp [w]
    have ba : biD .all [.lst true [.bl true, .bl true]] = .ok (.bl true) := rfl
    have e1 : startL 2 [thD (some p)] = [some (thD (some p)), none] := rfl
    have n1 : isTy .tuple (thD (some p)) = .ok true := rfl
    have n2 : biD .len [thD (some p)] = .ok (.int 2) := rfl
    have n3 : isNon (thD (some p)) = false := rfl
    have cl := thD_clean (some p)
    rw [e1]
    generalize thD (some p) = d at *
    rw [sSeq_nx (σ' := [some d, none]) (by rw [sIf_false (by simp [n3])]; rfl)]
    simp [n1, n2, ca, ba]
end
end DI
/-! equal tables; is a table; the still table made -/
namespace DI
open PySem
section
variable {R : Nat} {t : Tab}
def pTh : Th → PyData
  | none => .none
  | some p => .tuple [.int p.1, .int p.2]
def pTab (t : Tab) : PyData := .tuple [.tuple (t.1.map pTh), .tuple (t.2.map pTh)]
theorem pyL_th : ∀ l : List Th, pyL (l.map thD) = some (l.map pTh)
  | [] => rfl
  | x :: l => by
    rw [List.map_cons, List.map_cons, pyL, pyL_th l]
    cases x <;> rfl
theorem lay_th : ∀ l : List Th, PyData.canLayAll0 (l.map pTh) = true
  | [] => rfl
  | x :: l => by
    rw [List.map_cons, PyData.canLayAll0, lay_th l]
    cases x <;> rfl
theorem eqv_th : ∀ l : List Th, PyData.eqvAll (l.map pTh) (l.map pTh) = true
  | [] => rfl
  | x :: l => by
    rw [List.map_cons, PyData.eqvAll, eqv_th l]
    cases x <;> simp [pTh, PyData.eqv, PyData.eqvAll]
theorem dep_th : ∀ l : List Th, PyData.depthAll (l.map pTh) ≤ 2
  | [] => by simp [PyData.depthAll]
  | x :: l => by
    have := dep_th l
    rw [List.map_cons, PyData.depthAll]
    have e : (pTh x).depth ≤ 2 := by cases x <;> simp [pTh, PyData.depth, PyData.depthAll]
    omega
theorem py_tab (t : Tab) : py (tabD t) = some (pTab t) := by
  unfold tabD pTab
  rw [py, pyL, pyL, pyL, py, py, pyL_th, pyL_th]
  rfl
theorem lay_tab (t : Tab) : PyData.canLay0 (pTab t) = true := by
  unfold pTab
  rw [PyData.canLay0, PyData.canLayAll0, PyData.canLayAll0, PyData.canLayAll0, PyData.canLay0, PyData.canLay0, lay_th, lay_th]
  rfl
theorem eqv_tab (t : Tab) : PyData.eqv (pTab t) (pTab t) = true := by
  unfold pTab
  rw [PyData.eqv, PyData.eqvAll, PyData.eqvAll, PyData.eqvAll, PyData.eqv, PyData.eqv, eqv_th, eqv_th]
  rfl
theorem dep_tab (t : Tab) : (pTab t).depth ≤ 4 := by
  have a := dep_th t.1
  have b := dep_th t.2
  unfold pTab
  rw [PyData.depth, PyData.depthAll, PyData.depthAll, PyData.depthAll, PyData.depth, PyData.depth]
  omega
theorem pyL_tab : ∀ l : List Tab, pyL (l.map tabD) = some (l.map pTab)
  | [] => rfl
  | x :: l => by
    rw [List.map_cons, List.map_cons, pyL, pyL_tab l, py_tab]
    rfl
theorem lay_tabs : ∀ l : List Tab, PyData.canLayAll0 (l.map pTab) = true
  | [] => rfl
  | x :: l => by
    rw [List.map_cons, PyData.canLayAll0, lay_tabs l, lay_tab]
    rfl
theorem eqv_tabs : ∀ l : List Tab, PyData.eqvAll (l.map pTab) (l.map pTab) = true
  | [] => rfl
  | x :: l => by
    rw [List.map_cons, PyData.eqvAll, eqv_tabs l, eqv_tab]
    rfl
theorem dep_tabs : ∀ l : List Tab, PyData.depthAll (l.map pTab) ≤ 4
  | [] => by simp [PyData.depthAll]
  | x :: l => by
    have := dep_tabs l
    have := dep_tab x
    rw [List.map_cons, PyData.depthAll]
    omega
theorem eq_tab (t : Tab) : eqD (tabD t) (tabD t) = .ok true := by
  have s : SeqAt.shaped (pTab t) = true := by
    unfold SeqAt.shaped
    have := dep_tab t
    rw [Bool.and_eq_true, decide_eq_true_iff]
    exact ⟨lay_tab t, by omega⟩
  rw [eqD_of (py_tab t) (py_tab t) s s, eqv_tab]
theorem eq_tabs (l : List Tab) : eqD (.lst true (l.map tabD)) (.lst true (l.map tabD)) = .ok true := by
  have h : py (.lst true (l.map tabD)) = some (.list (l.map pTab)) := by rw [py, pyL_tab]; rfl
  have s : SeqAt.shaped (.list (l.map pTab)) = true := by
    unfold SeqAt.shaped
    have := dep_tabs l
    rw [Bool.and_eq_true, decide_eq_true_iff]
    refine ⟨by rw [PyData.canLay0]; exact lay_tabs l, ?_⟩
    rw [PyData.depth]
    omega
  rw [eqD_of h h s s, PyData.eqv, eqv_tabs]
end
end DI
/-! is a table; the still table made -/
namespace DI
open PySem
section
variable {R : Nat} {t : Tab}
theorem blsD_true : ∀ l : List Th, blsD (l.map fun _ => D.bl true) = some (l.map fun _ => true)
  | [] => rfl
  | x :: l => by
    rw [List.map_cons, List.map_cons, blsD, blsD_true l]
    rfl
theorem all_true (l : List Th) : biD .all [.lst true (l.map fun _ => D.bl true)] = .ok (.bl true) := by
  show (match blsD (l.map fun _ => D.bl true) with | some bs => DI.R.ok (D.bl (bs.all id)) | none => .bad) = _
  rw [blsD_true]
  show DI.R.ok (D.bl ((l.map fun _ => true).all id)) = _
  simp
theorem side_ok (l : List Th) (h : l.length ≤ 100) (x0 x1 x3 : Option D) : sIf (eOr (eNot (eIsi .tuple (eV 2))) (eNot (eBi .all (aC (eComp [3] (.one 3) (iSeq' (eV 2)) (eT) (eF h_l_is_thing (aC (eV 3) (aN)))) (aN))))) (sRet (eK (.bl false))) (sSkip) [x0, x1, some (.tup (l.map thD)), x3] = .nx [x0, x1, some (.tup (l.map thD)), x3] := by
  have big := sizeLine_big
  have ca : eComp [3] (.one 3) (iSeq' (eV 2)) (eT) (eF h_l_is_thing (aC (eV 3) (aN))) [x0, x1, some (.tup (l.map thD)), x3] = .ok (.lst true (l.map fun _ => D.bl true)) := by
    have hm : (l.map fun _ => D.bl true) = (l.map thD).map fun _ => D.bl true := by rw [List.map_map]; rfl
    rw [hm]
    refine comp_ok (by have := thsD_clean l; generalize l.map thD = q at *; simp [this]) (fun x hx => ?_) (by rw [List.length_map]; omega)
    obtain ⟨y, hy, rfl⟩ := List.mem_map.mp hx
    have e := is_thing_ok y
    have c := thD_clean y
    have f := thD_frz y
    generalize thD y = d at *
    generalize l.map thD = q at *
    unfold cBody
    simp [c, f, e]
  have ba := all_true l
  have cl := thsD_clean l
  have n1 : isTy .tuple (.tup (l.map thD)) = .ok true := rfl
  generalize (l.map fun _ => D.bl true) = q2 at *
  generalize l.map thD = q at *
  rw [sIf_false (by simp [n1, ca, ba])]
  rfl
theorem is_table_ok (ht : TabOk R t) (hr2 : R ≤ 100) : h_l_is_table [tabD t, tabD t] = .ok (.bl true) := by
  have he := eq_tab t
  have n1 : isTy .tuple (tabD t) = .ok true := rfl
  have n2 : biD .len [tabD t] = .ok (.int 2) := rfl
  have cl := tabD_clean t
  have it : itemsD (tabD t) = .ok [.tup (t.1.map thD), .tup (t.2.map thD)] := by unfold tabD itemsD; simp [thsD_clean]
  unfold h_l_is_table runF b_l_is_table
  have e1 : startL 4 [tabD t, tabD t] = [some (tabD t), some (tabD t), none, none] := rfl
  rw [e1]
  have s1 := fun x0 x1 x3 => side_ok t.1 (by rw [ht.l1]; exact hr2) x0 x1 x3
  have s2 := fun x0 x1 x3 => side_ok t.2 (by rw [ht.l2]; exact hr2) x0 x1 x3
  generalize tabD t = d at *
  rw [sSeq_nx (σ' := [some d, some d, none, none]) (by rw [sIf_false (by simp [n1, n2, he])]; rfl)]
  have e2 : sFor (.one 2) (iSeq' (eO (eV 0)))
    (sIf (eOr (eNot (eIsi .tuple (eV 2))) (eNot (eBi .all (aC (eComp [3] (.one 3) (iSeq' (eV 2)) (eT) (eF h_l_is_thing (aC (eV 3) (aN)))) (aN)))))
      (sRet (eK (.bl false)))
      (sSkip)) [some d, some d, none, none] = .nx [some d, some d, some (.tup (t.2.map thD)), none] := by
    rw [sFor_ok (xs := [.tup (t.1.map thD), .tup (t.2.map thD)]) (by simp [it, cl])]
    generalize t.1.map thD = q1 at *
    generalize t.2.map thD = q2 at *
    have a1 := s1 (some d) (some d) none
    have a2 := s2 (some d) (some d) none
    generalize (sIf (eOr (eNot (eIsi .tuple (eV 2))) (eNot (eBi .all (aC (eComp [3] (.one 3) (iSeq' (eV 2)) (eT) (eF h_l_is_thing (aC (eV 3) (aN)))) (aN))))) (sRet (eK (.bl false))) (sSkip)) = F at *
    simp [fr, a1, a2]
  rw [sSeq_nx e2]
  rfl
theorem still_ok (hr : 0 < R) (hr2 : R ≤ 100) : h_p_still [.int R] = .ok (tabD (stT R)) := by
  have big := sizeLine_big
  have h7 : small62 (R : Int) = true := small62_of (by omega) (by omega)
  unfold h_p_still runF b_p_still
  have mp : ∀ (g : D → D) (w : Int) (hg : ∀ i : Int, g (.int i) = .tup [.int w, .int i]), (rngL 0 R).map g = (((List.range R).map fun (r : Nat) => (some (w, (r : Int)) : Th)).map thD) := by
    intro g w hg
    unfold rngL
    rw [List.map_map, List.map_map]
    apply List.map_congr_left
    intro k _
    show g (.int (0 + (k : Int))) = _
    rw [hg, Int.zero_add]
    rfl
  have c1 : eComp [1] (.one 1) (iR1 (aC (eV 0) (aN))) (eT) (eTup (aC (eK (.int 1)) (aC (eO (eV 1)) (aN)))) [some (.int R), none] = .ok (.lst true ((stT R).1.map thD)) := by
    refine (comp_ok (xs := rngL 0 R) (g := fun d => .tup [.int 1, d]) (by simp [h7]) (fun x hx => ?_) (by rw [rngL_length]; omega)).trans (congrArg (fun q => DI.R.ok (D.lst true q)) (mp _ 1 fun _ => rfl))
    obtain ⟨r, hr', rfl⟩ := mem_rngL hx
    unfold cBody
    simp
  have c2 : eComp [1] (.one 1) (iR1 (aC (eV 0) (aN))) (eT) (eTup (aC (eNeg (eK (.int 1))) (aC (eO (eV 1)) (aN)))) [some (.int R), none] = .ok (.lst true ((stT R).2.map thD)) := by
    refine (comp_ok (xs := rngL 0 R) (g := fun d => .tup [.int (-1), d]) (by simp [h7]) (fun x hx => ?_) (by rw [rngL_length]; omega)).trans (congrArg (fun q => DI.R.ok (D.lst true q)) (mp _ (-1) fun _ => rfl))
    obtain ⟨r, hr', rfl⟩ := mem_rngL hx
    unfold cBody
    simp
  have k1 := thsD_clean (stT R).1
  have k2 := thsD_clean (stT R).2
  have e1 : startL 2 [D.int R] = [some (.int R), none] := rfl
  rw [e1]
  show _ = DI.R.ok (D.tup [.tup ((stT R).1.map thD), .tup ((stT R).2.map thD)])
  generalize (stT R).1.map thD = q1 at *
  generalize (stT R).2.map thD = q2 at *
  simp [c1, c2, k1, k2]
end
end DI
/-! law k13 -/
namespace DI
open PySem
section
variable {R : Nat}
theorem noFrz_ths : ∀ l : List Th, noFrzL (l.map thD) = true
  | [] => rfl
  | x :: l => by
    rw [List.map_cons, noFrzL_cons, noFrz_ths l]
    cases x <;> simp [thD]
theorem noFrz_tab (t : Tab) : noFrz (tabD t) = true := by
  unfold tabD
  simp only [noFrz_tup, noFrzL_cons, noFrzL_nil, noFrz_ths, Bool.and_self]
theorem tabsD_clean (L : List Tab) : cleanL (L.map tabD) = true := by
  rw [cleanL_all, List.all_map]
  exact List.all_eq_true.mpr fun t _ => tabD_clean t
theorem cut_mid {α : Type} (A B : List α) (s t : α) : cutL (A ++ s :: t :: B) (some (A.length : Int)) (some ((A.length : Int) + 2)) = [s, t] := by
  unfold cutL
  rw [show (A.length : Int) + 2 = ((A.length + 2 : Nat) : Int) by omega, HT.sIx_nat, HT.sIx_nat]
  have h : (A ++ s :: t :: B).length = A.length + 2 + B.length := by simp; omega
  rw [h, Nat.min_eq_left (by omega), Nat.min_eq_left (by omega)]
  simp
theorem cut_lo {α : Type} (A B : List α) (s t : α) : cutL (A ++ s :: t :: B) none (some (A.length : Int)) = A := by
  unfold cutL
  rw [HT.sIx_none, HT.sIx_nat]
  have h : (A ++ s :: t :: B).length = A.length + 2 + B.length := by simp; omega
  rw [h, Nat.min_eq_left (by omega)]
  simp
theorem cut_hi {α : Type} (A B : List α) (s t : α) : cutL (A ++ s :: t :: B) (some ((A.length : Int) + 2)) none = B := by
  unfold cutL
  rw [show (A.length : Int) + 2 = ((A.length + 2 : Nat) : Int) by omega, HT.sIx_none, HT.sIx_nat]
  have h : (A ++ s :: t :: B).length = A.length + 2 + B.length := by simp; omega
  rw [h, Nat.min_eq_left (by omega)]
  simp
theorem split2 {α : Type} {L : List α} {a : Nat} (h : a + 1 < L.length) : ∃ A s t B, L = A ++ s :: t :: B ∧ A.length = a := by
  refine ⟨L.take a, L[a], L[a + 1], L.drop (a + 2), ?_, by rw [List.length_take]; omega⟩
  rw [← List.drop_eq_getElem_cons, ← List.drop_eq_getElem_cons, List.take_append_drop]
/-- the loop's body -/
noncomputable def f13 : SF :=
    (sSeq (sSet 6 (eB .mod (eB .add (eB .mul (eV 6) (eK (.int 48271))) (eK (.int 7919))) (eK (.int 2147483647)))) <|
    sSeq (sSet 8 (eB .mod (eB .fdiv (eV 6) (eK (.int 64))) (eB .sub (eBi .len (aC (eV 5) (aN))) (eK (.int 1))))) <|
    sSeq (sSet 9 (eF h_p_behind (aC (eIx (eV 5) (eV 8)) (aC (eIx (eV 5) (eB .add (eV 8) (eK (.int 1)))) (aN))))) <|
    sSeq (sIf (eNot (eF h_l_is_table (aC (eV 9) (aC (eF h_l_boxes (aC (eSl (eV 5) false (eV 8) false (eB .add (eV 8) (eK (.int 2)))) (aC (eV 1) (aN)))) (aN)))))
      (sRet (eK (.bl false)))
      (sSkip)) <|
    sFz 9 <| sSet 5 (eB .add (eB .add (eSl (eV 5) true (eK .non) false (eV 8)) (eLst (aC (eO (eV 9)) (aN)))) (eSl (eV 5) false (eB .add (eV 8) (eK (.int 2))) true (eK .non))))
theorem body13 (hr : 0 < R) (hr2 : R ≤ 100) {A B : List Tab} {s t : Tab} (hL : ∀ x ∈ A ++ s :: t :: B, TabOk R x) (hl : (A ++ s :: t :: B).length ≤ 60) (turn : Int)
    (hat : (turn * 48271 + 7919) % 2147483647 / 64 % (((A ++ s :: t :: B).length : Int) - 1) = (A.length : Int)) (x0 x2 x3 x4 x7 x8 x9 x10 : Option D) :
    f13 [x0, some (.int R), x2, x3, x4, some (.lst true ((A ++ s :: t :: B).map tabD)), some (.int turn), x7, x8, x9, x10] =
     .nx [x0, some (.int R), x2, x3, x4, some (.lst true ((A ++ boxes [s, t] R :: B).map tabD)), some (.int ((turn * 48271 + 7919) % 2147483647)), x7, some (.int (A.length : Int)), some (tabD (boxes [s, t] R)), x10] := by
  have big := sizeLine_big
  have hs : TabOk R s := hL s (by simp)
  have ht : TabOk R t := hL t (by simp)
  have hb := behind_ok hs ht hr hr2
  have hst : ∀ x ∈ [s, t], TabOk R x := by
    intro x hx
    rcases List.mem_cons.mp hx with rfl | hx
    · exact hs
    · rw [List.mem_singleton.mp hx]; exact ht
  have hbx := boxes_ok hst hr hr2 (by show 2 ≤ 100; omega) (by show 0 < 2; omega)
  have hbt := boxes_tab hst (by show 0 < 2; omega)
  have his := is_table_ok hbt hr2
  have cA := tabsD_clean A
  have cB := tabsD_clean B
  have lA : (A.map tabD).length = A.length := List.length_map _
  have lB : (B.map tabD).length = B.length := List.length_map _
  have hlen : (A ++ s :: t :: B).length = A.length + 2 + B.length := by simp; omega
  rw [hlen] at hat hl
  have hpos : (0 : Int) < ((A.length + 2 + B.length : Nat) : Int) - 1 := by omega
  rw [List.map_append, List.map_append, List.map_cons, List.map_cons, List.map_cons]
  have i1 : L2.atI (A.map tabD ++ tabD s :: tabD t :: B.map tabD) (A.length : Int) = some (tabD s) := by
    rw [← lA]
    exact L2.atI_nat (by simp)
  have i2 : L2.atI (A.map tabD ++ tabD s :: tabD t :: B.map tabD) ((A.length : Int) + 1) = some (tabD t) := by
    rw [← lA]
    exact L2.atI_nat (j := (A.map tabD).length + 1) (by rw [List.getElem?_append_right (by omega)]; simp)
  have c1 := cut_mid (A.map tabD) (B.map tabD) (tabD s) (tabD t)
  have c2 := cut_lo (A.map tabD) (B.map tabD) (tabD s) (tabD t)
  have c3 := cut_hi (A.map tabD) (B.map tabD) (tabD s) (tabD t)
  rw [lA] at c1 c2 c3
  have fs := tabD_frz s
  have ft := tabD_frz t
  have fb := tabD_frz (boxes [s, t] R)
  have ks := tabD_clean s
  have kt := tabD_clean t
  have kb := tabD_clean (boxes [s, t] R)
  have nb := noFrz_tab (boxes [s, t] R)
  rw [List.map_cons, List.map_cons, List.map_nil] at hbx
  generalize tabD (boxes [s, t] R) = b at *
  generalize A.map tabD = qa at *
  generalize B.map tabD = qb at *
  generalize tabD s = ds at *
  generalize tabD t = dt at *
  have hl3 : (qa ++ ds :: dt :: qb).length = A.length + 2 + B.length := by simp [lA, lB]; omega
  have cL : cleanL (qa ++ ds :: dt :: qb) = true := cleanL_app cA (by simp [ks, kt, cB])
  have cL2 : cleanL (qa ++ [b]) = true := cleanL_app cA (by simp [kb])
  unfold f13
  generalize hq : qa ++ ds :: dt :: qb = q at *
  have b1 : sSet 6 (eB .mod (eB .add (eB .mul (eV 6) (eK (.int 48271))) (eK (.int 7919))) (eK (.int 2147483647))) [x0, some (.int R), x2, x3, x4, some (.lst true q), some (.int turn), x7, x8, x9, x10] = .nx [x0, some (.int R), x2, x3, x4, some (.lst true q), some (.int ((turn * 48271 + 7919) % 2147483647)), x7, x8, x9, x10] := by simp
  rw [sSeq_nx b1]
  generalize (turn * 48271 + 7919) % 2147483647 = tn at *
  have b2 : sSet 8 (eB .mod (eB .fdiv (eV 6) (eK (.int 64))) (eB .sub (eBi .len (aC (eV 5) (aN))) (eK (.int 1)))) [x0, some (.int R), x2, x3, x4, some (.lst true q), some (.int tn), x7, x8, x9, x10] = .nx [x0, some (.int R), x2, x3, x4, some (.lst true q), some (.int tn), x7, some (.int (A.length : Int)), x9, x10] := by
    simp only [u_sSet, u_eB, u_eV, getS_s, getS_0, DI.R.bind_ok, u_eK, u_eBi, u_aC, u_aN, tupOf_tup, biD_lenL, binD_sub, binD_fdiv _ 64 (by omega) (by omega), hl3, binD_mod _ _ hpos, hat, rS_ok, List.set_cons_succ, List.set_cons_zero]
  rw [sSeq_nx b2]
  have b3 : sSet 9 (eF h_p_behind (aC (eIx (eV 5) (eV 8)) (aC (eIx (eV 5) (eB .add (eV 8) (eK (.int 1)))) (aN)))) [x0, some (.int R), x2, x3, x4, some (.lst true q), some (.int tn), x7, some (.int (A.length : Int)), x9, x10] = .nx [x0, some (.int R), x2, x3, x4, some (.lst true q), some (.int tn), x7, some (.int (A.length : Int)), some b, x10] := by
    simp [i1, i2, fs, ft, hb, ks, kt]
  rw [sSeq_nx b3]
  have b4 : sIf (eNot (eF h_l_is_table (aC (eV 9) (aC (eF h_l_boxes (aC (eSl (eV 5) false (eV 8) false (eB .add (eV 8) (eK (.int 2)))) (aC (eV 1) (aN)))) (aN)))))
      (sRet (eK (.bl false)))
      (sSkip) [x0, some (.int R), x2, x3, x4, some (.lst true q), some (.int tn), x7, some (.int (A.length : Int)), some b, x10] = .nx [x0, some (.int R), x2, x3, x4, some (.lst true q), some (.int tn), x7, some (.int (A.length : Int)), some b, x10] := by
    rw [sIf_false]
    · rfl
    · simp [slD, c1, cL, fs, ft, ks, kt, hbx, fb, kb, nb, his]
  rw [sSeq_nx b4]
  simp [slD, c2, c3, cL, fb, kb, binD, cA, cB, cL2]
  have e1 : qa.length + 1 ≤ sizeLine := by omega
  have e2 : qa.length + 1 + qb.length ≤ sizeLine := by omega
  simp [e1, e2, kb, cA, cB]
theorem loop13 (hr : 0 < R) (hr2 : R ≤ 100) (x0 x2 x3 x4 x7 x10 : Option D) : ∀ (n : Nat) (L : List Tab), L.length = n + 1 → (∀ t ∈ L, TabOk R t) → n < 60 → ∀ (turn : Int) (x8 x9 : Option D), ∃ (turn' : Int) (y8 y9 : Option D),
    lp (eC .gt (eBi .len (aC (eV 5) (aN))) (eK (.int 1))) f13 (n + 1) [x0, some (.int R), x2, x3, x4, some (.lst true (L.map tabD)), some (.int turn), x7, x8, x9, x10] = .nx [x0, some (.int R), x2, x3, x4, some (.lst true [tabD (boxes L R)]), some (.int turn'), x7, y8, y9, x10]
  | 0, L, hl, hL, _, turn, x8, x9 => by
    obtain ⟨t, rfl⟩ := List.length_eq_one_iff.mp hl
    rw [boxes_one (hL t (by simp))]
    exact ⟨turn, x8, x9, lp_false rfl⟩
  | n + 1, L, hl, hL, hn, turn, x8, x9 => by
    have hpos : (0 : Int) < (L.length : Int) - 1 := by omega
    have h0 := Int.emod_nonneg ((turn * 48271 + 7919) % 2147483647 / 64) (b := (L.length : Int) - 1) (by omega)
    have h1 := Int.emod_lt_of_pos ((turn * 48271 + 7919) % 2147483647 / 64) hpos
    obtain ⟨A, s, t, B, rfl, hA⟩ := split2 (L := L) (a := ((turn * 48271 + 7919) % 2147483647 / 64 % ((L.length : Int) - 1)).toNat) (by omega)
    have hb := body13 hr hr2 hL (by omega) turn (by rw [hA]; omega) x0 x2 x3 x4 x7 x8 x9 x10
    have hs : TabOk R s := hL s (by simp)
    have ht : TabOk R t := hL t (by simp)
    have hAo : ∀ x ∈ A, TabOk R x := fun x hx => hL x (by simp [hx])
    have hBo : ∀ x ∈ B, TabOk R x := fun x hx => hL x (by simp [hx])
    have hst : ∀ x ∈ [s, t], TabOk R x := by
      intro x hx
      rcases List.mem_cons.mp hx with rfl | hx
      · exact hs
      · rw [List.mem_singleton.mp hx]; exact ht
    have hbt := boxes_tab hst (by show 0 < 2; omega)
    obtain ⟨turn', y8, y9, e⟩ := loop13 hr hr2 x0 x2 x3 x4 x7 x10 n (A ++ boxes [s, t] R :: B) (by simp at hl ⊢; omega) (by
      intro x hx
      rcases List.mem_append.mp hx with hx | hx
      · exact hAo x hx
      · rcases List.mem_cons.mp hx with rfl | hx
        · exact hbt
        · exact hBo x hx) (by omega) ((turn * 48271 + 7919) % 2147483647) (some (.int (A.length : Int))) (some (tabD (boxes [s, t] R)))
    refine ⟨turn', y8, y9, ?_⟩
    rw [merge hAo hs ht hBo] at e
    rw [lp_true _ hb, e]
    have : (1 : Int) < (((A ++ s :: t :: B).map tabD).length : Int) := by rw [List.length_map]; omega
    generalize (A ++ s :: t :: B).map tabD = q at *
    simp [this]
theorem tabs_ok (ns : List Int) (hr : 0 < R) (hr2 : R ≤ 100) (many : Nat) (hm : many ≤ 60) (x2 x3 x4 x5 x6 x7 x8 x9 x10 : Option D) : ∃ L : List Tab, L.length = many ∧ (∀ t ∈ L, TabOk R t) ∧
    ∀ x3 x4 x5 x6 x7 x8 x9 x10, eComp [10] (.one 10) (iR1 (aC (eV 2) (aN))) (eT) (eF h_l_any_table (aC (eV 0) (aC (eB .add (eK (.int 2)) (eV 10)) (aC (eV 1) (aN))))) [some (scr ns), some (.int R), some (.int many), x3, x4, x5, x6, x7, x8, x9, x10] = .ok (.lst true (L.map tabD)) := by
  have h7 : small62 (many : Int) = true := small62_of (by omega) (by omega)
  have ex : ∀ k : Nat, ∃ t, h_l_any_table [scr ns, .int (2 + (k : Int)), .int R] = .ok (tabD t) ∧ TabOk R t := fun k => by
    have := any_table_ok (R := R) ns (2 + k) hr (by omega)
    rw [show ((2 + k : Nat) : Int) = 2 + (k : Int) by omega] at this
    exact this
  obtain ⟨tb, tb1⟩ := Classical.axiomOfChoice ex
  refine ⟨(List.range many).map tb, by simp, ?_, ?_⟩
  · intro t ht
    obtain ⟨k, _, rfl⟩ := List.mem_map.mp ht
    exact (tb1 k).2
  · intro x3 x4 x5 x6 x7 x8 x9 x10
    have e : ((List.range many).map tb).map tabD = (rngL 0 many).map fun d => match d with | .int i => tabD (tb i.toNat) | d => d := by
      unfold rngL
      rw [List.map_map, List.map_map]
      apply List.map_congr_left
      intro k _
      show tabD (tb k) = tabD (tb (0 + (k : Int)).toNat)
      rw [show (0 + (k : Int)).toNat = k by omega]
    rw [e]
    refine comp_ok (by simp [h7]) (fun x hx => ?_) (by rw [rngL_length]; have := sizeLine_big; omega)
    obtain ⟨k, hk, rfl⟩ := mem_rngL hx
    have e1 := (tb1 k).1
    show _ = DI.R.ok (some (tabD (tb ((k : Nat) : Int).toNat)))
    rw [show ((k : Nat) : Int).toNat = k by omega]
    generalize tabD (tb k) = d at *
    unfold cBody
    simp [e1]
theorem law_true (ns : List Int) (hl : ns.length ≤ 63) : h_p_law [.lst false (ns.map D.int)] = .ok (.bl true) := by
  have big := sizeLine_big
  obtain ⟨z0, hz0⟩ := cell_ok ns 0 (by omega)
  obtain ⟨z1, hz1⟩ := cell_ok ns 1 (by omega)
  obtain ⟨R, hR, hr, hr2⟩ : ∃ R : Nat, 1 + z0 % 5 = (R : Int) ∧ 0 < R ∧ R ≤ 5 := ⟨(1 + z0 % 5).toNat, by omega, by omega, by omega⟩
  obtain ⟨many, hm, hm1, hm2⟩ : ∃ many : Nat, (if (if (ns.length : Int) - 2 < 60 then (ns.length : Int) - 2 else 60) > 1 then (if (ns.length : Int) - 2 < 60 then (ns.length : Int) - 2 else 60) else 1) = (many : Int) ∧ 0 < many ∧ many ≤ 60 :=
    ⟨(if (if (ns.length : Int) - 2 < 60 then (ns.length : Int) - 2 else 60) > 1 then (if (ns.length : Int) - 2 < 60 then (ns.length : Int) - 2 else 60) else 1).toNat, by split <;> split <;> omega, by split <;> split <;> omega, by split <;> split <;> omega⟩
  obtain ⟨L, hL, hok, hc⟩ := tabs_ok (R := R) ns hr (by omega) many hm2 none none none none none none none none none
  show h_p_law [scr ns] = _
  unfold h_p_law runF b_p_law
  show resR (sSeq _ _ [some (scr ns), none, none, none, none, none, none, none, none, none, none]) = _
  rw [sSeq_nx (σ' := [some (scr ns), some (.int R), none, none, none, none, none, none, none, none, none]) (by simp [hz0, hR])]
  rw [sSeq_nx (σ' := [some (scr ns), some (.int R), some (.int many), none, none, none, none, none, none, none, none]) (by simp only [u_sSet, u_eB, u_eBi, u_aC, u_aN, u_eV, u_eK, getS_s, getS_0, DI.R.bind_ok, tupOf_tup, biD_scr, binD_sub, biD_min, biD_max, hm, rS_ok, List.set_cons_succ, List.set_cons_zero])]
  rw [sSeq_nx (σ' := [some (scr ns), some (.int R), some (.int many), some (.lst true (L.map tabD)), none, none, none, none, none, none, none]) (by rw [u_sSet, hc]; rfl)]
  have hbx := boxes_ok hok hr (by omega) (by omega) (by omega)
  have hbt := boxes_tab hok (by omega)
  have cL := tabsD_clean L
  have fL : frzL (L.map tabD) = L.map tabD := frzL_clean _ cL
  have nB := noFrz_tab (boxes L R)
  have kB := tabD_clean (boxes L R)
  have fB := tabD_frz (boxes L R)
  have his := is_table_ok hbt (by omega)
  have hst := still_ok hr (R := R) (by omega)
  have hb1 := behind_ok stT_ok hbt hr (by omega)
  have hb2 := behind_ok hbt stT_ok hr (by omega)
  rw [boxes_st_left hbt] at hb1
  rw [boxes_st_right hbt] at hb2
  have kS := tabD_clean (stT R)
  have fS := tabD_frz (stT R)
  have heq := eq_tab (boxes L R)
  have heqs := eq_tabs L
  rw [sSeq_nx (σ' := [some (scr ns), some (.int R), some (.int many), some (.lst true (L.map tabD)), some (tabD (boxes L R)), none, none, none, none, none, none]) (by
    generalize tabD (boxes L R) = b at *
    generalize L.map tabD = q at *
    simp [fL, hbx, nB])]
  rw [sSeq_nx (σ' := [some (scr ns), some (.int R), some (.int many), some (.lst true (L.map tabD)), some (tabD (boxes L R)), some (.lst true (L.map tabD)), none, none, none, none, none]) (by
    generalize tabD (boxes L R) = b at *
    generalize L.map tabD = q at *
    simp [cL])]
  rw [sSeq_nx (σ' := [some (scr ns), some (.int R), some (.int many), some (.lst true (L.map tabD)), some (tabD (boxes L R)), some (.lst true (L.map tabD)), some (.int (z1 % 2147483647)), none, none, none, none]) (by
    generalize tabD (boxes L R) = b at *
    generalize L.map tabD = q at *
    simp [hz1])]
  obtain ⟨turn', y8, y9, e⟩ := loop13 hr (by omega) (some (scr ns)) (some (.int many)) (some (.lst true (L.map tabD))) (some (tabD (boxes L R))) none none (many - 1) L (by omega) hok (by omega) (z1 % 2147483647) none none
  unfold f13 at e
  rw [sSeq_nx (whl_eq e (by intro h; cases h))]
  have i0 : L2.atI [tabD (boxes L R)] 0 = some (tabD (boxes L R)) := rfl
  have hc' := fun x4 x5 x6 x7 x8 x9 x10 => hc (some (.lst true (L.map tabD))) x4 x5 x6 x7 x8 x9 x10
  generalize tabD (boxes L R) = b at *
  generalize L.map tabD = q at *
  generalize tabD (stT R) = st at *
  simp [i0, fB, kB, his, hst, hb1, hb2, kS, fS, heq, hc', heqs, nB]
end
end DI
open PySem PySem.W PyProof.Rows
set_option maxHeartbeats 0 in
theorem PySem.Challenge.cw_striproam_k13_whole_any_brackets_holds : PySem.Challenge.rw_striproam_k13_whole_any_brackets.Holds := by
  w_on; o_law; k_head; (case hw => w_witness2)
  k_fill
  refine L2.walk_of (l := PySem.Challenge.rw_striproam_k13_whole_any_brackets) (n := 63) (k := 4) (x := "_law_script") (CX := fun w => L2.CX PySem.Challenge.pw_striproam_k13_whole_any_brackets w) (sp := fun w => DI.spI ⟨PySem.Challenge.pw_striproam_k13_whole_any_brackets, w, _, fun _ => none⟩ 1 DI.h_p_law) rfl (by decide) rfl ⟨rfl, by decide, by decide⟩ (fun w h Y => PySem.W.kIn_of Y) ?F (fun _ _ a ns hl hO hS => DI.sp_script hS hO (DI.law_true ns hl)) (fun w H s e s' h => DI.cx_none h)
  case F =>
    intro w mg fa h KX G hmg
    refine' DI.all_mk KX G hmg ?z0 ?z1 ?z2 ?z3 ?z4 ?z5 ?z6 ?z7 ?z8 ?z9 ?a0 ?l0 ?c0 ?k0 ?a1 ?l1 ?c1 ?k1 ?a2 ?l2 ?c2 ?k2 ?a3 ?l3 ?c3 ?k3 ?a4 ?l4 ?c4 ?k4 ?a5 ?l5 ?c5 ?k5 ?a6 ?l6 ?c6 ?k6 ?a7 ?l7 ?c7 ?k7 ?a8 ?l8 ?c8 ?k8 ?a9 ?l9 ?c9 ?k9 ?a10 ?l10 ?c10 ?k10
    (case z0 => k_is); (case z1 => k_is); (case z2 => k_is); (case z3 => k_is); (case z4 => k_is); (case z5 => k_is); (case z6 => k_is); (case z7 => k_is); (case z8 => k_is); (case z9 => k_is); (case a0 => k_is); (case l0 => k_is); (case c0 => k_is); (case k0 => k_is); (case a1 => k_is); (case l1 => k_is); (case c1 => k_is); (case k1 => k_is); (case a2 => k_is); (case l2 => k_is); (case c2 => k_is); (case k2 => k_is); (case a3 => k_is); (case l3 => k_is); (case c3 => k_is); (case k3 => k_is); (case a4 => k_is); (case l4 => k_is); (case c4 => k_is); (case k4 => k_is); (case a5 => k_is); (case l5 => k_is); (case c5 => k_is); (case k5 => k_is); (case a6 => k_is); (case l6 => k_is); (case c6 => k_is); (case k6 => k_is); (case a7 => k_is); (case l7 => k_is); (case c7 => k_is); (case k7 => k_is); (case a8 => k_is); (case l8 => k_is); (case c8 => k_is); (case k8 => k_is); (case a9 => k_is); (case l9 => k_is); (case c9 => k_is); (case k9 => k_is); (case a10 => k_is); (case l10 => k_is); (case c10 => k_is); (case k10 => k_is)
