import PyProof.Rows.All
import Wide.All
import OpenK.AllK
import Wide.FinOn
import PySem.Challenge.RW_striproam_k29_looker_of_pairs
import HandS.ForMost
import HandS.ForExc
import HandS.CallSlots
import HandS.ExcInit
import HandS.IsInst
import HandS.Deep
import HandS.TupAny
import HandS.TupMul
import HandS.TupLen
import HandS.Wide
import KE.KDictKeyed
import KE.KeyNested
import KE.GoesEnum
import KE.GoesMore
import HandS.Zip
import HandS.TryOnly
import HandS.ExcField
import HandS.ExcIs
import HandS.Conv
import HandS.SortInts
import HandS.Style
import PyProof.Rows.StrRev
import HandS.NoneIn
import KE.KDictDisplayH
import HandS.HotCalls
import KE.KExcIs
import PyProof.ListStr
import PyProof.StrBlock2
import HandS.TupLe
import HandS.More
import HandS.RaiseMore
import PyProof.StrLaws
import PyProof.StrLawsTight
import HandS.Iter
import PyProof.StrLawsIn
set_option Elab.async false
set_option linter.all false
set_option maxRecDepth 100000
/-! DI, the data: values, results, the primitive operations, core syntax, its total evaluation -/
namespace DI
open PySem

/-- data. lst and dct bear a flag: true, owned by the one who holds it; false, frozen -/
inductive D where
  | non | bl (b : Bool) | int (i : Int) | str (x : Str)
  | tup (xs : List D) | lst (o : Bool) (xs : List D) | dct (o : Bool) (kvs : List (NestedKey × D))
  | obj (c : Nat) (fs : List D)
instance : Inhabited D := ⟨.non⟩

/-- a result: a value, a refusal of a class with its values, or nothing is said -/
inductive R (α : Type) where
  | ok (a : α) | err (c : Nat) (fs : List D) | bad
def R.bind {α β : Type} : R α → (α → R β) → R β
  | .ok a, k => k a
  | .err c fs, _ => .err c fs
  | .bad, _ => .bad
@[simp] theorem R.bind_ok {α β : Type} (a : α) (k : α → R β) : (R.ok a).bind k = k a := rfl
@[simp] theorem R.bind_err {α β : Type} (c : Nat) (fs : List D) (k : α → R β) : (R.err c fs : R α).bind k = .err c fs := rfl
@[simp] theorem R.bind_bad {α β : Type} (k : α → R β) : (R.bad : R α).bind k = .bad := rfl

/-! ### owned parts -/
mutual
def clean : D → Bool
  | .non => true | .bl _ => true | .int _ => true | .str _ => true
  | .tup xs => cleanL xs
  | .lst o xs => !o && cleanL xs
  | .dct o _ => !o
  | .obj _ fs => cleanL fs
def cleanL : List D → Bool
  | [] => true
  | x :: xs => clean x && cleanL xs
end
/- no frozen list or dict within -/
mutual
def noFrz : D → Bool
  | .non => true | .bl _ => true | .int _ => true | .str _ => true
  | .tup xs => noFrzL xs
  | .lst o xs => o && noFrzL xs
  | .dct o kvs => o && noFrzK kvs
  | .obj _ _ => false
def noFrzL : List D → Bool
  | [] => true
  | x :: xs => noFrz x && noFrzL xs
def noFrzK : List (NestedKey × D) → Bool
  | [] => true
  | (_, x) :: xs => noFrz x && noFrzK xs
end
theorem noFrzK_map : ∀ kvs : List (NestedKey × D), noFrzK kvs = noFrzL (kvs.map (·.2))
  | [] => rfl
  | (_, x) :: xs => by rw [noFrzK, List.map_cons, noFrzL, noFrzK_map xs]
mutual
def frz : D → D
  | .non => .non | .bl b => .bl b | .int i => .int i | .str x => .str x
  | .tup xs => .tup (frzL xs)
  | .lst _ xs => .lst false (frzL xs)
  | .dct _ kvs => .dct false kvs
  | .obj c fs => .obj c (frzL fs)
def frzL : List D → List D
  | [] => []
  | x :: xs => frz x :: frzL xs
end
mutual
theorem frz_clean : ∀ d : D, clean d = true → frz d = d
  | .non, _ => rfl | .bl _, _ => rfl | .int _, _ => rfl | .str _, _ => rfl
  | .tup xs, h => by rw [frz, frzL_clean xs (by simpa [clean] using h)]
  | .lst o xs, h => by
    simp only [clean, Bool.and_eq_true, Bool.not_eq_true'] at h
    rw [frz, frzL_clean xs h.2, h.1]
  | .dct o kvs, h => by
    simp only [clean, Bool.not_eq_true'] at h
    rw [frz, h]
  | .obj c fs, h => by rw [frz, frzL_clean fs (by simpa [clean] using h)]
theorem frzL_clean : ∀ xs : List D, cleanL xs = true → frzL xs = xs
  | [], _ => rfl
  | x :: xs, h => by
    simp only [cleanL, Bool.and_eq_true] at h
    rw [frzL, frz_clean x h.1, frzL_clean xs h.2]
end
theorem cleanL_all (xs : List D) : cleanL xs = xs.all clean := by
  induction xs with
  | nil => rfl
  | cons x xs ih => rw [cleanL, List.all_cons, ih]
theorem frzL_map (xs : List D) : frzL xs = xs.map frz := by
  induction xs with
  | nil => rfl
  | cons x xs ih => rw [frzL, List.map_cons, ih]
theorem noFrzL_all (xs : List D) : noFrzL xs = xs.all noFrz := by
  induction xs with
  | nil => rfl
  | cons x xs ih => rw [noFrzL, List.all_cons, ih]

/-! ### data as the library's data, keys -/
mutual
def py : D → Option PyData
  | .non => some .none | .bl b => some (.bool b) | .int i => some (.int i) | .str x => some (.str x)
  | .tup xs => (pyL xs).map .tuple
  | .lst _ xs => (pyL xs).map .list
  | .dct _ _ => none
  | .obj _ _ => none
def pyL : List D → Option (List PyData)
  | [] => some []
  | x :: xs => (py x).bind fun d => (pyL xs).map fun ds => d :: ds
end
mutual
def key : D → Option NestedKey
  | .non => some .none | .bl _ => none | .int i => some (.num i) | .str x => some (.text x)
  | .tup xs => (keyL xs).map .tup
  | .lst _ _ => none
  | .dct _ _ => none
  | .obj _ _ => none
def keyL : List D → Option (List NestedKey)
  | [] => some []
  | x :: xs => (key x).bind fun d => (keyL xs).map fun ds => d :: ds
end
/-- == -/
def eqD (d e : D) : R Bool :=
  match py d, py e with
  | some a, some b => if SeqAt.shaped a && SeqAt.shaped b then .ok (PyData.eqv a b) else .bad
  | _, _ => .bad

def oneOf (c : Nat) : D := .str ⟨#[c]⟩
def ofR {α : Type} : Option α → R α
  | some a => .ok a
  | none => .bad

/-! ### operators -/
inductive Bop where
  | add | sub | mul | fdiv | mod | pow
  deriving DecidableEq
inductive Cop where
  | lt | le | gt | ge | eq | ne | mem | nmem | isN | notN
  deriving DecidableEq

/-- bounds that no evaluation unfolds -/
noncomputable def lim62 : Int := Classical.choose (show ∃ n : Int, n = 4611686018427387904 from ⟨_, rfl⟩)
theorem lim62_eq : lim62 = 4611686018427387904 := Classical.choose_spec (show ∃ n : Int, n = 4611686018427387904 from ⟨_, rfl⟩)
noncomputable def lim64 : Int := Classical.choose (show ∃ n : Int, n = 18446744073709551616 from ⟨_, rfl⟩)
theorem lim64_eq : lim64 = 18446744073709551616 := Classical.choose_spec (show ∃ n : Int, n = 18446744073709551616 from ⟨_, rfl⟩)
noncomputable def small64 (i : Int) : Bool := decide (-lim64 < i) && decide (i < lim64)
noncomputable def small62 (i : Int) : Bool := decide (-lim62 ≤ i) && decide (i < lim62)
noncomputable def binD : Bop → D → D → R D
  | .add, .int i, .int j => .ok (.int (i + j))
  | .add, .str x, .str y => if x.length + y.length ≤ sizeLine then .ok (.str (x ++ y)) else .bad
  | .add, .lst true xs, .lst true ys => if (cleanL xs && cleanL ys) = true ∧ xs.length + ys.length ≤ sizeLine then .ok (.lst true (xs ++ ys)) else .bad
  | .add, .tup xs, .tup ys => if (cleanL xs && cleanL ys) = true ∧ xs.length + ys.length ≤ sizeLine then .ok (.tup (xs ++ ys)) else .bad
  | .sub, .int i, .int j => .ok (.int (i - j))
  | .mul, .int i, .int j => if (small64 i || small64 j) = true then .ok (.int (i * j)) else .bad
  | .mul, .lst true xs, .int k => if cleanL xs = true ∧ small62 k = true ∧ xs.length * k.toNat ≤ sizeLine then .ok (.lst true (List.replicate k.toNat xs).flatten) else .bad
  | .fdiv, .int i, .int j => if 0 < j ∧ j.natAbs.log2 < 9000 then .ok (.int (i / j)) else .bad
  | .mod, .int i, .int j => if 0 < j then .ok (.int (i % j)) else .bad
  | .pow, .int i, .int j => if 0 ≤ j ∧ j ≤ 1000000 ∧ i.natAbs < 2 ^ 64 then .ok (.int (i ^ j.toNat)) else .bad
  | _, _, _ => .bad

/-- x in ys -/
def memS (x : D) (ys : List D) : R Bool :=
  match py x, pyL ys with
  | some d, some ds => if (SeqAt.shaped d && SeqAt.shaped (.list ds)) = true then .ok (ds.any fun z => PyData.eqv z d) else .bad
  | _, _ => .bad
def isLeafKey : NestedKey → Bool
  | .num _ => true | .text _ => true | .none => false | .tup _ => false
def isTupKey : NestedKey → Bool
  | .tup _ => true | .num _ => false | .text _ => false | .none => false
/-- the keys of a dict are of one kind with k -/
def keysWith (k : NestedKey) (kvs : List (NestedKey × D)) : Bool :=
  (isLeafKey k && kvs.all fun p => isLeafKey p.1) || (isTupKey k && decide (k.depth ≤ 8) && kvs.all fun p => isTupKey p.1)
def dget (kvs : List (NestedKey × D)) (k : NestedKey) : Option D := (kvs.find? fun p => decide (p.1 = k)).map (·.2)
def dput (kvs : List (NestedKey × D)) (k : NestedKey) (v : D) : List (NestedKey × D) :=
  if (kvs.any fun p => decide (p.1 = k)) = true then kvs.map (fun p => if p.1 = k then (p.1, v) else p) else kvs ++ [(k, v)]
/-- a leaf key that is no bool: whole numbers and texts alone -/
def leafD : D → Bool
  | .int _ => true | .str _ => true | _ => false
def keyIn (d : D) (kvs : List (NestedKey × D)) : R NestedKey :=
  match key d with
  | some k => if (keysWith k kvs && (isTupKey k || leafD d)) = true then .ok k else .bad
  | none => .bad
def memD (x : D) : D → R Bool
  | .lst _ ys => memS x ys
  | .tup ys => memS x ys
  | .dct _ kvs => (keyIn x kvs).bind fun k => .ok (dget kvs k).isSome
  | .str z => match x with
    | .str y => .ok (!(Builtin.Str.occurrences z y 0 z.length 1).isEmpty)
    | _ => .bad
  | _ => .bad
def isNon : D → Bool
  | .non => true
  | _ => false
def cmpD : Cop → D → D → R Bool
  | .lt, .int i, .int j => .ok (decide (i < j))
  | .le, .int i, .int j => .ok (decide (i ≤ j))
  | .gt, .int i, .int j => .ok (decide (j < i))
  | .ge, .int i, .int j => .ok (decide (j ≤ i))
  | .eq, x, y => eqD x y
  | .ne, x, y => (eqD x y).bind fun b => .ok (!b)
  | .mem, x, y => memD x y
  | .nmem, x, y => (memD x y).bind fun b => .ok (!b)
  | .isN, x, .non => .ok (isNon x)
  | .notN, x, .non => .ok (!isNon x)
  | _, _, _ => .bad

/-! ### items, slices, walks -/
def idxD : D → D → R D
  | .lst _ xs, .int i => ofR (L2.atI xs i)
  | .tup xs, .int i => ofR (L2.atI xs i)
  | .str z, .int i => if z.length ≤ sizeLine then ofR ((L2.atI z.cps.toList i).map oneOf) else .bad
  | .dct _ kvs, k => (keyIn k kvs).bind fun k => ofR (dget kvs k)
  | _, _ => .bad
def cutL {α : Type} (xs : List α) (lo hi : Option Int) : List α := (xs.drop (HT.sIx xs.length 0 lo)).take (HT.sIx xs.length xs.length hi - HT.sIx xs.length 0 lo)
def partD : Option D → R (Option Int)
  | none => .ok none
  | some (.int i) => .ok (some i)
  | some _ => .bad
def slD (x : D) (lo hi : Option Int) : R D :=
  match x with
  | .lst _ xs => if cleanL xs = true then .ok (.lst true (cutL xs lo hi)) else .bad
  | .tup xs => if cleanL xs = true then .ok (.tup (cutL xs lo hi)) else .bad
  | .str z => if z.length ≤ sizeLine then .ok (.str (L2.cutS z lo hi)) else .bad
  | _ => .bad
/-- the items of a thing that is walked -/
def itemsD : D → R (List D)
  | .lst _ xs => if cleanL xs = true then .ok xs else .bad
  | .tup xs => if cleanL xs = true then .ok xs else .bad
  | .str z => .ok (z.cps.toList.map oneOf)
  | _ => .bad

inductive Ty where
  | str | int | bool | tuple | list
  deriving DecidableEq
def isTy : Ty → D → R Bool
  | _, .obj _ _ => .bad
  | _, .dct _ _ => .bad
  | .str, .str _ => .ok true
  | .int, .int _ => .ok true
  | .int, .bl _ => .ok true
  | .bool, .bl _ => .ok true
  | .tuple, .tup _ => .ok true
  | .list, .lst _ _ => .ok true
  | _, _ => .ok false
inductive Bi where
  | len | tuple | list | int | str | min | max | abs | sum | all | isi (t : Ty)
  deriving DecidableEq
def intsD : List D → Option (List Int)
  | [] => some []
  | .int i :: r => (intsD r).map (i :: ·)
  | _ => none
def blsD : List D → Option (List Bool)
  | [] => some []
  | .bl i :: r => (blsD r).map (i :: ·)
  | _ => none
def strsD : List D → Option (List Str)
  | [] => some []
  | .str i :: r => (strsD r).map (i :: ·)
  | _ => none
def biD : Bi → List D → R D
  | .len, [.lst _ xs] => .ok (.int xs.length)
  | .len, [.tup xs] => .ok (.int xs.length)
  | .len, [.str z] => if z.length ≤ sizeLine then .ok (.int z.length) else .bad
  | .len, [.dct _ kvs] => .ok (.int kvs.length)
  | .tuple, [.lst _ xs] => if cleanL xs = true then .ok (.tup xs) else .bad
  | .tuple, [.tup xs] => if cleanL xs = true then .ok (.tup xs) else .bad
  | .list, [.lst _ xs] => if cleanL xs = true then .ok (.lst true xs) else .bad
  | .list, [.tup xs] => if cleanL xs = true then .ok (.lst true xs) else .bad
  | .int, [.int i] => .ok (.int i)
  | .int, [.bl b] => .ok (.int (if b = true then 1 else 0))
  | .int, [.str x] => match PySem.intText? x with
    | some n => if x.length ≤ 640 then .ok (.int n) else .bad
    | none => .bad
  | .str, [.int i] => if i.natAbs.log2 < 1920 then .ok (.str (Str.ofString (toString i))) else .bad
  | .min, [.int i, .int j] => .ok (.int (if j < i then j else i))
  | .max, [.int i, .int j] => .ok (.int (if j > i then j else i))
  | .abs, [.int i] => .ok (.int (if i < 0 then -i else i))
  | .sum, [.lst _ xs] => match intsD xs with
    | some ns => .ok (.int ns.sum)
    | none => .bad
  | .all, [.lst _ xs] => match blsD xs with
    | some bs => .ok (.bl (bs.all id))
    | none => .bad
  | .isi t, [x] => (isTy t x).bind fun b => .ok (.bl b)
  | _, _ => .bad
inductive Mt where
  | join | split | find | strIndex | lstIndex | get1 | get2
  deriving DecidableEq
def idxL (x : D) (ys : List D) : R Nat :=
  match py x, pyL ys with
  | some d, some ds => if (SeqAt.shaped d && SeqAt.shaped (.list ds)) = true then ofR (ds.findIdx? fun z => PyData.eqv z d) else .bad
  | _, _ => .bad
def mtD : Mt → D → List D → R D
  | .join, .str s, [.lst _ xs] => match strsD xs with
    | some ys => if (ys.map (·.length)).sum + ys.length * s.length ≤ 16777216 then .ok (.str (Txt.join s ys)) else .bad
    | none => .bad
  | .split, .str s, [.str t] => if (t.length == 0) = false ∧ s.length + 2 ≤ sizeLine then .ok (.lst true ((Txt.split s t).map D.str)) else .bad
  | .find, .str s, [.str t] => .ok (.int (Txt.find s t))
  | .strIndex, .str s, [.str t] => match Builtin.Str.occurrences s t 0 s.length 1 with
    | [] => .bad
    | k :: _ => .ok (.int (k : Nat))
  | .lstIndex, .lst _ xs, [x] => (idxL x xs).bind fun n => .ok (.int n)
  | .get1, .dct _ kvs, [k] => (keyIn k kvs).bind fun k => .ok ((dget kvs k).getD .non)
  | .get2, .dct _ kvs, [k, x] => (keyIn k kvs).bind fun k => if clean x = true then .ok ((dget kvs k).getD x) else .bad
  | _, _, _ => .bad

/-- the receiver is of the method's type -/
def recvOk : Mt → D → Bool
  | .join, .str _ => true | .split, .str _ => true | .find, .str _ => true | .strIndex, .str _ => true
  | .lstIndex, .lst _ _ => true
  | .get1, .dct _ _ => true | .get2, .dct _ _ => true
  | _, _ => false
def Mt.name : Mt → String
  | .join => "join" | .split => "split" | .find => "find" | .strIndex => "index" | .lstIndex => "index" | .get1 => "get" | .get2 => "get"

/-! ### core syntax: expressions that store nothing -/
abbrev Sl := List (Option D)
inductive Pat where
  | one (i : Nat) | many (is : List Nat)
  deriving DecidableEq
def ownIf (r : Bool) (d : D) : R D := if (!r || clean d) = true then .ok d else .bad
def getS (σ : Sl) (i : Nat) : R D :=
  match σ[i]? with
  | some (some d) => .ok d
  | _ => .bad
def boolOf : D → R Bool
  | .bl b => .ok b
  | _ => .bad
def intOf : D → R Int
  | .int i => .ok i
  | _ => .bad
def tupOf : D → R (List D)
  | .tup xs => .ok xs
  | _ => .bad
def wipeL (σ : Sl) : List Nat → Sl
  | [] => σ
  | v :: vs => (wipeL σ vs).set v none
def putAll (σ : Sl) : List Nat → List D → R Sl
  | [], [] => .ok σ
  | i :: is, d :: ds => putAll (σ.set i (some d)) is ds
  | _, _ => .bad
/-- a target takes a value (a tuple whose items are no owned ones, where there are several names) -/
def bindP (σ : Sl) (p : Pat) (d : D) : R Sl :=
  match p with
  | .one i => .ok (σ.set i (some d))
  | .many is => match d with
    | .tup xs => putAll σ is xs
    | _ => .bad
def compR (body : D → R (Option D)) : List D → R (List D)
  | [] => .ok []
  | x :: xs => (body x).bind fun o => (compR body xs).bind fun ys => .ok (match o with | some y => y :: ys | none => ys)
def rngL (lo : Int) (n : Nat) : List D := (List.range n).map fun (k : Nat) => D.int (lo + (k : Int))
def enumL : Nat → List D → List D
  | _, [] => []
  | k, x :: xs => .tup [.int (k : Int), x] :: enumL (k + 1) xs
def zipL : List D → List D → List D
  | x :: xs, y :: ys => .tup [x, y] :: zipL xs ys
  | _, _ => []

end DI
/-! DI, the relation between data and the abstract heap -/
namespace DI
open PySem PySem.Spec PyProof.Rows L2

def nk : Key → NestedKey
  | .inl i => .num i
  | .inr x => .text x
/-- a dict whose keys are nested tuples: xs tells its keys, where they stand, its values -/
def rawN (P : Program) (w : World) (a : Addr) (xs : List (NestedKey × Addr × V)) : HO := .ext fun h =>
  xs.length ≤ sizeLine ∧ (a == sysModules) = false ∧ (xs.map (·.1)).Nodup ∧ ∃ ys : List (NestedKey × Addr × Value),
    Paired (fun (p : NestedKey × Addr × V) (q : NestedKey × Addr × Value) => p.1 = q.1 ∧ p.2.1 = q.2.1 ∧ RelV p.2.2 q.2.2) xs ys ∧
    ∃ o es ep, h.get? a = some o ∧ o.ExactDict ∧ o.data = .dict es ep ∧ es.toList = ys.map (entryOfKey (nestedKind P w))

/-- a frozen list: of the kit's, or of the written part -/
def SqF (K : PySem.W.Frag) (H : Hp) (a : Addr) (vs : List V) : Prop := (∃ ob, H a = some (.frz ob (.lst vs))) ∨
  ∃ (o : Obj) (its : Array Value) (n : Nat), K.lookup a = some o ∧ o.cls = .type "list" ∧ o.dict = none ∧ o.data = .seq its n ∧ its.size ≤ sizeLine ∧ Vals vs its.toList
theorem SqF.sqL {K : PySem.W.Frag} {H : Hp} {a : Addr} {vs : List V} (h : SqF K H a vs) : SqL K H a vs := h.elim (fun ⟨ob, e⟩ => .inl (.inr ⟨ob, e⟩)) .inr
mutual
inductive KRep (K : PySem.W.Frag) (H : Hp) : NestedKey → V → Prop
  | none : KRep K H .none .non
  | num (i : Int) : KRep K H (.num i) (.int i)
  | text (x : Str) : KRep K H (.text x) (.str x)
  | tup {a : Addr} {vs : List V} {ks : List NestedKey} : SqT K H a vs → KReps K H ks vs → KRep K H (.tup ks) (.ref a)
inductive KReps (K : PySem.W.Frag) (H : Hp) : List NestedKey → List V → Prop
  | nil : KReps K H [] []
  | cons {k : NestedKey} {v : V} {ks : List NestedKey} {vs : List V} : KRep K H k v → KReps K H ks vs → KReps K H (k :: ks) (v :: vs)
end

/-- an owned thing's addresses, a frozen one's -/
def OwnP (Z : Addr → Prop) (o : Bool) (a : Addr) (fs fp : List Addr) : Prop := (o = true ∧ fp = a :: fs) ∨ (o = false ∧ fs = [] ∧ fp = [] ∧ Z a)

/-- the environment of it all -/
structure Gv where
  P : Program
  w : World
  K : PySem.W.Frag
  /-- a class's address, the names of its exceptions' values -/
  cls : Nat → Option (Addr × List Str)
  /-- an instance's class, the names of its fields -/
  ins : Nat → Option (Addr × List Str)
  /-- the exception in hand: its address, its class, its dict -/
  cur : Option (Addr × Nat × Option Addr)

mutual
inductive Rep (g : Gv) (Z : Addr → Prop) (H : Hp) : D → V → List Addr → Prop
  | non : Rep g Z H .non .non []
  | bl (b : Bool) : Rep g Z H (.bl b) (.bl b) []
  | int (i : Int) : Rep g Z H (.int i) (.int i) []
  | str (x : Str) : Rep g Z H (.str x) (.str x) []
  | tup {a : Addr} {vs : List V} {xs : List D} {fp : List Addr} : SqT g.K H a vs → Reps g Z H xs vs fp → Rep g Z H (.tup xs) (.ref a) fp
  | lst {a : Addr} {vs : List V} {xs : List D} {o : Bool} {fs fp : List Addr} : H a = some (.lst vs) → Reps g Z H xs vs fs → OwnP Z o a fs fp → Rep g Z H (.lst o xs) (.ref a) fp
  | lstR {a : Addr} {vs : List V} {xs : List D} : SqF g.K H a vs → Reps g Z H xs vs [] → Rep g Z H (.lst false xs) (.ref a) []
  | dK {a : Addr} {kv : List (Key × V)} {kvs : List (NestedKey × D)} {o : Bool} {fp : List Addr} : H a = some (.dK kv) → (kv.map fun p => nk p.1) = kvs.map (·.1) → Reps g Z H (kvs.map (·.2)) (kv.map (·.2)) [] →
      OwnP Z o a [] fp → Rep g Z H (.dct o kvs) (.ref a) fp
  | dN {a : Addr} {xs : List (NestedKey × Addr × V)} {kvs : List (NestedKey × D)} {o : Bool} {fp : List Addr} : H a = some (rawN g.P g.w a xs) → xs.map (·.1) = kvs.map (·.1) → xs ≠ [] →
      (∀ p ∈ xs, KRep g.K H p.1 (.ref p.2.1) ∧ p.1.depth ≤ 8) → Reps g Z H (kvs.map (·.2)) (xs.map (·.2.2)) [] → OwnP Z o a [] fp → Rep g Z H (.dct o kvs) (.ref a) fp
  | exc0 {a : Addr} {c : Nat} : g.cur = some (a, c, none) → Rep g Z H (.obj c []) (.ref a) []
  | excD {a d C : Addr} {c : Nat} {ns : List Str} {vs : List V} {fs : List D} : g.cur = some (a, c, some d) → g.cls c = some (C, ns) → H d = some (.xd (ns.zip vs)) → vs.length = ns.length → Reps g Z H fs vs [] → Rep g Z H (.obj c fs) (.ref a) []
  | ins {a C dx : Addr} {c : Nat} {ns : List Str} {vs : List V} {fs : List D} : g.ins c = some (C, ns) → H a = some (.ins C dx (ns.zip vs)) → Z a → vs.length = ns.length → Reps g Z H fs vs [] → Rep g Z H (.obj c fs) (.ref a) []
inductive Reps (g : Gv) (Z : Addr → Prop) (H : Hp) : List D → List V → List Addr → Prop
  | nil : Reps g Z H [] [] []
  | cons {x : D} {v : V} {xs : List D} {vs : List V} {f fs : List Addr} : Rep g Z H x v f → Reps g Z H xs vs fs → Reps g Z H (x :: xs) (v :: vs) (f ++ fs)
end

section
variable {g : Gv} {Z Z' : Addr → Prop} {H H' : Hp}

/-- what a heap's change must keep of a represented thing: the tuples, the frozen things, what stands at fp -/
structure Kp (Z : Addr → Prop) (fp : List Addr) (H H' : Hp) : Prop where
  tup : ∀ a vs, Rd H a (.tup vs) → Rd H' a (.tup vs)
  frz : ∀ a ob vs, H a = some (.frz ob (.lst vs)) → H' a = some (.frz ob (.lst vs))
  z : ∀ a o, Z a → H a = some o → H' a = some o
  own : ∀ a o, a ∈ fp → H a = some o → H' a = some o
  xd : ∀ a fs, H a = some (.xd fs) → H' a = some (.xd fs)
theorem Same.rd {a : Addr} {u : HO} (s : Same H H') (h : Rd H a u) : Rd H' a u := by
  rcases h with h | ⟨o, h⟩
  · exact .inl (s _ _ h)
  · exact .inr ⟨o, s _ _ h⟩
theorem Kp.of_same {fp : List Addr} (s : Same H H') : Kp Z fp H H' := ⟨fun _ _ h => Same.rd s h, fun _ _ _ h => s _ _ h, fun _ _ _ h => s _ _ h, fun _ _ _ h => s _ _ h, fun _ _ h => s _ _ h⟩
theorem Kp.sub {fp fp' : List Addr} (k : Kp Z fp H H') (h : ∀ a ∈ fp', a ∈ fp) : Kp Z fp' H H' := ⟨k.tup, k.frz, k.z, fun a o m => k.own a o (h a m), k.xd⟩
theorem Kp.out {fp : List Addr} (k : Kp Z fp H H') : Kp Z [] H H' := ⟨k.tup, k.frz, k.z, (fun _ _ m => nomatch m), k.xd⟩
theorem sqT_keep {a : Addr} {vs : List V} (k : ∀ a vs, Rd H a (.tup vs) → Rd H' a (.tup vs)) (h : SqT g.K H a vs) : SqT g.K H' a vs := by
  rcases h with h | h
  · exact .inl (k _ _ h)
  · exact .inr h
theorem sqF_keep {a : Addr} {vs : List V} (k : ∀ a ob vs, H a = some (.frz ob (.lst vs)) → H' a = some (.frz ob (.lst vs))) (h : SqF g.K H a vs) : SqF g.K H' a vs := by
  rcases h with ⟨ob, h⟩ | h
  · exact .inl ⟨ob, k _ _ _ h⟩
  · exact .inr h
mutual
theorem KRep.keep (k : ∀ a vs, Rd H a (.tup vs) → Rd H' a (.tup vs)) : ∀ {q : NestedKey} {v : V}, KRep g.K H q v → KRep g.K H' q v
  | _, _, .none => .none
  | _, _, .num i => .num i
  | _, _, .text x => .text x
  | _, _, .tup h hs => .tup (sqT_keep k h) (KReps.keep k hs)
theorem KReps.keep (k : ∀ a vs, Rd H a (.tup vs) → Rd H' a (.tup vs)) : ∀ {qs : List NestedKey} {vs : List V}, KReps g.K H qs vs → KReps g.K H' qs vs
  | _, _, .nil => .nil
  | _, _, .cons h hs => .cons (KRep.keep k h) (KReps.keep k hs)
end
theorem OwnP.mono {o : Bool} {a : Addr} {fs fp : List Addr} (hz : ∀ a, Z a → Z' a) (h : OwnP Z o a fs fp) : OwnP Z' o a fs fp := by
  rcases h with h | ⟨h1, h2, h3, h4⟩
  · exact .inl h
  · exact .inr ⟨h1, h2, h3, hz _ h4⟩
theorem OwnP.at {o : Bool} {a : Addr} {fs fp : List Addr} {u : HO} (k : Kp Z fp H H') (w : OwnP Z o a fs fp) (h : H a = some u) : H' a = some u := by
  rcases w with ⟨_, e⟩ | ⟨_, _, _, hz⟩
  · exact k.own _ _ (by rw [e]; exact List.mem_cons_self) h
  · exact k.z _ _ hz h
theorem OwnP.sub {o : Bool} {a : Addr} {fs fp : List Addr} (w : OwnP Z o a fs fp) : ∀ b ∈ fs, b ∈ fp := fun b hb => by
  rcases w with ⟨_, e⟩ | ⟨_, e, _, _⟩
  · rw [e]; exact List.mem_cons_of_mem _ hb
  · rw [e] at hb; cases hb
mutual
theorem Rep.keep (hz : ∀ a, Z a → Z' a) : ∀ {d : D} {v : V} {fp : List Addr}, Rep g Z H d v fp → Kp Z fp H H' → Rep g Z' H' d v fp
  | _, _, _, .non, _ => .non
  | _, _, _, .bl b, _ => .bl b
  | _, _, _, .int i, _ => .int i
  | _, _, _, .str x, _ => .str x
  | _, _, _, .tup h hs, k => .tup (sqT_keep k.tup h) (Reps.keep hz hs k)
  | _, _, _, .lst h hs w, k => .lst (w.at k h) (Reps.keep hz hs (k.sub w.sub)) (w.mono hz)
  | _, _, _, .lstR h hs, k => .lstR (sqF_keep k.frz h) (Reps.keep hz hs k)
  | _, _, _, .dK h e hs w, k => .dK (w.at k h) e (Reps.keep hz hs k.out) (w.mono hz)
  | _, _, _, .dN h e ne hk hs w, k => .dN (w.at k h) e ne (fun p hp => ⟨KRep.keep k.tup (hk p hp).1, (hk p hp).2⟩) (Reps.keep hz hs k.out) (w.mono hz)
  | _, _, _, .exc0 e, k => .exc0 e
  | _, _, _, .excD e c h l hs, k => .excD e c (k.xd _ _ h) l (Reps.keep hz hs k.out)
  | _, _, _, .ins c h z l hs, k => .ins c (k.z _ _ z h) (hz _ z) l (Reps.keep hz hs k.out)
theorem Reps.keep (hz : ∀ a, Z a → Z' a) : ∀ {ds : List D} {vs : List V} {fp : List Addr}, Reps g Z H ds vs fp → Kp Z fp H H' → Reps g Z' H' ds vs fp
  | _, _, _, .nil, _ => .nil
  | _, _, _, .cons h hs, k => .cons (Rep.keep hz h (k.sub fun _ hb => List.mem_append_left _ hb)) (Reps.keep hz hs (k.sub fun _ hb => List.mem_append_right _ hb))
end
theorem Rep.same {d : D} {v : V} {fp : List Addr} (r : Rep g Z H d v fp) (hz : ∀ a, Z a → Z' a) (s : Same H H') : Rep g Z' H' d v fp := r.keep hz (.of_same s)
theorem Reps.same {d : List D} {v : List V} {fp : List Addr} (r : Reps g Z H d v fp) (hz : ∀ a, Z a → Z' a) (s : Same H H') : Reps g Z' H' d v fp := r.keep hz (.of_same s)

mutual
theorem Rep.clean : ∀ {d : D} {v : V} {fp : List Addr}, Rep g Z H d v fp → clean d = true → fp = []
  | _, _, _, .non, _ => rfl
  | _, _, _, .bl b, _ => rfl
  | _, _, _, .int i, _ => rfl
  | _, _, _, .str x, _ => rfl
  | _, _, _, .tup h hs, c => Reps.clean hs (by simpa [DI.clean] using c)
  | _, _, _, .lst h hs w, c => by
    simp only [DI.clean, Bool.and_eq_true, Bool.not_eq_true'] at c
    rcases w with ⟨e, _⟩ | ⟨_, _, e, _⟩
    · rw [c.1] at e; cases e
    · exact e
  | _, _, _, .lstR h hs, _ => rfl
  | _, _, _, .dK h e hs w, c => by
    simp only [DI.clean, Bool.not_eq_true'] at c
    rcases w with ⟨e, _⟩ | ⟨_, _, e, _⟩
    · rw [c] at e; cases e
    · exact e
  | _, _, _, .dN h e ne hk hs w, c => by
    simp only [DI.clean, Bool.not_eq_true'] at c
    rcases w with ⟨e, _⟩ | ⟨_, _, e, _⟩
    · rw [c] at e; cases e
    · exact e
  | _, _, _, .exc0 e, _ => rfl
  | _, _, _, .excD e c h l hs, _ => rfl
  | _, _, _, .ins c h z l hs, _ => rfl
theorem Reps.clean : ∀ {ds : List D} {vs : List V} {fp : List Addr}, Reps g Z H ds vs fp → cleanL ds = true → fp = []
  | _, _, _, .nil, _ => rfl
  | _, _, _, .cons h hs, c => by
    simp only [cleanL, Bool.and_eq_true] at c
    rw [Rep.clean h c.1, Reps.clean hs c.2]
    rfl
end
mutual
/-- frozen: its addresses are in the zone from now on -/
theorem Rep.frz (hz : ∀ a, Z a → Z' a) : ∀ {d : D} {v : V} {fp : List Addr}, Rep g Z H d v fp → (∀ a ∈ fp, Z' a) → Rep g Z' H (frz d) v []
  | _, _, _, .non, _ => .non
  | _, _, _, .bl b, _ => .bl b
  | _, _, _, .int i, _ => .int i
  | _, _, _, .str x, _ => .str x
  | _, _, _, .tup h hs, k => .tup h (Reps.frz hz hs k)
  | _, _, _, .lst h hs w, k => by
    refine .lst h (Reps.frz hz hs fun a ha => k a (w.sub a ha)) (.inr ⟨rfl, rfl, rfl, ?_⟩)
    rcases w with ⟨_, e⟩ | ⟨_, _, _, z⟩
    · exact k _ (by rw [e]; exact List.mem_cons_self)
    · exact hz _ z
  | _, _, _, .lstR h hs, k => .lstR h (Reps.frz hz hs k)
  | _, _, _, .dK h e hs w, k => by
    refine .dK h e (hs.same hz fun _ _ e => e) (.inr ⟨rfl, rfl, rfl, ?_⟩)
    rcases w with ⟨_, e⟩ | ⟨_, _, _, z⟩
    · exact k _ (by rw [e]; exact List.mem_cons_self)
    · exact hz _ z
  | _, _, _, .dN h e ne hk hs w, k => by
    refine .dN h e ne hk (hs.same hz fun _ _ e => e) (.inr ⟨rfl, rfl, rfl, ?_⟩)
    rcases w with ⟨_, e⟩ | ⟨_, _, _, z⟩
    · exact k _ (by rw [e]; exact List.mem_cons_self)
    · exact hz _ z
  | _, _, _, .exc0 e, k => by rw [DI.frz, DI.frzL]; exact .exc0 e
  | _, _, _, .excD e c h l hs, k => by rw [DI.frz]; exact .excD e c h l (Reps.frz hz hs fun a ha => nomatch ha)
  | _, _, _, .ins c h z l hs, k => by rw [DI.frz]; exact .ins c h (hz _ z) l (Reps.frz hz hs fun a ha => nomatch ha)
theorem Reps.frz (hz : ∀ a, Z a → Z' a) : ∀ {ds : List D} {vs : List V} {fp : List Addr}, Reps g Z H ds vs fp → (∀ a ∈ fp, Z' a) → Reps g Z' H (frzL ds) vs []
  | _, _, _, .nil, _ => .nil
  | _, _, _, .cons h hs, k => .cons (f := []) (fs := []) (Rep.frz hz h fun a ha => k a (List.mem_append_left _ ha)) (Reps.frz hz hs fun a ha => k a (List.mem_append_right _ ha))
end
mutual
/-- no frozen thing within: the zone doesn't matter -/
theorem Rep.unzone : ∀ {d : D} {v : V} {fp : List Addr}, Rep g Z H d v fp → noFrz d = true → Rep g Z' H d v fp
  | _, _, _, .non, _ => .non
  | _, _, _, .bl b, _ => .bl b
  | _, _, _, .int i, _ => .int i
  | _, _, _, .str x, _ => .str x
  | _, _, _, .tup h hs, c => .tup h (Reps.unzone hs (by simpa [noFrz] using c))
  | _, _, _, .lst h hs w, c => by
    simp only [noFrz, Bool.and_eq_true] at c
    refine .lst h (Reps.unzone hs c.2) ?_
    rcases w with w | ⟨e, _⟩
    · exact .inl w
    · rw [c.1] at e; cases e
  | _, _, _, .lstR h hs, c => by simp [noFrz] at c
  | _, _, _, .dK h e hs w, c => by
    simp only [noFrz, noFrzK_map, Bool.and_eq_true] at c
    refine .dK h e (Reps.unzone hs c.2) ?_
    rcases w with w | ⟨e, _⟩
    · exact .inl w
    · rw [c.1] at e; cases e
  | _, _, _, .dN h e ne hk hs w, c => by
    simp only [noFrz, noFrzK_map, Bool.and_eq_true] at c
    refine .dN h e ne hk (Reps.unzone hs c.2) ?_
    rcases w with w | ⟨e, _⟩
    · exact .inl w
    · rw [c.1] at e; cases e
  | _, _, _, .exc0 e, c => by simp [noFrz] at c
  | _, _, _, .excD e c' h l hs, c => by simp [noFrz] at c
  | _, _, _, .ins c' h z l hs, c => by simp [noFrz] at c
theorem Reps.unzone : ∀ {ds : List D} {vs : List V} {fp : List Addr}, Reps g Z H ds vs fp → noFrzL ds = true → Reps g Z' H ds vs fp
  | _, _, _, .nil, _ => .nil
  | _, _, _, .cons h hs, c => by
    simp only [noFrzL, Bool.and_eq_true] at c
    exact .cons (Rep.unzone h c.1) (Reps.unzone hs c.2)
end
end
end DI
/-! DI, the state's relation, the reading of an evaluation, the simple expressions -/
namespace DI
open PySem PySem.Spec PyProof.Rows L2

/-- a refusal in the air -/
def ExR (g : Gv) (c : Nat) (fs : List D) (cls : Value) (d : Option Addr) (H : Hp) : Prop :=
  ∃ C ns, g.cls c = some (C, ns) ∧ cls = .ref C ∧ ((ns = [] ∧ fs = [] ∧ d = none) ∨
    (ns ≠ [] ∧ ∃ dd vs, d = some dd ∧ H dd = some (.xd (ns.zip vs)) ∧ vs.length = ns.length ∧ Reps g (fun _ => False) H fs vs []))
/-- the zone grows by what was new -/
structure Zx (Z Z' : Addr → Prop) (H H' : Hp) : Prop where
  le : ∀ a, Z a → Z' a
  new : ∀ a, Z' a → Z a ∨ H a = none
  inn : ∀ a, Z' a → H' a ≠ none
theorem same_refl (H : Hp) : Same H H := fun _ _ e => e
theorem same_trans {H H1 H2 : Hp} (a : Same H H1) (b : Same H1 H2) : Same H H2 := fun x o e => b x o (a x o e)
theorem same_none {H H' : Hp} (s : Same H H') {a : Addr} (h : H' a = none) : H a = none := by
  cases e : H a with
  | none => rfl
  | some o => rw [s a o e] at h; cases h
theorem same_upd {H : Hp} {p : Addr} {o : HO} (h : H p = none) : Same H (upd H p o) := fun b x e => by
  rw [upd_ne (ne_of_none e h)]
  exact e
theorem Zx.refl {Z : Addr → Prop} {H : Hp} (h : ∀ a, Z a → H a ≠ none) : Zx Z Z H H := ⟨fun _ z => z, fun _ z => .inl z, h⟩
theorem Zx.trans {Z Z1 Z2 : Addr → Prop} {H H1 H2 : Hp} (s : Same H H1) (a : Zx Z Z1 H H1) (b : Zx Z1 Z2 H1 H2) : Zx Z Z2 H H2 :=
  ⟨fun x z => b.le x (a.le x z), fun x z => by
    rcases b.new x z with h | h
    · exact a.new x h
    · exact .inr (same_none s h), b.inn⟩
theorem Zx.stay {Z : Addr → Prop} {H H' : Hp} (h : ∀ a, Z a → H a ≠ none) (s : Same H H') : Zx Z Z H H' := ⟨fun _ z => z, fun _ z => .inl z, fun a z e => h a z (same_none s e)⟩

structure PostE (g : Gv) (b : Bool) (Z Z' : Addr → Prop) (H H' : Hp) (d : D) (v : V) (fp : List Addr) : Prop where
  same : Same H H'
  zx : Zx Z Z' H H'
  rep : Rep g Z' H' d v fp
  own : b = true → fp.Nodup ∧ ∀ a ∈ fp, H a = none ∧ ¬ Z' a
structure SR (g : Gv) (H0 : Hp) (Z : Addr → Prop) (fps : List (List Addr)) (σl : Sl) (σ : L2.St) (H : Hp) : Prop where
  len : σl.length = σ.length
  lenf : fps.length = σ.length
  slot : ∀ (i : Nat) (d : D), σl[i]? = some (some d) → ∃ v fp, σ[i]? = some (some v) ∧ fps[i]? = some fp ∧ Rep g Z H d v fp
  gone : ∀ (i : Nat), σl[i]? = some none → fps[i]? = some []
  nd : fps.flatten.Nodup
  own : ∀ a ∈ fps.flatten, ¬ Z a ∧ H0 a = none ∧ H a ≠ none
  z : ∀ a, Z a → H a ≠ none
  same : Same H0 H

section
variable {g : Gv} {W : L2.WX} {Z Z1 Z' : Addr → Prop} {H0 H H1 H' : Hp} {fps : List (List Addr)} {σl : Sl} {σ : L2.St}
theorem SR.step (r : SR g H0 Z fps σl σ H) (s : Same H H1) (z : Zx Z Z1 H H1) : SR g H0 Z1 fps σl σ H1 where
  len := r.len
  lenf := r.lenf
  slot := fun i d e => by
    obtain ⟨v, fp, e1, e2, rp⟩ := r.slot i d e
    exact ⟨v, fp, e1, e2, rp.same z.le s⟩
  gone := r.gone
  nd := r.nd
  own := fun a ha => by
    obtain ⟨h1, h2, h3⟩ := r.own a ha
    refine ⟨fun q => ?_, h2, fun e => h3 (same_none s e)⟩
    rcases z.new a q with q | q
    · exact h1 q
    · exact h3 q
  z := z.inn
  same := same_trans r.same s
theorem PostE.pre {b : Bool} {d : D} {v : V} {fp : List Addr} (s : Same H H1) (z : Zx Z Z1 H H1) (p : PostE g b Z1 Z' H1 H' d v fp) : PostE g b Z Z' H H' d v fp :=
  ⟨same_trans s p.same, z.trans s p.zx, p.rep, fun e => ⟨(p.own e).1, fun a ha => ⟨same_none s ((p.own e).2 a ha).1, ((p.own e).2 a ha).2⟩⟩⟩
theorem PostE.weak {b : Bool} {d : D} {v : V} {fp : List Addr} (p : PostE g true Z Z' H H' d v fp) : PostE g b Z Z' H H' d v fp := ⟨p.same, p.zx, p.rep, fun _ => p.own rfl⟩
theorem PostE.borrow {b : Bool} {d : D} {v : V} {fp : List Addr} (p : PostE g b Z Z' H H' d v fp) : PostE g false Z Z' H H' d v fp := ⟨p.same, p.zx, p.rep, fun e => by cases e⟩

def Out {α : Type} (g : Gv) (W : L2.WX) (Z : Addr → Prop) (σ : L2.St) (H : Hp) (r : R α) (P : α → Prop) : Prop :=
  match r with
  | .ok a => P a
  | .err c fs => ∀ H' Z' cls d, Same H H' → Zx Z Z' H H' → ExR g c fs cls d H' → W cls d σ H'
  | .bad => False
theorem Out.bind {α β : Type} {r : R α} {k : α → R β} {P : β → Prop} (h : Out g W Z σ H (r.bind k) P) : Out g W Z σ H r fun a => Out g W Z σ H (k a) P := by
  cases r with
  | ok a => exact h
  | err c fs => exact h
  | bad => exact h
theorem Out.imp {α : Type} {r : R α} {P P' : α → Prop} (h : Out g W Z σ H r P) (hp : ∀ a, P a → P' a) : Out g W Z σ H r P' := by
  cases r with
  | ok a => exact hp a h
  | err c fs => exact h
  | bad => exact h
theorem Out.step {α : Type} {r : R α} {P P' : α → Prop} (h : Out g W Z σ H r P) (s : Same H H1) (z : Zx Z Z1 H H1) (hp : ∀ a, P a → P' a) : Out g W Z1 σ H1 r P' := by
  cases r with
  | ok a => exact hp a h
  | err c fs => exact fun H' Z' cls d s' z' e => h H' Z' cls d (same_trans s s') (z.trans s z') e
  | bad => exact h
theorem Out.guard {α : Type} {c : Prop} [Decidable c] {r : R α} {P : α → Prop} (h : Out g W Z σ H (if c then r else .bad) P) : c ∧ Out g W Z σ H r P := by
  by_cases hc : c
  · rw [if_pos hc] at h; exact ⟨hc, h⟩
  · rw [if_neg hc] at h; exact h.elim
/-- a result that only fails or is said -/
theorem Out.okOf {α : Type} {r : R α} {P : α → Prop} (h : Out g W Z σ H r P) (hn : ∀ c fs, r ≠ .err c fs) : ∃ a, r = .ok a ∧ P a := by
  cases r with
  | ok a => exact ⟨a, rfl, h⟩
  | err c fs => exact absurd rfl (hn c fs)
  | bad => exact h.elim

/-- the reading -/
def tI (g : Gv) (W : L2.WX) (b : Bool) (f : Sl → R D) : TE := fun σ H Q => ∃ H0 Z fps σl, SR g H0 Z fps σl σ H ∧ Out g W Z σ H (f σl) fun d => ∀ v H' Z' fp, PostE g b Z Z' H H' d v fp → Q v H'
/-- of an argument list: the items of a tuple that is not made; ow: the items are all owned, apart from one another -/
structure PostA (g : Gv) (b : Bool) (Z Z' : Addr → Prop) (H H' : Hp) (ds : List D) (vs : List V) (fp : List Addr) : Prop where
  same : Same H H'
  zx : Zx Z Z' H H'
  rep : Reps g Z' H' ds vs fp
  own : b = true → fp.Nodup ∧ ∀ a ∈ fp, H a = none ∧ ¬ Z' a
def tIA (g : Gv) (W : L2.WX) (b : Bool) (f : Sl → R D) : TA := fun σ H Q => ∃ H0 Z fps σl, SR g H0 Z fps σl σ H ∧ Out g W Z σ H (f σl) fun d => ∃ ds, d = .tup ds ∧ ∀ vs H' Z' fp, PostA g b Z Z' H H' ds vs fp → Q vs H'
def tIT (g : Gv) (W : L2.WX) (f : Sl → R D) : TT := fun σ H Q => ∃ H0 Z fps σl, SR g H0 Z fps σl σ H ∧ Out g W Z σ H (f σl) fun d => ∃ b, d = .bl b ∧ ∀ H' Z', Same H H' → Zx Z Z' H H' → Q b H'
end

theorem _root_.L2.PE.imp {X : Cx} {e : Expr} {t t' : TE} (h : PE X e t) (hi : ∀ σ H Q, t' σ H Q → t σ H Q) : PE X e t' := ⟨fun pins s σ H Q I q => h.run pins s σ H Q I (hi _ _ _ q)⟩
theorem _root_.L2.PT.imp {X : Cx} {e : Expr} {t t' : TT} (h : PT X e t) (hi : ∀ σ H Q, t' σ H Q → t σ H Q) : PT X e t' := ⟨fun pins s σ H Q I q => h.run pins s σ H Q I (hi _ _ _ q)⟩
theorem _root_.L2.PW.imp {X : Cx} {e : Expr} {t t' : TT} (h : PW X e t) (hi : ∀ σ H Q, t' σ H Q → t σ H Q) : PW X e t' := ⟨fun wh pins s σ H Q I q => h.run wh pins s σ H Q I (hi _ _ _ q)⟩
theorem _root_.L2.PA.imp {X : Cx} {e : List Expr} {t t' : TA} (h : PA X e t) (hi : ∀ σ H Q, t' σ H Q → t σ H Q) : PA X e t' := ⟨fun pos pins s σ H Q I q => h.run pos pins s σ H Q I (hi _ _ _ q)⟩
theorem _root_.L2.PS.imp {X : Cx} {e : Stmt} {t t' : TS} (h : PS X e t) (hi : ∀ D σ H, t' D σ H → t D σ H) : PS X e t' := ⟨fun pins s σ H Q I q => h.run pins s σ H Q I (hi _ _ _ q)⟩
theorem _root_.L2.PSs.imp {X : Cx} {e : List Stmt} {t t' : TS} (h : PSs X e t) (hi : ∀ D σ H, t' D σ H → t D σ H) : PSs X e t' := ⟨fun pins s σ H Q I q => h.run pins s σ H Q I (hi _ _ _ q)⟩
theorem _root_.L2.PI.imp {X : Cx} {tg e : Expr} {t t' : TI} (h : PI X tg e t) (hi : ∀ σ H Q, t' σ H Q → t σ H Q) : PI X tg e t' := ⟨fun pins s σ H Q I q => h.run pins s σ H Q I (hi _ _ _ q)⟩

/-- the context's own facts -/
structure Gof (g : Gv) (X : Cx) : Prop where
  P : X.prog = g.P
  w : X.w = g.w
  K : X.K = g.K

section
variable {X : Cx} {g : Gv} {W : L2.WX} {a b c : Expr} {fa fb fc : Sl → R D} {ba bb bc : Bool} {pos : Pos}

/-- an operator upon data, by values -/
def OpD (g : Gv) (W : L2.WX) (bo : Bool) (r : R2) (h : D → D → R D) : Prop := ∀ (Z : Addr → Prop) (σ : L2.St) (H : Hp) (x y : D) (v u : V) (fx fy : List Addr) (Q : VK), (∀ a, Z a → H a ≠ none) → Rep g Z H x v fx → Rep g Z H y u fy →
  Out g W Z σ H (h x y) (fun d => ∀ v H' Z' fp, PostE g bo Z Z' H H' d v fp → Q v H') → r v u H Q
theorem tOp_of {r : R2} {h : D → D → R D} {bo : Bool} (hr : OpD g W bo r h) {σ : L2.St} {H : Hp} {Q : VK} (q : tI g W bo (fun σ => (fa σ).bind fun x => (fb σ).bind fun y => h x y) σ H Q) :
    tOp r (tI g W ba fa) (tI g W bb fb) σ H Q := by
  obtain ⟨H0, Z, fps, σl, sr, o⟩ := q
  refine ⟨H0, Z, fps, σl, sr, o.bind.imp fun x h v1 H1 Z1 fp1 p1 => ?_⟩
  refine ⟨H0, Z1, fps, σl, sr.step p1.same p1.zx, h.bind.step p1.same p1.zx fun y h2 v2 H2 Z2 fp2 p2 => ?_⟩
  have s2 := same_trans p1.same p2.same
  have z2 := p1.zx.trans p1.same p2.zx
  exact hr Z2 σ H2 x y v1 v2 fp1 fp2 Q p2.zx.inn (p1.rep.same p2.zx.le p2.same) p2.rep (h2.step s2 z2 fun d q v H' Z' fp p => q v H' Z' fp (p.pre s2 z2))
theorem se_bin {op : Operator} {r : R2} {h : D → D → R D} {bo : Bool} (ho : OpR X (binaryOp op) r) (hr : OpD g W bo r h) (ha : PE X a (tI g W ba fa)) (hb : PE X b (tI g W bb fb)) :
    PE X (.BinOp a op b pos) (tI g W bo fun σ => (fa σ).bind fun x => (fb σ).bind fun y => h x y) := (pe_op ho ha hb).imp fun _ _ _ q => tOp_of hr q
theorem se_cmp {op : CmpOp} {r : R2} {h : D → D → R D} {bo : Bool} (ho : OpR X (compareOp op) r) (hr : OpD g W bo r h) (ha : PE X a (tI g W ba fa)) (hb : PE X b (tI g W bb fb)) (hm : behindInMarks op b = false) :
    PE X (.Compare a [op] [b] pos) (tI g W bo fun σ => (fa σ).bind fun x => (fb σ).bind fun y => h x y) := (pe_cmpR ho ha hb hm).imp fun _ _ _ q => tOp_of hr q
theorem st_cmp {op : CmpOp} {r : R2} {h : D → D → R D} (ho : OpR X (compareOp op) r) (hr : OpD g W true r h) (ha : PE X a (tI g W ba fa)) (hb : PE X b (tI g W bb fb)) (hm : behindInMarks op b = false) :
    PT X (.Compare a [op] [b] pos) (tIT g W fun σ => (fa σ).bind fun x => (fb σ).bind fun y => h x y) := (pt_cmpR ho ha hb hm).imp fun σ H Q q => by
  refine tOp_of (bo := true) hr (Q := fun x H' => ∃ k, x = .bl k ∧ Q k H') ?_
  obtain ⟨H0, Z, fps, σl, sr, o⟩ := q
  refine ⟨H0, Z, fps, σl, sr, o.imp fun d ⟨k, e, q⟩ v H' Z' fp p => ?_⟩
  subst e
  have rp := p.rep
  cases rp
  exact ⟨k, rfl, q H' Z' p.same p.zx⟩
theorem se_ix {r : R2} {h : D → D → R D} {bo : Bool} (ho : IxR X r) (hr : OpD g W bo r h) (ha : PE X a (tI g W ba fa)) (hb : PE X b (tI g W bb fb)) (hs : PlainIx b) :
    PE X (.Subscript a b pos) (tI g W bo fun σ => (fa σ).bind fun x => (fb σ).bind fun y => h x y) := (pe_ix ho ha hb hs).imp fun _ _ _ q => tOp_of hr q

/-- a new scalar -/
theorem post_sc {Z : Addr → Prop} {H : Hp} {d : D} {v : V} {bo : Bool} (hz : ∀ a, Z a → H a ≠ none) (r : Rep g Z H d v []) : PostE g bo Z Z H H d v [] :=
  ⟨same_refl H, .refl hz, r, fun _ => ⟨List.nodup_nil, fun _ h => nomatch h⟩⟩
/-- a new object at p, its parts clean -/
theorem post_new {Z : Addr → Prop} {H : Hp} {d : D} {p : Addr} {o : HO} {fp : List Addr} {bo : Bool} (hz : ∀ a, Z a → H a ≠ none) (hp : H p = none) (r : Rep g Z (upd H p o) d (.ref p) fp) (hf : fp = [] ∨ fp = [p]) : PostE g bo Z Z H (upd H p o) d (.ref p) fp :=
  ⟨same_upd hp, .stay hz (same_upd hp), r, fun _ => by
    rcases hf with rfl | rfl
    · exact ⟨List.nodup_nil, fun _ h => nomatch h⟩
    · refine ⟨by simp, fun a ha => ?_⟩
      have e : a = p := by simpa using ha
      subst e
      exact ⟨hp, fun z => hz _ z hp⟩⟩

/-! ### inversion of a representation -/
variable {Z : Addr → Prop} {H : Hp} {v u : V} {fp : List Addr}
theorem rep_int {i : Int} (r : Rep g Z H (.int i) v fp) : v = .int i ∧ fp = [] := by cases r; exact ⟨rfl, rfl⟩
theorem rep_bl {i : Bool} (r : Rep g Z H (.bl i) v fp) : v = .bl i ∧ fp = [] := by cases r; exact ⟨rfl, rfl⟩
theorem rep_str {i : Str} (r : Rep g Z H (.str i) v fp) : v = .str i ∧ fp = [] := by cases r; exact ⟨rfl, rfl⟩
theorem rep_non (r : Rep g Z H .non v fp) : v = .non ∧ fp = [] := by cases r; exact ⟨rfl, rfl⟩
theorem rep_tup {xs : List D} (r : Rep g Z H (.tup xs) v fp) : ∃ a vs, v = .ref a ∧ SqT g.K H a vs ∧ Reps g Z H xs vs fp := by
  cases r with
  | tup h hs => exact ⟨_, _, rfl, h, hs⟩
theorem rep_lst {o : Bool} {xs : List D} (r : Rep g Z H (.lst o xs) v fp) : ∃ a vs fs, v = .ref a ∧ SqL g.K H a vs ∧ Reps g Z H xs vs fs ∧ (∀ b ∈ fs, b ∈ fp) := by
  cases r with
  | lst h hs w => exact ⟨_, _, _, rfl, .of h, hs, w.sub⟩
  | lstR h hs => exact ⟨_, _, _, rfl, h.sqL, hs, fun _ h => nomatch h⟩
theorem Reps.get {xs : List D} {vs : List V} : ∀ {fp : List Addr}, Reps g Z H xs vs fp → ∀ (i : Nat) (x : D), xs[i]? = some x → ∃ v f, vs[i]? = some v ∧ Rep g Z H x v f ∧ (∀ a ∈ f, a ∈ fp) ∧ (fp.Nodup → f.Nodup) := by
  induction xs generalizing vs with
  | nil => intro fp _ i x e; simp at e
  | cons y ys ih =>
    intro fp r i x e
    cases r with
    | cons h hs =>
      cases i with
      | zero =>
        simp at e; subst e
        exact ⟨_, _, rfl, h, fun a ha => List.mem_append_left _ ha, fun n => (List.nodup_append.mp n).1⟩
      | succ i =>
        obtain ⟨v, f, e1, r1, s1, n1⟩ := ih hs i x (by simpa using e)
        exact ⟨v, f, by simpa using e1, r1, fun a ha => List.mem_append_right _ (s1 a ha), fun n => n1 (List.nodup_append.mp n).2.1⟩
theorem Reps.length : ∀ {xs : List D} {vs : List V} {fp : List Addr}, Reps g Z H xs vs fp → xs.length = vs.length
  | _, _, _, .nil => rfl
  | _, _, _, .cons _ t => by rw [List.length_cons, List.length_cons, Reps.length t]
theorem Reps.append : ∀ {xs ys : List D} {vs us : List V} {f1 f2 : List Addr}, Reps g Z H xs vs f1 → Reps g Z H ys us f2 → Reps g Z H (xs ++ ys) (vs ++ us) (f1 ++ f2)
  | _, _, _, _, _, _, .nil, s => s
  | _, _, _, _, _, _, .cons r t, s => by
    rw [List.append_assoc]
    exact .cons r (Reps.append t s)
theorem Reps.drop0 : ∀ {xs : List D} {vs : List V} (n : Nat), Reps g Z H xs vs [] → Reps g Z H (xs.drop n) (vs.drop n) []
  | xs, vs, 0, r => r
  | [], _, _ + 1, r => by cases r; exact .nil
  | x :: xs, _, n + 1, r => by
    generalize hf : ([] : List Addr) = f at r
    cases r with
    | cons h hs =>
      obtain ⟨e1, e2⟩ := List.append_eq_nil_iff.mp hf.symm
      subst e1 e2
      exact Reps.drop0 n hs
theorem Reps.take0 : ∀ {xs : List D} {vs : List V} (n : Nat), Reps g Z H xs vs [] → Reps g Z H (xs.take n) (vs.take n) []
  | xs, vs, 0, r => .nil
  | [], _, _ + 1, r => by cases r; exact .nil
  | x :: xs, _, n + 1, r => by
    generalize hf : ([] : List Addr) = f at r
    cases r with
    | cons h hs =>
      obtain ⟨e1, e2⟩ := List.append_eq_nil_iff.mp hf.symm
      subst e1 e2
      exact .cons (f := []) (fs := []) h (Reps.take0 n hs)
theorem Reps.to0 {xs : List D} {vs : List V} {fp : List Addr} (r : Reps g Z H xs vs fp) (c : cleanL xs = true) : Reps g Z H xs vs [] := by
  have e := r.clean c
  subst e
  exact r
theorem Rep.to0 {x : D} {v : V} {fp : List Addr} (r : Rep g Z H x v fp) (c : DI.clean x = true) : Rep g Z H x v [] := by
  have e := Rep.clean r c
  subst e
  exact r
mutual
theorem Rep.there : ∀ {d : D} {v : V} {fp : List Addr}, Rep g Z H d v fp → ∀ a ∈ fp, H a ≠ none
  | _, _, _, .non, _, h => nomatch h
  | _, _, _, .bl b, _, h => nomatch h
  | _, _, _, .int i, _, h => nomatch h
  | _, _, _, .str x, _, h => nomatch h
  | _, _, _, .tup _ hs, a, h => Reps.there hs a h
  | _, _, _, .lst e hs w, a, h => by
    rcases w with ⟨_, q⟩ | ⟨_, _, q, _⟩
    · rw [q] at h
      rcases List.mem_cons.mp h with rfl | h
      · rw [e]; exact Option.some_ne_none _
      · exact Reps.there hs a h
    · rw [q] at h; cases h
  | _, _, _, .lstR h hs, _, h' => nomatch h'
  | _, _, _, .dK e _ hs w, a, h => by
    rcases w with ⟨_, q⟩ | ⟨_, _, q, _⟩
    · rw [q] at h
      rw [List.mem_singleton.mp h, e]; exact Option.some_ne_none _
    · rw [q] at h; cases h
  | _, _, _, .dN e _ _ _ hs w, a, h => by
    rcases w with ⟨_, q⟩ | ⟨_, _, q, _⟩
    · rw [q] at h
      rw [List.mem_singleton.mp h, e]; exact Option.some_ne_none _
    · rw [q] at h; cases h
  | _, _, _, .exc0 _, _, h' => nomatch h'
  | _, _, _, .excD _ _ _ _ _, _, h' => nomatch h'
  | _, _, _, .ins _ _ _ _ _, _, h' => nomatch h'
theorem Reps.there : ∀ {d : List D} {v : List V} {fp : List Addr}, Reps g Z H d v fp → ∀ a ∈ fp, H a ≠ none
  | _, _, _, .nil, _, h => nomatch h
  | _, _, _, .cons r hs, a, h => by
    rcases List.mem_append.mp h with h | h
    · exact Rep.there r a h
    · exact Reps.there hs a h
end
end
end DI
/-! DI, the operators upon data -/
namespace DI
open PySem PySem.Spec PyProof.Rows L2

section
variable {g : Gv} {Z : Addr → Prop} {H : Hp}
mutual
theorem Rep.dp : ∀ {d : D} {v : V} {fp : List Addr} {p : PyData}, Rep g Z H d v fp → py d = some p → Dp g.K H v p
  | _, _, _, _, .non, e => by cases e; exact .non
  | _, _, _, _, .bl b, e => by cases e; exact .bl b
  | _, _, _, _, .int i, e => by cases e; exact .int i
  | _, _, _, _, .str x, e => by cases e; exact .str x
  | _, _, _, _, .tup h hs, e => by
    obtain ⟨ds, e1, rfl⟩ := Option.map_eq_some_iff.mp (show (pyL _).map PyData.tuple = some _ from e)
    exact .tup h (Reps.dp hs e1)
  | _, _, _, _, .lst h hs w, e => by
    obtain ⟨ds, e1, rfl⟩ := Option.map_eq_some_iff.mp (show (pyL _).map PyData.list = some _ from e)
    exact .lst (.of h) (Reps.dp hs e1)
  | _, _, _, _, .lstR h hs, e => by
    obtain ⟨ds, e1, rfl⟩ := Option.map_eq_some_iff.mp (show (pyL _).map PyData.list = some _ from e)
    exact .lst h.sqL (Reps.dp hs e1)
  | _, _, _, _, .dK h e hs w, q => by simp [py] at q
  | _, _, _, _, .dN h e ne hk hs w, q => by simp [py] at q
  | _, _, _, _, .exc0 _, q => by simp [py] at q
  | _, _, _, _, .excD _ _ _ _ _, q => by simp [py] at q
  | _, _, _, _, .ins _ _ _ _ _, q => by simp [py] at q
theorem Reps.dp : ∀ {d : List D} {v : List V} {fp : List Addr} {p : List PyData}, Reps g Z H d v fp → pyL d = some p → DpAll g.K H v p
  | _, _, _, _, .nil, e => by cases e; exact .nil
  | _, _, _, _, .cons (x := x) (xs := xs) h hs, e => by
    have e : ((py x).bind fun d => (pyL xs).map fun ds => d :: ds) = some _ := e
    obtain ⟨d, e1, e2⟩ := Option.bind_eq_some_iff.mp e
    obtain ⟨ds, e3, rfl⟩ := Option.map_eq_some_iff.mp e2
    exact .cons (Rep.dp h e1) (Reps.dp hs e3)
end
theorem rep_own {xs : List D} {v : V} {fp : List Addr} (r : Rep g Z H (.lst true xs) v fp) : ∃ l vs fs, v = .ref l ∧ H l = some (.lst vs) ∧ Reps g Z H xs vs fs ∧ fp = l :: fs := by
  cases r with
  | lst h hs w =>
    rcases w with ⟨_, e⟩ | ⟨e, _⟩
    · exact ⟨_, _, _, rfl, h, hs, e⟩
    · cases e
theorem rep_lst' {o : Bool} {xs : List D} {v : V} {fp : List Addr} (r : Rep g Z H (.lst o xs) v fp) : ∃ a vs fs, v = .ref a ∧ SqL g.K H a vs ∧ Reps g Z H xs vs fs ∧ (∀ b ∈ fs, b ∈ fp) := by
  cases r with
  | lst h hs w => exact ⟨_, _, _, rfl, .of h, hs, w.sub⟩
  | lstR h hs => exact ⟨_, _, _, rfl, h.sqL, hs, fun _ h => nomatch h⟩
end

/-! ### lists that are tracked or known: +, *, in -/
section
variable {X : Cx}
def rCatR : R2 := fun x y H Q => ∃ l b xs zs, x = .ref l ∧ y = .ref b ∧ Rd H l (.lst xs) ∧ Rd H b (.lst zs) ∧ xs.length + zs.length ≤ sizeLine ∧ ∀ p, H p = none → Q (.ref p) (upd H p (.lst (xs ++ zs)))
theorem op_catR : OpR X (binaryOp .Add) rCatR := by
  intro pins s σ H x y v u Q I rx ry h
  obtain ⟨l, b, xs, zs, rfl, rfl, hH, hB, hz, q⟩ := h
  cases rx
  cases ry
  obtain ⟨z, its, n, r, e⟩ := hH.ok I.hok
  obtain ⟨z2, its2, n2, r2, e2⟩ := hB.ok I.hok
  have hl := r.length
  have hl2 := r2.length
  refine PySem.P.add_list e e2 ?_ (by rw [List.size_toArray, List.size_toArray]; omega)
  have ea : its.toArray ++ its2.toArray = (its ++ its2).toArray := by simp
  rw [ea]
  exact ⟨.ref _, _, I.lnew (t' := s.toks) (r.append r2) (by rw [List.length_append]; omega), rfl, q _ I.fresh⟩
def rRepR : R2 := fun x y H Q => ∃ l k xs, x = .ref l ∧ y = .int k ∧ Rd H l (.lst xs) ∧ -(2 ^ 63) ≤ k ∧ k < 2 ^ 63 ∧ xs.length * k.toNat ≤ sizeLine ∧
  ∀ p, H p = none → Q (.ref p) (upd H p (.lst (List.replicate k.toNat xs).flatten))
theorem op_repR : OpR X (binaryOp .Mult) rRepR := by
  intro pins s σ H x y v u Q I rx ry h
  obtain ⟨l, k, xs, rfl, rfl, hH, h1, h2, hz, q⟩ := h
  cases rx
  obtain ⟨t, rfl⟩ := ry
  obtain ⟨z, its, n, r, e⟩ := hH.ok I.hok
  have hl := r.length
  have hlen : its.toArray.size * k.toNat ≤ sizeLine := by rw [List.size_toArray, ← hl]; exact hz
  have hcap : ¬ its.toArray.size * k.toNat > (2 ^ 63 - 1) / 8 := by
    have : (sizeLine : Nat) ≤ (2 ^ 63 - 1) / 8 := by decide
    omega
  have hfit : ¬ (!Builtin.List.listFitsIndex k) = true := by
    rw [fitsIndex_both h1 h2]
    exact Bool.false_ne_true
  have hlong : ¬ Builtin.List.listTooLong (its.toArray.size * k.toNat) = true := by
    rw [notLongL hlen]
    exact Bool.false_ne_true
  have hnew : List.foldl (fun x1 x2 => x1 ++ x2) #[] (List.replicate (if its.toArray.isEmpty = true then 0 else k.toNat) its.toArray) = (List.replicate k.toNat its).flatten.toArray := by
    have f0 : ∀ m : Nat, List.foldl (fun x1 x2 => x1 ++ x2) #[] (List.replicate m its.toArray) = (List.replicate m its).flatten.toArray := fun m => by
      have := foldl_rep its m []
      rw [List.nil_append] at this
      exact this
    rw [f0]
    cases its with
    | nil => simp
    | cons a r' => rw [if_neg (by simp)]
  refine wpAny_binaryOp_repeat_ref (T := "list") (U := "int") (by decide) ⟨_, e, rfl⟩ (fun s' => typeIs_int s' k t) noFill_list_mul F.fills_int_mul F.slot_int_rmul repeat_list F.slot_int_index.lookup
    (call_meets F.slot_int_rmul (typeIs_int s k t) F.entry_int_rmul (F.args_int_rmul_2 _ _) (int___rmul___int_list k t l its.toArray n)
      ⟨e, rfl, ⟨_, e, rfl⟩, call_meets F.slot_list_mul ⟨_, e, rfl⟩ F.entry_list_mul (F.args_list_mul_2 _ _) (AutoListH.list___mul___list_int_3 l its.toArray n k t hfit hcap hlong) ⟨e, ?_⟩⟩)
  rw [hnew]
  exact ⟨.ref _, _, I.lnew (t' := s.toks) (r.rep k.toNat) (by rw [PyProof.Rows.lm_len_rep_flat, Nat.mul_comm]; exact hz), rfl, q _ I.fresh⟩

/-- x in a tuple of data -/
def rInT (K : PySem.W.Frag) (neg : Bool) : R2 := fun x y H Q => ∃ d ds, Dp K H x d ∧ Dp K H y (.tuple ds) ∧ SeqAt.shaped d = true ∧ SeqAt.shaped (.list ds) = true ∧ Q (.bl (if neg = true then !ds.any fun z => PyData.eqv z d else ds.any fun z => PyData.eqv z d)) H
theorem in_tup_raw (hu : X.A.units + 65 < cLine) {pins : List (Addr × Obj)} {s : Shared} {σ : L2.St} {H : Hp} {x y : V} {v u : Value} {d : PyData} {ds : List PyData} (I : Inv X pins σ H s) (rx : RelV x v) (ry : RelV y u) (hd : Dp X.K H x d) (he : Dp X.K H y (.tuple ds))
    (sd : SeqAt.shaped d = true) (se : SeqAt.shaped (.list ds) = true) : ∃ (a : Addr) (its : List Value), u = .ref a ∧ IsTup s.heap a its.toArray ∧ (∀ w ∈ its.toArray, SeqAt.EqAt X.A.in1 s w v (PyData.eqv (SeqAt.readOf s.heap w) d)) ∧ (its.toArray.any fun w => PyData.eqv (SeqAt.readOf s.heap w) d) = ds.any fun z => PyData.eqv z d := by
  cases he with
  | tup hs ha =>
    cases ry
    obtain ⟨its, rv, ht, hlen⟩ := I.tuple hs
    obtain ⟨bs, r1⟩ := Dp.reads I d x v hd rx
    obtain ⟨as, h4⟩ := Dp.readsAll I ds _ its ha rv
    have hxs : PyData.canLayAll0 ds = true := SeqAt.canLay_of_shaped se
    have hroom : X.A.units + 1 + min (PyData.depthAll ds) d.depth < cLine := room_in_shaped sd hu
    have hmap : its.map (SeqAt.readOf s.heap) = ds := SeqAt.readsAll_map ds its as hxs h4
    refine ⟨_, its, rfl, ht, SeqAt.items_eqAt (vs := its.toArray) (show ReadsAll s.heap its.toArray.toList ds as from h4) r1 hxs (SeqAt.canLay_of_shaped sd) hroom, ?_⟩
    rw [← hmap, List.any_map]
    simp [Function.comp_def]
theorem op_inT (hu : X.A.units + 65 < cLine) : OpR X (compareOp .In) (rInT X.K false) := by
  intro pins s σ H x y v u Q I rx ry h
  obtain ⟨d, ds, hd, he, sd, se, q⟩ := h
  obtain ⟨a, its, rfl, ht, hq, e⟩ := in_tup_raw hu I rx ry hd he sd se
  refine SeqAt.in_tupleAt _ ht hq ⟨.bl _, H, I, rfl, ?_⟩
  rw [e]
  exact q
theorem op_notInT (hu : X.A.units + 65 < cLine) : OpR X (compareOp .NotIn) (rInT X.K true) := by
  intro pins s σ H x y v u Q I rx ry h
  obtain ⟨d, ds, hd, he, sd, se, q⟩ := h
  obtain ⟨a, its, rfl, ht, hq, e⟩ := in_tup_raw hu I rx ry hd he sd se
  refine SeqAt.notIn_tupleAt _ ht hq ⟨.bl _, H, I, rfl, ?_⟩
  rw [e]
  exact q
end

/-! ### the operators' data -/
section
variable {X : Cx} {g : Gv} {W : L2.WX}
theorem cleanL_append {xs ys : List D} (a : cleanL xs = true) (b : cleanL ys = true) : cleanL (xs ++ ys) = true := by
  rw [cleanL_all] at a b ⊢
  rw [List.all_append, a, b]
  rfl
theorem reps_rep {Z : Addr → Prop} {H : Hp} {xs : List D} {vs : List V} (r : Reps g Z H xs vs []) : ∀ k : Nat, Reps g Z H (List.replicate k xs).flatten (List.replicate k vs).flatten []
  | 0 => .nil
  | k + 1 => by
    rw [List.replicate_succ, List.replicate_succ, List.flatten_cons, List.flatten_cons]
    exact r.append (reps_rep r k)
theorem own_new {Z : Addr → Prop} {p : Addr} : OwnP Z true p [] [p] := .inl ⟨rfl, rfl⟩
def rAddD (K : PySem.W.Frag) : R2 := fun x y H Q => (rI0 fun i j => .int (i + j)) x y H Q ∨ ((∃ i j, x = .str i ∧ y = .str j ∧ i.length + j.length ≤ sizeLine ∧ Q (.str (i ++ j)) H) ∨ (rCatR x y H Q ∨ rCatA K x y H Q))
theorem opr_add : OpR X (binaryOp .Add) (rAddD X.K) := op_add.or (op_add_str.or (op_catR.or op_catA))
theorem opd_add : OpD g W true (rAddD g.K) (binD .add) := by
  intro Z σ H x y v u fx fy Q hz rx ry o
  cases x with
  | int i =>
    cases y with
    | int j =>
      obtain ⟨rfl, _⟩ := rep_int rx
      obtain ⟨rfl, _⟩ := rep_int ry
      exact .inl ⟨i, j, rfl, rfl, o _ H Z [] (post_sc hz (.int _))⟩
    | _ => exact o.elim
  | str i =>
    cases y with
    | str j =>
      obtain ⟨rfl, _⟩ := rep_str rx
      obtain ⟨rfl, _⟩ := rep_str ry
      obtain ⟨hl, o⟩ := Out.guard o
      exact .inr (.inl ⟨i, j, rfl, rfl, hl, o _ H Z [] (post_sc hz (.str _))⟩)
    | _ => exact o.elim
  | lst o1 xs =>
    cases y with
    | lst o2 ys =>
      cases o1 with
      | false => exact o.elim
      | true =>
      cases o2 with
      | false => exact o.elim
      | true =>
      obtain ⟨hl, o⟩ := Out.guard o
      obtain ⟨a, vs, f1, rfl, h1, r1, _⟩ := rep_own rx
      obtain ⟨b, us, f2, rfl, h2, r2, _⟩ := rep_own ry
      obtain ⟨hc, hn⟩ := hl
      rw [Bool.and_eq_true] at hc
      have c1 := r1.to0 hc.1
      have c2 := r2.to0 hc.2
      refine .inr (.inr (.inl ⟨a, b, vs, us, rfl, rfl, .inl h1, .inl h2, by rw [← r1.length, ← r2.length]; exact hn, fun p hp => o _ _ Z [p] (post_new hz hp ?_ (.inr rfl))⟩))
      exact .lst upd_same ((c1.append c2).same (fun _ z => z) (same_upd hp)) own_new
    | _ => cases o1 <;> exact o.elim
  | tup xs =>
    cases y with
    | tup ys =>
      obtain ⟨hl, o⟩ := Out.guard o
      obtain ⟨a, vs, rfl, h1, r1⟩ := rep_tup rx
      obtain ⟨b, us, rfl, h2, r2⟩ := rep_tup ry
      obtain ⟨hc, hn⟩ := hl
      rw [Bool.and_eq_true] at hc
      have c1 := r1.to0 hc.1
      have c2 := r2.to0 hc.2
      have c3 := c1.append c2
      refine .inr (.inr (.inr ⟨a, b, vs, us, rfl, rfl, h1, h2, by rw [← r1.length, ← r2.length]; exact hn, fun e => ?_, fun _ e => ?_, fun _ _ p hp => ?_⟩))
      · subst e
        refine o _ H Z [] (post_sc hz (.tup h2 ?_))
        cases c1
        exact c2
      · subst e
        refine o _ H Z [] (post_sc hz (.tup h1 ?_))
        cases c2
        rw [List.append_nil]
        exact c1
      · exact o _ _ Z [] (post_new hz hp (.tup (.of upd_same) (c3.same (fun _ z => z) (same_upd hp))) (.inl rfl))
    | _ => exact o.elim
  | _ => exact o.elim
theorem opd_sub : OpD g W true (rI0 fun i j => .int (i - j)) (binD .sub) := by
  intro Z σ H x y v u fx fy Q hz rx ry o
  cases x with
  | int i =>
    cases y with
    | int j =>
      obtain ⟨rfl, _⟩ := rep_int rx
      obtain ⟨rfl, _⟩ := rep_int ry
      exact ⟨i, j, rfl, rfl, o _ H Z [] (post_sc hz (.int _))⟩
    | _ => exact o.elim
  | _ => exact o.elim
def rMulD : R2 := fun x y H Q => rI CMul (fun i j => .int (i * j)) x y H Q ∨ rRepR x y H Q
theorem opr_mul : OpR X (binaryOp .Mult) rMulD := op_mul.or op_repR
theorem cmul_of {i j : Int} (h : (small64 i || small64 j) = true) : CMul i j := by
  unfold small64 at h
  simp only [Bool.or_eq_true, Bool.and_eq_true, decide_eq_true_eq, lim64_eq] at h
  exact h
theorem opd_mul : OpD g W true rMulD (binD .mul) := by
  intro Z σ H x y v u fx fy Q hz rx ry o
  cases x with
  | int i =>
    cases y with
    | int j =>
      obtain ⟨rfl, _⟩ := rep_int rx
      obtain ⟨rfl, _⟩ := rep_int ry
      obtain ⟨hl, o⟩ := Out.guard o
      exact .inl ⟨i, j, rfl, rfl, cmul_of hl, o _ H Z [] (post_sc hz (.int _))⟩
    | _ => exact o.elim
  | lst o1 xs =>
    cases y with
    | int k =>
      cases o1 with
      | false => exact o.elim
      | true =>
      obtain ⟨hl, o⟩ := Out.guard o
      obtain ⟨hc, h12, h3⟩ := hl
      unfold small62 at h12
      simp only [Bool.and_eq_true, decide_eq_true_eq, lim62_eq] at h12
      obtain ⟨h1, h2⟩ := h12
      obtain ⟨a, vs, f1, rfl, hr, r1, _⟩ := rep_own rx
      obtain ⟨rfl, _⟩ := rep_int ry
      refine .inr ⟨a, k, vs, rfl, rfl, .inl hr, by omega, by omega, by rw [← r1.length]; exact h3, fun p hp => o _ _ Z [p] (post_new hz hp ?_ (.inr rfl))⟩
      exact .lst upd_same ((reps_rep (r1.to0 hc) k.toNat).same (fun _ z => z) (same_upd hp)) own_new
    | _ => cases o1 <;> exact o.elim
  | _ => exact o.elim
theorem opd_fdiv : OpD g W true (rI CDivW fun i j => .int (i / j)) (binD .fdiv) := by
  intro Z σ H x y v u fx fy Q hz rx ry o
  cases x with
  | int i =>
    cases y with
    | int j =>
      obtain ⟨rfl, _⟩ := rep_int rx
      obtain ⟨rfl, _⟩ := rep_int ry
      obtain ⟨hl, o⟩ := Out.guard o
      exact ⟨i, j, rfl, rfl, hl, o _ H Z [] (post_sc hz (.int _))⟩
    | _ => exact o.elim
  | _ => exact o.elim
theorem opd_mod : OpD g W true (rI (fun _ j => 0 < j) fun i j => .int (i % j)) (binD .mod) := by
  intro Z σ H x y v u fx fy Q hz rx ry o
  cases x with
  | int i =>
    cases y with
    | int j =>
      obtain ⟨rfl, _⟩ := rep_int rx
      obtain ⟨rfl, _⟩ := rep_int ry
      obtain ⟨hl, o⟩ := Out.guard o
      exact ⟨i, j, rfl, rfl, hl, o _ H Z [] (post_sc hz (.int _))⟩
    | _ => exact o.elim
  | _ => exact o.elim
theorem opd_pow : OpD g W true (rI CPow fun i j => .int (i ^ j.toNat)) (binD .pow) := by
  intro Z σ H x y v u fx fy Q hz rx ry o
  cases x with
  | int i =>
    cases y with
    | int j =>
      obtain ⟨rfl, _⟩ := rep_int rx
      obtain ⟨rfl, _⟩ := rep_int ry
      obtain ⟨hl, o⟩ := Out.guard o
      exact ⟨i, j, rfl, rfl, hl, o _ H Z [] (post_sc hz (.int _))⟩
    | _ => exact o.elim
  | _ => exact o.elim
end
end DI
/-! DI, dicts -/
namespace DI
open PySem PySem.Spec PyProof.Rows L2

/-! ### lists of pairs -/
section
variable {α : Type}
theorem find_map_some {kvs : List (NestedKey × D)} {k : NestedKey} : (dget kvs k).isSome = kvs.any fun p => decide (p.1 = k) := by
  unfold dget
  rw [Option.isSome_map, Bool.eq_iff_iff, List.any_eq_true, List.find?_isSome]
end
section
variable {g : Gv} {Z : Addr → Prop} {H : Hp}

/-- nested keys' entries: what a table of triples holds -/
def atN (xs : List (NestedKey × Addr × V)) (k : NestedKey) : Option V := (xs.find? fun p => decide (p.1 = k)).map (·.2.2)
def putN (xs : List (NestedKey × Addr × V)) (k : NestedKey) (b : Addr) (v : V) : List (NestedKey × Addr × V) :=
  if (xs.any fun p => decide (p.1 = k)) = true then xs.map (fun p => if p.1 = k then (p.1, p.2.1, v) else p) else xs ++ [(k, b, v)]
abbrev PN : List (NestedKey × Addr × V) → List (NestedKey × Addr × Value) → Prop := Paired fun p q => p.1 = q.1 ∧ p.2.1 = q.2.1 ∧ RelV p.2.2 q.2.2
theorem PN.val {xs : List (NestedKey × Addr × V)} {ys : List (NestedKey × Addr × Value)} (r : PN xs ys) (k : NestedKey) : RelO (atN xs k) ((atKey ys k).map (·.2)) := by
  induction r with
  | nil => exact True.intro
  | @cons p q ps qs h t ih =>
    obtain ⟨h1, _, h2⟩ := h
    by_cases e : p.1 = k
    · have e' : q.1 = k := h1.symm.trans e
      have b : atKey (q :: qs) k = some q.2 := by simp [atKey, List.find?_cons, e']
      have c : atN (p :: ps) k = some p.2.2 := by simp [atN, List.find?_cons, e]
      rw [b, c]; exact h2
    · have e' : ¬ q.1 = k := fun z => e (h1.trans z)
      have b : atKey (q :: qs) k = atKey qs k := by simp [atKey, List.find?_cons, e']
      have c : atN (p :: ps) k = atN ps k := by simp [atN, List.find?_cons, e]
      rw [b, c]; exact ih
theorem PN.any {xs : List (NestedKey × Addr × V)} {ys : List (NestedKey × Addr × Value)} (r : PN xs ys) (k : NestedKey) : (xs.any fun p => decide (p.1 = k)) = (atKey ys k).isSome := by
  have h := (r.val k).isSome_eq
  rw [Option.isSome_map] at h
  rw [← h]
  unfold atN
  rw [Option.isSome_map, Bool.eq_iff_iff, List.any_eq_true, List.find?_isSome]
theorem PN.keys {xs : List (NestedKey × Addr × V)} {ys : List (NestedKey × Addr × Value)} (r : PN xs ys) : ys.map (·.1) = xs.map (·.1) := by
  induction r with
  | nil => rfl
  | cons hq t ih => rw [List.map_cons, List.map_cons, ih, hq.1]
theorem PN.length {xs : List (NestedKey × Addr × V)} {ys : List (NestedKey × Addr × Value)} (r : PN xs ys) : xs.length = ys.length := Paired.length r
theorem PN.repl {xs : List (NestedKey × Addr × V)} {ys : List (NestedKey × Addr × Value)} (r : PN xs ys) (k : NestedKey) {y : V} {u : Value} (ry : RelV y u) :
    PN (xs.map fun p => if p.1 = k then (p.1, p.2.1, y) else p) (ys.map (putAt k u)) := by
  induction r with
  | nil => exact .nil
  | @cons p q ps qs h t ih =>
    rw [List.map_cons, List.map_cons]
    refine .cons ?_ ih
    obtain ⟨h1, h2, h3⟩ := h
    unfold putAt
    by_cases e : p.1 = k
    · rw [if_pos e, if_pos (h1.symm.trans e)]; exact ⟨h1, h2, ry⟩
    · rw [if_neg e, if_neg (fun z => e (h1.trans z))]; exact ⟨h1, h2, h3⟩
theorem PN.put {xs : List (NestedKey × Addr × V)} {ys : List (NestedKey × Addr × Value)} (r : PN xs ys) (k : NestedKey) {b : Addr} {y : V} {u : Value} (ry : RelV y u) : PN (putN xs k b y) (storedH ys k b u) := by
  unfold putN storedH
  rw [r.any k]
  by_cases q : (atKey ys k).isSome = true
  · rw [if_pos q, if_pos q]; exact r.repl k ry
  · rw [if_neg q, if_neg q]; exact Paired.snoc r ⟨rfl, rfl, ry⟩

/-- the table's data -/
theorem reps_find {kvs : List (NestedKey × D)} {ws : List V} (r : Reps g Z H (kvs.map (·.2)) ws []) : ∀ {ks : List NestedKey}, ks = kvs.map (·.1) → ∀ (k : NestedKey),
    (match dget kvs k with | some d => ∃ v, ((ks.zip ws).find? fun p => decide (p.1 = k)).map (·.2) = some v ∧ Rep g Z H d v [] | none => ((ks.zip ws).find? fun p => decide (p.1 = k)) = none) := by
  induction kvs generalizing ws with
  | nil =>
    intro ks e k
    subst e
    simp [dget]
  | cons p r' ih =>
    intro ks e k
    subst e
    rw [List.map_cons] at r
    generalize hf : ([] : List Addr) = fp at r
    cases r with
    | cons h hs =>
      obtain ⟨e1, e2⟩ := List.append_eq_nil_iff.mp hf.symm
      subst e1 e2
      by_cases e : p.1 = k
      · have c : dget (p :: r') k = some p.2 := by simp [dget, List.find?_cons, e]
        rw [c]
        refine ⟨_, ?_, h⟩
        simp [List.find?_cons, e]
      · have c : dget (p :: r') k = dget r' k := by simp [dget, List.find?_cons, e]
        rw [c]
        have := ih hs rfl k
        simpa [List.find?_cons, e] using this
theorem zip_find_K {kv : List (Key × V)} : ∀ (q : Key), (((kv.map fun p => nk p.1).zip (kv.map (·.2))).find? fun p => decide (p.1 = nk q)).map (·.2) = valV kv q := by
  induction kv with
  | nil => intro q; rfl
  | cons p r ih =>
    intro q
    rw [List.map_cons, List.map_cons, List.zip_cons_cons]
    by_cases e : p.1 = q
    · rw [valV_pos e]; simp [List.find?_cons, e]
    · have e' : ¬ nk p.1 = nk q := fun z => e (by
        cases h1 : p.1 <;> cases h2 : q <;> rw [h1, h2] at z <;> simp [nk] at z <;> rw [z])
      rw [valV_neg e, List.find?_cons]
      simp only [decide_eq_false e']
      exact ih q
theorem zip_find_N {xs : List (NestedKey × Addr × V)} : ∀ (k : NestedKey), (((xs.map (·.1)).zip (xs.map (·.2.2))).find? fun p => decide (p.1 = k)).map (·.2) = atN xs k := by
  induction xs with
  | nil => intro q; rfl
  | cons p r ih =>
    intro k
    rw [List.map_cons, List.map_cons, List.zip_cons_cons]
    by_cases e : p.1 = k
    · simp [atN, List.find?_cons, e]
    · have := ih k
      simp only [atN] at this ⊢
      simpa [List.find?_cons, e] using this
theorem dget_K {kv : List (Key × V)} {kvs : List (NestedKey × D)} (e : (kv.map fun p => nk p.1) = kvs.map (·.1)) (r : Reps g Z H (kvs.map (·.2)) (kv.map (·.2)) []) (q : Key) :
    match dget kvs (nk q) with | some d => ∃ v, valV kv q = some v ∧ Rep g Z H d v [] | none => valV kv q = none := by
  have h := reps_find r e (nk q)
  cases hd : dget kvs (nk q) with
  | some d =>
    rw [hd] at h
    obtain ⟨v, h1, h2⟩ := h
    exact ⟨v, by rw [← zip_find_K]; exact h1, h2⟩
  | none =>
    rw [hd] at h
    show valV kv q = none
    rw [← zip_find_K, show (((kv.map fun p => nk p.1).zip (kv.map (·.2))).find? fun p => decide (p.1 = nk q)) = none from h]
    rfl
theorem dget_N {xs : List (NestedKey × Addr × V)} {kvs : List (NestedKey × D)} (e : xs.map (·.1) = kvs.map (·.1)) (r : Reps g Z H (kvs.map (·.2)) (xs.map (·.2.2)) []) (k : NestedKey) :
    match dget kvs k with | some d => ∃ v, atN xs k = some v ∧ Rep g Z H d v [] | none => atN xs k = none := by
  have h := reps_find r e k
  cases hd : dget kvs k with
  | some d =>
    rw [hd] at h
    obtain ⟨v, h1, h2⟩ := h
    exact ⟨v, by rw [← zip_find_N]; exact h1, h2⟩
  | none =>
    rw [hd] at h
    show atN xs k = none
    rw [← zip_find_N, show (((xs.map (·.1)).zip (xs.map (·.2.2))).find? fun p => decide (p.1 = k)) = none from h]
    rfl
end

/-! ### keys -/
section
variable {g : Gv} {Z : Addr → Prop} {H : Hp}
mutual
theorem Rep.krep : ∀ {d : D} {v : V} {fp : List Addr} {k : NestedKey}, Rep g Z H d v fp → key d = some k → KRep g.K H k v
  | _, _, _, _, .non, e => by cases e; exact .none
  | _, _, _, _, .bl b, e => by cases e
  | _, _, _, _, .int i, e => by cases e; exact .num i
  | _, _, _, _, .str x, e => by cases e; exact .text x
  | _, _, _, _, .tup h hs, e => by
    obtain ⟨ds, e1, rfl⟩ := Option.map_eq_some_iff.mp (show (keyL _).map NestedKey.tup = some _ from e)
    exact .tup h (Reps.krep hs e1)
  | _, _, _, _, .lst h hs w, e => by simp [key] at e
  | _, _, _, _, .lstR h hs, e => by simp [key] at e
  | _, _, _, _, .dK h e hs w, q => by simp [key] at q
  | _, _, _, _, .dN h e ne hk hs w, q => by simp [key] at q
  | _, _, _, _, .exc0 _, q => by simp [key] at q
  | _, _, _, _, .excD _ _ _ _ _, q => by simp [key] at q
  | _, _, _, _, .ins _ _ _ _ _, q => by simp [key] at q
theorem Reps.krep : ∀ {d : List D} {v : List V} {fp : List Addr} {k : List NestedKey}, Reps g Z H d v fp → keyL d = some k → KReps g.K H k v
  | _, _, _, _, .nil, e => by cases e; exact .nil
  | _, _, _, _, .cons (x := x) (xs := xs) h hs, e => by
    have e : ((key x).bind fun d => (keyL xs).map fun ds => d :: ds) = some _ := e
    obtain ⟨d, e1, e2⟩ := Option.bind_eq_some_iff.mp e
    obtain ⟨ds, e3, rfl⟩ := Option.map_eq_some_iff.mp e2
    exact .cons (Rep.krep h e1) (Reps.krep hs e3)
end
mutual
theorem KRep.is {X : Cx} {pins : List (Addr × Obj)} {σ : L2.St} {s : Shared} (I : Inv X pins σ H s) : ∀ {k : NestedKey} {v : V} {u : Value}, KRep X.K H k v → RelV v u → NestedIs s.heap k u
  | _, _, _, .none, r => by cases r; exact .none
  | _, _, _, .num i, r => by obtain ⟨t, rfl⟩ := r; exact .int i t
  | _, _, _, .text x, r => by obtain ⟨t, rfl⟩ := r; exact .text x t
  | _, _, _, .tup h hs, r => by
    cases r
    obtain ⟨its, rv, ⟨o, ho, hc, n, hd⟩, _⟩ := I.tuple h
    exact .tup ho hc hd (KReps.is I hs rv)
theorem KReps.is {X : Cx} {pins : List (Addr × Obj)} {σ : L2.St} {s : Shared} (I : Inv X pins σ H s) : ∀ {k : List NestedKey} {v : List V} {u : List Value}, KReps X.K H k v → Vals v u → NestedAll s.heap k u
  | _, _, _, .nil, r => by cases r; exact .nil
  | _, _, _, .cons h hs, r => by
    cases r with
    | cons r1 r2 => exact .cons (KRep.is I h r1) (KReps.is I hs r2)
end
/-- what a key's check says -/
theorem keyIn_ok {x : D} {kvs : List (NestedKey × D)} {k : NestedKey} (h : keyIn x kvs = .ok k) : key x = some k ∧
    ((isLeafKey k = true ∧ leafD x = true ∧ ∀ p ∈ kvs, isLeafKey p.1 = true) ∨ (isTupKey k = true ∧ k.depth ≤ 8 ∧ ∀ p ∈ kvs, isTupKey p.1 = true)) := by
  unfold keyIn at h
  cases e : key x with
  | none => rw [e] at h; cases h
  | some k' =>
    rw [e] at h
    simp only at h
    split at h
    · rename_i hc
      cases h
      refine ⟨rfl, ?_⟩
      unfold keysWith at hc
      simp only [Bool.and_eq_true, Bool.or_eq_true, List.all_eq_true, decide_eq_true_eq] at hc
      obtain ⟨h1, h2⟩ := hc
      rcases h1 with ⟨a, b⟩ | ⟨⟨a, b⟩, c⟩
      · rcases h2 with h2 | h2
        · cases k <;> simp [isLeafKey, isTupKey] at a h2
        · exact .inl ⟨a, h2, b⟩
      · exact .inr ⟨a, b, c⟩
    · cases h
theorem keyIn_err {x : D} {kvs : List (NestedKey × D)} : ∀ c fs, keyIn x kvs ≠ .err c fs := fun c fs h => by
  unfold keyIn at h
  split at h
  · split at h <;> cases h
  · cases h
theorem leaf_rep {x : D} {v : V} {fp : List Addr} {k : NestedKey} (r : Rep g Z H x v fp) (hk : key x = some k) (hl : leafD x = true) : ∃ q, k = nk q ∧ v = kV q := by
  cases r with
  | int i => cases hk; exact ⟨.inl i, rfl, rfl⟩
  | str i => cases hk; exact ⟨.inr i, rfl, rfl⟩
  | _ => simp [leafD] at hl
theorem tup_rep {x : D} {v : V} {fp : List Addr} {k : NestedKey} (r : Rep g Z H x v fp) (hk : key x = some k) (hl : isTupKey k = true) : ∃ b, v = .ref b := by
  cases r with
  | tup h hs => exact ⟨_, rfl⟩
  | non => cases hk; simp [isTupKey] at hl
  | bl b => cases hk
  | int b => cases hk; simp [isTupKey] at hl
  | str b => cases hk; simp [isTupKey] at hl
  | _ => simp [key] at hk
end

/-! ### a dict with nested keys, in the real heap -/
/-- the dict at a, by its triples -/
structure NV (g : Gv) (Z : Addr → Prop) (H : Hp) (h : Heap) (a : Addr) (kvs : List (NestedKey × D)) (xs : List (NestedKey × Addr × V)) (ys : List (NestedKey × Addr × Value)) : Prop where
  keys : xs.map (·.1) = kvs.map (·.1)
  krep : ∀ p ∈ xs, KRep g.K H p.1 (.ref p.2.1) ∧ p.1.depth ≤ 8
  vals : Reps g Z H (kvs.map (·.2)) (xs.map (·.2.2)) []
  pair : PN xs ys
  dict : h.DictOfH (nestedKind g.P g.w) a ys
  len : xs.length ≤ sizeLine
  nosys : (a == sysModules) = false
section
variable {X : Cx} {g : Gv} {Z : Addr → Prop} {H : Hp} {pins : List (Addr × Obj)} {σ : L2.St} {s : Shared}
theorem nv_of (G : Gof g X) (I : Inv X pins σ H s) {o : Bool} {kvs : List (NestedKey × D)} {v : V} {fp : List Addr} (r : Rep g Z H (.dct o kvs) v fp) (ht : ∀ p ∈ kvs, isTupKey p.1 = true) :
    ∃ a xs ys, v = .ref a ∧ NV g Z H s.heap a kvs xs ys ∧ Mut (H a) := by
  cases r with
  | @dK a kv _ _ _ h e hs w =>
    have ek : kvs = [] := by
      cases kvs with
      | nil => rfl
      | cons p r =>
        cases kv with
        | nil => simp at e
        | cons q r' =>
          rw [List.map_cons, List.map_cons] at e
          have e1 : nk q.1 = p.1 := (List.cons.inj e).1
          have := ht p List.mem_cons_self
          rw [← e1] at this
          cases hq : q.1 <;> rw [hq] at this <;> simp [nk, isTupKey] at this
    subst ek
    have ev : kv = [] := by simpa using e
    subst ev
    obtain ⟨z, hd, vs, rel, ob, es, ep, h1, h2, h3, h4⟩ := dk_of I.hok h
    cases rel
    have hes : es.toList = [] := by
      obtain ⟨_, hp, _⟩ := h4
      generalize es.toList = l at hp ⊢
      cases hp
      rfl
    exact ⟨a, [], [], rfl, ⟨rfl, (fun p hp => nomatch hp), .nil, .nil, ⟨ob, es, ep, h1, h2, h3, hes, (fun x hx => nomatch hx), List.nodup_nil⟩, Nat.zero_le _, hd⟩, by rw [h]; exact True.intro⟩
  | @dN a xs _ _ _ h e ne hk hs w =>
    obtain ⟨⟨hl, hd, hn, ys, hp, ob, es, ep, h1, h2, h3, h4⟩, _⟩ := I.hok a _ h
    rw [G.P.symm, G.w.symm] at h4
    refine ⟨a, xs, ys, rfl, ⟨e, hk, hs, hp, ⟨ob, es, ep, h1, h2, h3, by rw [← G.P, ← G.w]; exact h4, fun x hx => ?_, ?_⟩, hl, hd⟩, by rw [h]; exact True.intro⟩
    · have all : ∀ {l : List (NestedKey × Addr × V)} {m : List (NestedKey × Addr × Value)}, PN l m → (∀ p ∈ l, KRep g.K H p.1 (.ref p.2.1) ∧ p.1.depth ≤ 8) → ∀ x ∈ m, (nestedKind g.P g.w).is s.heap x.1 x.2.1 := by
        intro l m q
        induction q with
        | nil => intro _ x hx; exact nomatch hx
        | @cons p q ps qs hq t ih =>
          intro hk x hx
          rcases List.mem_cons.mp hx with e | hx
          · subst e
            obtain ⟨k1, k2⟩ := hk p List.mem_cons_self
            refine ⟨?_, by rw [← hq.1]; exact k2⟩
            rw [← hq.1, ← hq.2.1]
            exact KRep.is (v := .ref p.2.1) (u := .ref p.2.1) I (by rw [G.K]; exact k1) rfl
          · exact ih (fun p hp => hk p (List.mem_cons_of_mem _ hp)) x hx
      exact all hp hk x hx
    · have em : ys.map (·.1) = xs.map (·.1) := PN.keys hp
      rw [em]
      exact hn
/-- what is found there -/
theorem NV.look {h : Heap} {a : Addr} {kvs : List (NestedKey × D)} {xs : List (NestedKey × Addr × V)} {ys : List (NestedKey × Addr × Value)} (n : NV g Z H h a kvs xs ys) (k : NestedKey) :
    match dget kvs k with | some d => ∃ v p, atKey ys k = some p ∧ RelV v p.2 ∧ Rep g Z H d v [] | none => atKey ys k = none := by
  have h1 := dget_N n.keys n.vals k
  have h2 := n.pair.val k
  cases hd : dget kvs k with
  | some d =>
    rw [hd] at h1
    obtain ⟨v, e, r⟩ := h1
    rw [e] at h2
    cases hk : atKey ys k with
    | none => rw [hk] at h2; exact h2.elim
    | some p => rw [hk] at h2; exact ⟨v, p, rfl, h2, r⟩
  | none =>
    rw [hd] at h1
    have h1 : atN xs k = none := h1
    rw [h1] at h2
    cases hk : atKey ys k with
    | none => rfl
    | some p => rw [hk] at h2; exact h2.elim
theorem NV.isSome {h : Heap} {a : Addr} {kvs : List (NestedKey × D)} {xs : List (NestedKey × Addr × V)} {ys : List (NestedKey × Addr × Value)} (n : NV g Z H h a kvs xs ys) (k : NestedKey) : (atKey ys k).isSome = (dget kvs k).isSome := by
  have h1 := n.look k
  cases hd : dget kvs k with
  | some d =>
    rw [hd] at h1
    obtain ⟨v, p, e, _⟩ := h1
    rw [e]; rfl
  | none =>
    rw [hd] at h1
    rw [show atKey ys k = none from h1]; rfl
end

/-! ### in, not in, d[k] by the data -/
section
variable {X : Cx} {g : Gv} {Z : Addr → Prop} {H : Hp} {pins : List (Addr × Obj)} {σ : L2.St} {s : Shared} {A : Around} {E : Value → Shared → Prop}
/-- the key, the dict, at their values -/
structure DV (g : Gv) (Z : Addr → Prop) (H : Hp) (x : D) (kvs : List (NestedKey × D)) (k : NestedKey) (y d : V) : Prop where
  key : ∃ fp, Rep g Z H x y fp
  dict : ∃ o fp, Rep g Z H (.dct o kvs) d fp
  ok : keyIn x kvs = .ok k
theorem dv_leaf {x : D} {kvs : List (NestedKey × D)} {k : NestedKey} {y d : V} (I : Inv X pins σ H s) (v : DV g Z H x kvs k y d) (hl : isLeafKey k = true) (hx : leafD x = true) (ha : ∀ p ∈ kvs, isLeafKey p.1 = true) :
    ∃ a kv q o fp, d = .ref a ∧ H a = some (.dK kv) ∧ k = nk q ∧ y = kV q ∧ (kv.map fun p => nk p.1) = kvs.map (·.1) ∧ Reps g Z H (kvs.map (·.2)) (kv.map (·.2)) [] ∧ OwnP Z o a [] fp := by
  obtain ⟨⟨fp, ry⟩, ⟨o, fq, rd⟩, ok⟩ := v
  obtain ⟨hk, _⟩ := keyIn_ok ok
  obtain ⟨q, e1, e2⟩ := leaf_rep ry hk hx
  cases rd with
  | dK h e hs w => exact ⟨_, _, q, _, _, rfl, h, e1, e2, e, hs, w⟩
  | @dN a xs _ _ _ h e ne hk' hs w =>
    exfalso
    cases xs with
    | nil => exact ne rfl
    | cons p r =>
      have e3 : p.1 ∈ kvs.map (·.1) := by rw [← e]; exact List.mem_map.mpr ⟨p, List.mem_cons_self, rfl⟩
      obtain ⟨q', hq, e4⟩ := List.mem_map.mp e3
      have l1 := ha q' hq
      rw [e4] at l1
      have l2 := (hk' p List.mem_cons_self).1
      generalize hv : V.ref p.2.1 = vv at l2
      generalize hp1 : p.1 = kk at l1 l2
      cases l2 <;> simp [isLeafKey] at l1 <;> cases hv
theorem dct_in (hu : A.units + 70 < cLine) (G : Gof g X) (I : Inv X pins σ H s) {x : D} {kvs : List (NestedKey × D)} {k : NestedKey} {y d : V} {u r : Value} {Q : Value → Shared → Prop} (v : DV g Z H x kvs k y d) (ry : RelV y u) (rd : RelV d r)
    (h : ∀ s', Inv X pins σ H s' → Q (.bool (dget kvs k).isSome) s') : wpAny (model X.prog X.w) A (compareOp .In u r) Q E s := by
  rcases (keyIn_ok v.ok).2 with ⟨hl, hx, ha⟩ | ⟨ht, hd8, ha⟩
  · obtain ⟨a, kv, q, o, fp, rfl, ha', e1, rfl, ek, rv, _⟩ := dv_leaf I v hl hx ha
    cases rd
    refine d_in (by omega) I (DGet.k (k := q) ha') ry fun s' I' => ?_
    have hq := dget_K ek rv q
    rw [e1] at h
    have e2 : (valV kv q).isSome = (dget kvs (nk q)).isSome := by
      cases hdg : dget kvs (nk q) with
      | some d => rw [hdg] at hq; obtain ⟨v', e3, _⟩ := hq; rw [e3]; rfl
      | none => rw [hdg] at hq; rw [show valV kv q = none from hq]; rfl
    rw [e2]
    exact h s' I'
  · obtain ⟨fq, rk⟩ := v.key
    obtain ⟨o, fp, rdd⟩ := v.dict
    have hk := (keyIn_ok v.ok).1
    obtain ⟨b, rfl⟩ := tup_rep rk hk ht
    obtain ⟨a, xs, ys, rfl, nv, _⟩ := nv_of G I rdd ha
    cases rd
    cases ry
    rw [← nv.isSome k] at h
    have hkey : (nestedKind X.prog X.w).is s.heap k b := ⟨KRep.is (v := .ref b) (u := .ref b) I (by rw [G.K]; exact rk.krep hk) rfl, hd8⟩
    refine wpAny_in_heap (knd := nestedKind X.prog X.w) (show A.units + 1 + 8 < cLine by omega) hkey nv.nosys (by rw [G.P, G.w]; exact nv.dict) (h _ (I.tok _))
theorem dct_notIn (hu : A.units + 70 < cLine) (G : Gof g X) (I : Inv X pins σ H s) {x : D} {kvs : List (NestedKey × D)} {k : NestedKey} {y d : V} {u r : Value} {Q : Value → Shared → Prop} (v : DV g Z H x kvs k y d) (ry : RelV y u) (rd : RelV d r)
    (h : ∀ s', Inv X pins σ H s' → Q (.bool (!(dget kvs k).isSome)) s') : wpAny (model X.prog X.w) A (compareOp .NotIn u r) Q E s := by
  rcases (keyIn_ok v.ok).2 with ⟨hl, hx, ha⟩ | ⟨ht, hd8, ha⟩
  · obtain ⟨a, kv, q, o, fp, rfl, ha', e1, rfl, ek, rv, _⟩ := dv_leaf I v hl hx ha
    cases rd
    refine d_notIn (by omega) I (DGet.k (k := q) ha') ry fun s' I' => ?_
    have hq := dget_K ek rv q
    rw [e1] at h
    have e2 : (valV kv q).isSome = (dget kvs (nk q)).isSome := by
      cases hdg : dget kvs (nk q) with
      | some d => rw [hdg] at hq; obtain ⟨v', e3, _⟩ := hq; rw [e3]; rfl
      | none => rw [hdg] at hq; rw [show valV kv q = none from hq]; rfl
    rw [e2]
    exact h s' I'
  · obtain ⟨fq, rk⟩ := v.key
    obtain ⟨o, fp, rdd⟩ := v.dict
    have hk := (keyIn_ok v.ok).1
    obtain ⟨b, rfl⟩ := tup_rep rk hk ht
    obtain ⟨a, xs, ys, rfl, nv, _⟩ := nv_of G I rdd ha
    cases rd
    cases ry
    rw [← nv.isSome k] at h
    have hkey : (nestedKind X.prog X.w).is s.heap k b := ⟨KRep.is (v := .ref b) (u := .ref b) I (by rw [G.K]; exact rk.krep hk) rfl, hd8⟩
    refine wpAny_notIn_heap (knd := nestedKind X.prog X.w) (show A.units + 1 + 8 < cLine by omega) hkey nv.nosys (by rw [G.P, G.w]; exact nv.dict) (h _ (I.tok _))
theorem dct_get (hu : A.units + 70 < cLine) (G : Gof g X) (I : Inv X pins σ H s) {x z : D} {kvs : List (NestedKey × D)} {k : NestedKey} {y d : V} {u r : Value} {Q : Value → Shared → Prop} (v : DV g Z H x kvs k y d) (ry : RelV y u) (rd : RelV d r)
    (hz : dget kvs k = some z) (h : ∀ s' v' u', Inv X pins σ H s' → Rep g Z H z v' [] → RelV v' u' → Q u' s') : wpAny (model X.prog X.w) A (getItem r u) Q E s := by
  rcases (keyIn_ok v.ok).2 with ⟨hl, hx, ha⟩ | ⟨ht, hd8, ha⟩
  · obtain ⟨a, kv, q, o, fp, rfl, ha', e1, rfl, ek, rv, _⟩ := dv_leaf I v hl hx ha
    cases rd
    have hq := dget_K ek rv q
    rw [← e1, hz] at hq
    obtain ⟨v', e3, r3⟩ := hq
    refine d_getItem (by omega) I (y := kV q) (v := v') (by rw [← e3]; exact DGet.k (k := q) ha') ry fun u' s' I' r' => ?_
    exact h s' v' u' I' r3 r'
  · obtain ⟨fq, rk⟩ := v.key
    obtain ⟨o, fp, rdd⟩ := v.dict
    have hk := (keyIn_ok v.ok).1
    obtain ⟨b, rfl⟩ := tup_rep rk hk ht
    obtain ⟨a, xs, ys, rfl, nv, _⟩ := nv_of G I rdd ha
    cases rd
    cases ry
    have hl := nv.look k
    rw [hz] at hl
    obtain ⟨v', p, e3, r3, r4⟩ := hl
    have hkey : (nestedKind X.prog X.w).is s.heap k b := ⟨KRep.is (v := .ref b) (u := .ref b) I (by rw [G.K]; exact rk.krep hk) rfl, hd8⟩
    refine wpAny_getItem_heap (knd := nestedKind X.prog X.w) (show A.units + 1 + 8 < cLine by omega) hkey (by rw [G.P, G.w]; exact nv.dict) e3 (h _ v' p.2 (I.tok _) r4 r3)
end
end DI
/-! DI, comparisons, items, slices -/
namespace DI
open PySem PySem.Spec PyProof.Rows L2

section
variable {X : Cx} {g : Gv} {W : L2.WX}
def blR (r : R Bool) : R D := r.bind fun b => .ok (.bl b)
theorem Out.bl {Z : Addr → Prop} {σ : L2.St} {H : Hp} {r : R Bool} {Q : VK} {bo : Bool} (hz : ∀ a, Z a → H a ≠ none) (hn : ∀ c fs, r ≠ .err c fs) (o : Out g W Z σ H (blR r) (fun d => ∀ v H' Z' fp, PostE g bo Z Z' H H' d v fp → Q v H')) : ∃ b, r = .ok b ∧ Q (.bl b) H := by
  cases r with
  | ok b => exact ⟨b, rfl, o _ H Z [] (post_sc hz (.bl b))⟩
  | err c fs => exact absurd rfl (hn c fs)
  | bad => exact o.elim
theorem eqD_err {x y : D} : ∀ c fs, eqD x y ≠ .err c fs := fun c fs h => by
  unfold eqD at h
  split at h
  · split at h <;> cases h
  · cases h
theorem eqD_ok {x y : D} {b : Bool} (h : eqD x y = .ok b) : ∃ d e, py x = some d ∧ py y = some e ∧ SeqAt.shaped d = true ∧ SeqAt.shaped e = true ∧ PyData.eqv d e = b := by
  unfold eqD at h
  split at h
  · rename_i d e h1 h2
    split at h
    · rename_i hc
      rw [Bool.and_eq_true] at hc
      cases h
      exact ⟨d, e, h1, h2, hc.1, hc.2, rfl⟩
    · cases h
  · cases h
theorem memS_err {x : D} {ys : List D} : ∀ c fs, memS x ys ≠ .err c fs := fun c fs h => by
  unfold memS at h
  split at h
  · split at h <;> cases h
  · cases h
theorem memS_ok {x : D} {ys : List D} {b : Bool} (h : memS x ys = .ok b) : ∃ d ds, py x = some d ∧ pyL ys = some ds ∧ SeqAt.shaped d = true ∧ SeqAt.shaped (.list ds) = true ∧ (ds.any fun z => PyData.eqv z d) = b := by
  unfold memS at h
  split at h
  · rename_i d ds h1 h2
    split at h
    · rename_i hc
      rw [Bool.and_eq_true] at hc
      cases h
      exact ⟨d, ds, h1, h2, hc.1, hc.2, rfl⟩
    · cases h
  · cases h
theorem opd_eq (G : Gof g X) : OpD g W true (rEqD X.K) (fun x y => blR (cmpD .eq x y)) := by
  intro Z σ H x y v u fx fy Q hz rx ry o
  obtain ⟨b, h, q⟩ := Out.bl hz (fun c fs => eqD_err c fs) o
  obtain ⟨d, e, h1, h2, s1, s2, rfl⟩ := eqD_ok h
  rw [G.K]
  exact ⟨d, e, rx.dp h1, ry.dp h2, s1, s2, q⟩
theorem neD_err {r : R Bool} (hn : ∀ c fs, r ≠ .err c fs) : ∀ c fs, (r.bind fun b => .ok (!b)) ≠ (R.err c fs : R Bool) := fun c fs h => by
  cases r with
  | ok b => cases h
  | err c fs => exact hn c fs rfl
  | bad => cases h
theorem notR_ok {r : R Bool} {b : Bool} (h : (r.bind fun b => .ok (!b)) = (R.ok b : R Bool)) : r = .ok (!b) := by
  cases r with
  | ok c =>
    have h : (R.ok (!c) : R Bool) = .ok b := h
    injection h with h
    rw [← h, Bool.not_not]
  | err c fs => cases h
  | bad => cases h
theorem opd_ne (G : Gof g X) : OpD g W true (rNeD X.K) (fun x y => blR (cmpD .ne x y)) := by
  intro Z σ H x y v u fx fy Q hz rx ry o
  obtain ⟨b, h, q⟩ := Out.bl hz (neD_err fun c fs => eqD_err c fs) o
  obtain ⟨d, e, h1, h2, s1, s2, e3⟩ := eqD_ok (notR_ok h)
  rw [G.K]
  refine ⟨d, e, rx.dp h1, ry.dp h2, s1, s2, ?_⟩
  rw [e3, Bool.not_not]
  exact q
/-- order of ints -/
theorem opd_ord {op : Cop} {p : Int → Int → Bool} (hp : ∀ i j, cmpD op (.int i) (.int j) = .ok (p i j)) (hb : ∀ x y, (∀ i j, x = D.int i → y = D.int j → False) → cmpD op x y = .bad) : OpD g W true (rI0 fun i j => .bl (p i j)) (fun x y => blR (cmpD op x y)) := by
  intro Z σ H x y v u fx fy Q hz rx ry o
  have bad : (∀ i j, x = D.int i → y = D.int j → False) → (rI0 fun i j => .bl (p i j)) v u H Q := fun h => by
    have o : Out g W Z σ H (blR (cmpD op x y)) _ := o
    rw [hb x y h] at o
    exact o.elim
  cases x with
  | int i =>
    cases y with
    | int j =>
      obtain ⟨rfl, _⟩ := rep_int rx
      obtain ⟨rfl, _⟩ := rep_int ry
      have o : Out g W Z σ H (blR (cmpD op (.int i) (.int j))) _ := o
      rw [hp] at o
      exact ⟨i, j, rfl, rfl, o _ H Z [] (post_sc hz (.bl _))⟩
    | _ => exact bad fun _ _ _ e => by cases e
  | _ => exact bad fun _ _ e => by cases e
theorem opd_lt : OpD g W true (rI0 fun i j => .bl (decide (i < j))) (fun x y => blR (cmpD .lt x y)) := opd_ord (fun _ _ => rfl) fun x y h => by
  cases x <;> cases y <;> first | rfl | exact (h _ _ rfl rfl).elim
theorem opd_le : OpD g W true (rI0 fun i j => .bl (decide (i ≤ j))) (fun x y => blR (cmpD .le x y)) := opd_ord (fun _ _ => rfl) fun x y h => by
  cases x <;> cases y <;> first | rfl | exact (h _ _ rfl rfl).elim
theorem opd_gt : OpD g W true (rI0 fun i j => .bl (decide (j < i))) (fun x y => blR (cmpD .gt x y)) := opd_ord (p := fun i j => decide (j < i)) (fun _ _ => rfl) fun x y h => by
  cases x <;> cases y <;> first | rfl | exact (h _ _ rfl rfl).elim
theorem opd_ge : OpD g W true (rI0 fun i j => .bl (decide (j ≤ i))) (fun x y => blR (cmpD .ge x y)) := opd_ord (p := fun i j => decide (j ≤ i)) (fun _ _ => rfl) fun x y h => by
  cases x <;> cases y <;> first | rfl | exact (h _ _ rfl rfl).elim

/-! ### is None -/
theorem non_iff {Z : Addr → Prop} {H : Hp} {x : D} {v : V} {f : List Addr} (r : Rep g Z H x v f) : decide (v = .non) = isNon x := by
  cases r <;> first | rfl | exact decide_eq_false (fun e => nomatch e)
theorem opd_isN : OpD g W true (fun x y H Q => y = .non ∧ Q (.bl (decide (x = .non))) H) (fun x y => blR (cmpD .isN x y)) := by
  intro Z σ H x y v u fx fy Q hz rx ry o
  cases y with
  | non =>
    obtain ⟨rfl, _⟩ := rep_non ry
    refine ⟨rfl, ?_⟩
    rw [non_iff rx]
    exact o _ H Z [] (post_sc hz (.bl _))
  | _ => exact o.elim
theorem opd_notN : OpD g W true (fun x y H Q => y = .non ∧ Q (.bl (!decide (x = .non))) H) (fun x y => blR (cmpD .notN x y)) := by
  intro Z σ H x y v u fx fy Q hz rx ry o
  cases y with
  | non =>
    obtain ⟨rfl, _⟩ := rep_non ry
    refine ⟨rfl, ?_⟩
    rw [non_iff rx]
    exact o _ H Z [] (post_sc hz (.bl _))
  | _ => exact o.elim

/-! ### in, not in -/
def rInDct (g : Gv) (neg : Bool) : R2 := fun x y H Q => ∃ Z dx kvs k, DV g Z H dx kvs k x y ∧ Q (.bl (if neg = true then !(dget kvs k).isSome else (dget kvs k).isSome)) H
theorem op_inDct (hu : X.A.units + 70 < cLine) (G : Gof g X) : OpR X (compareOp .In) (rInDct g false) := by
  intro pins s σ H x y v u Q I rx ry h
  obtain ⟨Z, dx, kvs, k, dv, q⟩ := h
  exact dct_in hu G I dv rx ry fun s' I' => ⟨.bl _, H, I', rfl, q⟩
theorem op_notInDct (hu : X.A.units + 70 < cLine) (G : Gof g X) : OpR X (compareOp .NotIn) (rInDct g true) := by
  intro pins s σ H x y v u Q I rx ry h
  obtain ⟨Z, dx, kvs, k, dv, q⟩ := h
  exact dct_notIn hu G I dv rx ry fun s' I' => ⟨.bl _, H, I', rfl, q⟩
def rMem (X : Cx) (g : Gv) : R2 := fun x y H Q => rInD X.K x y H Q ∨ (rInT X.K false x y H Q ∨ (rInDct g false x y H Q ∨ ∃ i j, x = .str i ∧ y = .str j ∧ Q (.bl (!(Builtin.Str.occurrences j i 0 j.length 1).isEmpty)) H))
def rNMem (X : Cx) (g : Gv) : R2 := fun x y H Q => rNotInD X.K x y H Q ∨ (rInT X.K true x y H Q ∨ (rInDct g true x y H Q ∨ ∃ i j, x = .str i ∧ y = .str j ∧ Q (.bl (!(!(Builtin.Str.occurrences j i 0 j.length 1).isEmpty))) H))
theorem opr_mem (hu : X.A.units + 70 < cLine) (G : Gof g X) : OpR X (compareOp .In) (rMem X g) := (op_inD (by omega)).or ((op_inT (by omega)).or ((op_inDct hu G).or op_in_str))
theorem opr_nmem (hu : X.A.units + 70 < cLine) (G : Gof g X) : OpR X (compareOp .NotIn) (rNMem X g) := (op_notInD (by omega)).or ((op_notInT (by omega)).or ((op_notInDct hu G).or op_notin_str))
theorem memD_err {x y : D} : ∀ c fs, memD x y ≠ .err c fs := fun c fs h => by
  unfold memD at h
  split at h
  · exact memS_err c fs h
  · exact memS_err c fs h
  · rename_i kvs
    cases e : keyIn x kvs with
    | ok k => rw [e] at h; cases h
    | err c fs => exact keyIn_err c fs e
    | bad => rw [e] at h; cases h
  · split at h <;> cases h
  · cases h
theorem opd_mem (G : Gof g X) : OpD g W true (rMem X g) (fun x y => blR (cmpD .mem x y)) := by
  intro Z σ H x y v u fx fy Q hz rx ry o
  obtain ⟨b, h, q⟩ := Out.bl hz (fun c fs => memD_err c fs) o
  have h : memD x y = .ok b := h
  cases y with
  | lst o' ys =>
    obtain ⟨d, ds, h1, h2, s1, s2, rfl⟩ := memS_ok (show memS x ys = .ok b from h)
    refine .inl ⟨d, ds, by rw [G.K]; exact rx.dp h1, by rw [G.K]; exact ry.dp (by simp [py, h2]), s1, s2, q⟩
  | tup ys =>
    obtain ⟨d, ds, h1, h2, s1, s2, rfl⟩ := memS_ok (show memS x ys = .ok b from h)
    refine .inr (.inl ⟨d, ds, by rw [G.K]; exact rx.dp h1, by rw [G.K]; exact ry.dp (by simp [py, h2]), s1, s2, q⟩)
  | dct o' kvs =>
    have h : ((keyIn x kvs).bind fun k => R.ok (dget kvs k).isSome) = .ok b := h
    cases e : keyIn x kvs with
    | ok k =>
      rw [e] at h
      cases h
      exact .inr (.inr (.inl ⟨Z, x, kvs, k, ⟨⟨_, rx⟩, ⟨_, _, ry⟩, e⟩, q⟩))
    | err c fs => exact absurd e (keyIn_err c fs)
    | bad => rw [e] at h; cases h
  | str z =>
    cases x with
    | str i =>
      obtain ⟨rfl, _⟩ := rep_str rx
      obtain ⟨rfl, _⟩ := rep_str ry
      cases h
      exact .inr (.inr (.inr ⟨i, z, rfl, rfl, q⟩))
    | _ => cases h
  | _ => cases h
theorem opd_nmem (G : Gof g X) : OpD g W true (rNMem X g) (fun x y => blR (cmpD .nmem x y)) := by
  intro Z σ H x y v u fx fy Q hz rx ry o
  obtain ⟨b, h, q⟩ := Out.bl hz (neD_err fun c fs => memD_err c fs) o
  have h : memD x y = .ok (!b) := notR_ok h
  obtain ⟨b', rfl⟩ : ∃ b', b = !b' := ⟨!b, (Bool.not_not b).symm⟩
  rw [Bool.not_not] at h
  cases y with
  | lst o' ys =>
    obtain ⟨d, ds, h1, h2, s1, s2, rfl⟩ := memS_ok (show memS x ys = .ok b' from h)
    refine .inl ⟨d, ds, by rw [G.K]; exact rx.dp h1, by rw [G.K]; exact ry.dp (by simp [py, h2]), s1, s2, q⟩
  | tup ys =>
    obtain ⟨d, ds, h1, h2, s1, s2, rfl⟩ := memS_ok (show memS x ys = .ok b' from h)
    refine .inr (.inl ⟨d, ds, by rw [G.K]; exact rx.dp h1, by rw [G.K]; exact ry.dp (by simp [py, h2]), s1, s2, q⟩)
  | dct o' kvs =>
    have h : ((keyIn x kvs).bind fun k => R.ok (dget kvs k).isSome) = .ok b' := h
    cases e : keyIn x kvs with
    | ok k =>
      rw [e] at h
      cases h
      exact .inr (.inr (.inl ⟨Z, x, kvs, k, ⟨⟨_, rx⟩, ⟨_, _, ry⟩, e⟩, q⟩))
    | err c fs => exact absurd e (keyIn_err c fs)
    | bad => rw [e] at h; cases h
  | str z =>
    cases x with
    | str i =>
      obtain ⟨rfl, _⟩ := rep_str rx
      obtain ⟨rfl, _⟩ := rep_str ry
      cases h
      exact .inr (.inr (.inr ⟨i, z, rfl, rfl, q⟩))
    | _ => cases h
  | _ => cases h

/-! ### items -/
def rIxDct (g : Gv) : R2 := fun x y H Q => ∃ Z dx kvs k z, DV g Z H dx kvs k y x ∧ dget kvs k = some z ∧ ∀ v', Rep g Z H z v' [] → Q v' H
theorem dct_typeIs {Z : Addr → Prop} {H : Hp} {pins : List (Addr × Obj)} {σ : L2.St} {s : Shared} (I : Inv X pins σ H s) {o : Bool} {kvs : List (NestedKey × D)} {v : V} {u : Value} {fp : List Addr} (r : Rep g Z H (.dct o kvs) v fp) (ru : RelV v u) :
    s.TypeIs u "dict" ∧ ∀ b, u = .ref b → ∃ ob, s.heap.get? b = some ob ∧ ob.dict = none := by
  cases r with
  | dK h e hs w =>
    cases ru
    obtain ⟨_, _, vs, _, dd⟩ := dk_rd I.hok (.inl h)
    refine ⟨dd.typeIs, fun b q => ?_⟩
    cases q
    obtain ⟨ob, _, _, h1, h2, _⟩ := dd
    exact ⟨ob, h1, h2.2.1⟩
  | dN h e ne hk hs w =>
    cases ru
    obtain ⟨⟨_, _, _, ys, _, ob, es, ep, h1, h2, _⟩, _⟩ := I.hok _ _ h
    refine ⟨⟨ob, h1, h2.1⟩, fun b q => ?_⟩
    cases q
    exact ⟨ob, h1, h2.2.1⟩
theorem ix_dct (hu : X.A.units + 70 < cLine) (G : Gof g X) : IxR X (rIxDct g) := by
  intro value slice pins s σ H x y v u Q I rx ry h hs
  obtain ⟨Z, dx, kvs, k, z, dv, hz, q⟩ := h
  obtain ⟨o, fp, rd⟩ := dv.dict
  have ht := (dct_typeIs I rd rx).1
  unfold subscriptTail
  refine wpAny_bind ?_
  rw [getitemInPython_of_ne ht.not_modules]
  refine wpAny_bind (wpAny_specialOf ht PySem.F.slot_dict_getitem.lookup ?_)
  have fin : wpAny (model X.prog X.w) X.A (subscripted slice false v u) (fun r s₃ => wpAny (model X.prog X.w) X.A (letTemporaryGo value v r >>= fun _ => pure r) (EP X pins σ Q) X.xe s₃) X.xe s := by
    rw [hs]
    refine wpAny_operating (dct_get hu G I dv ry rx hz fun s' v' u' I' r' ru => wpAny_bind (wpAny_letTemporaryGo (wpAny_pure ⟨v', H, I', ru, q v' r'⟩)))
  first
    | exact wpAny_pure (wpAny_bind fin)
    | exact wpAny_bind (wpAny_pure (wpAny_bind fin))
    | exact wpAny_bind fin
def rIdx (X : Cx) (g : Gv) : R2 := fun x y H Q => rIx X.K x y H Q ∨ rIxDct g x y H Q
theorem ixr_all (hu : X.A.units + 70 < cLine) (G : Gof g X) : IxR X (rIdx X g) := ix_seq.or (ix_dct hu G)
theorem atI_map {α β : Type} {f : α → β} {xs : List α} {i : Int} : L2.atI (xs.map f) i = (L2.atI xs i).map f := by
  unfold L2.atI
  rw [List.length_map]
  cases ixN xs.length i with
  | none => rfl
  | some j => simp
theorem reps_at {Z : Addr → Prop} {H : Hp} {xs : List D} {vs : List V} {fp : List Addr} (r : Reps g Z H xs vs fp) {i : Int} {x : D} (h : L2.atI xs i = some x) : ∃ v f, L2.atI vs i = some v ∧ Rep g Z H x v f ∧ (∀ a ∈ f, a ∈ fp) ∧ (fp.Nodup → f.Nodup) := by
  unfold L2.atI at h ⊢
  rw [← r.length]
  obtain ⟨j, e1, e2⟩ := Option.bind_eq_some_iff.mp h
  obtain ⟨v, f, e3, r3, s3, n3⟩ := r.get j x e2
  exact ⟨v, f, by rw [e1]; exact e3, r3, s3, n3⟩
theorem ofR_out {α : Type} {Z : Addr → Prop} {σ : L2.St} {H : Hp} {o : Option α} {P : α → Prop} (h : Out g W Z σ H (ofR o) P) : ∃ a, o = some a ∧ P a := by
  cases o with
  | some a => exact ⟨a, rfl, h⟩
  | none => exact h.elim
theorem opd_idx (G : Gof g X) : OpD g W false (rIdx X g) idxD := by
  intro Z σ H x y v u fx fy Q hz rx ry o
  cases x with
  | lst o' xs =>
    cases y with
    | int i =>
      obtain ⟨z, e, q⟩ := ofR_out (show Out g W Z σ H (ofR (L2.atI xs i)) _ from o)
      obtain ⟨a, vs, fs, rfl, hq, rs, sub⟩ := rep_lst' rx
      obtain ⟨rfl, _⟩ := rep_int ry
      obtain ⟨w, f, e2, r2, _⟩ := reps_at rs e
      exact .inl (.inl ⟨a, vs, i, w, rfl, rfl, by rw [G.K]; exact hq, e2, q w H Z f ⟨same_refl H, .refl hz, r2, fun e => by cases e⟩⟩)
    | _ => exact o.elim
  | tup xs =>
    cases y with
    | int i =>
      obtain ⟨z, e, q⟩ := ofR_out (show Out g W Z σ H (ofR (L2.atI xs i)) _ from o)
      obtain ⟨a, vs, rfl, hq, rs⟩ := rep_tup rx
      obtain ⟨rfl, _⟩ := rep_int ry
      obtain ⟨w, f, e2, r2, _⟩ := reps_at rs e
      exact .inl (.inr (.inl ⟨a, vs, i, w, rfl, rfl, by rw [G.K]; exact hq, e2, q w H Z f ⟨same_refl H, .refl hz, r2, fun e => by cases e⟩⟩))
    | _ => exact o.elim
  | str z =>
    cases y with
    | int i =>
      obtain ⟨hl, o⟩ := Out.guard (show Out g W Z σ H (if z.length ≤ sizeLine then ofR ((L2.atI z.cps.toList i).map oneOf) else .bad) _ from o)
      obtain ⟨d, e, q⟩ := ofR_out o
      obtain ⟨c, e1, rfl⟩ := Option.map_eq_some_iff.mp e
      obtain ⟨rfl, _⟩ := rep_str rx
      obtain ⟨rfl, _⟩ := rep_int ry
      exact .inl (.inr (.inr ⟨z, i, c, rfl, rfl, hl, e1, q _ H Z [] (post_sc hz (.str _))⟩))
    | _ => exact o.elim
  | dct o' kvs =>
    have o : Out g W Z σ H ((keyIn y kvs).bind fun k => ofR (dget kvs k)) _ := o
    cases e : keyIn y kvs with
    | ok k =>
      rw [e] at o
      obtain ⟨z, e2, q⟩ := ofR_out (show Out g W Z σ H (ofR (dget kvs k)) _ from o)
      exact .inr ⟨Z, y, kvs, k, z, ⟨⟨_, ry⟩, ⟨_, _, rx⟩, e⟩, e2, fun v' r' => q v' H Z [] (post_sc hz r')⟩
    | err c fs => exact absurd e (keyIn_err c fs)
    | bad => rw [e] at o; exact o.elim
  | _ => exact o.elim
end
end DI
/-! DI, the expressions: names, constants, displays, truth, slices -/
namespace DI
open PySem PySem.Spec PyProof.Rows L2

section
variable {X : Cx} {g : Gv} {W : L2.WX} {a b c : Expr} {fa fb fc : Sl → R D} {ba bb bc : Bool} {pos : Pos}

/-- a test from its value -/
theorem tIT_tB {f : Sl → R D} {bo : Bool} {σ : L2.St} {H : Hp} {Q : Bool → Hp → Prop} (q : tIT g W f σ H Q) : tB (tI g W bo f) σ H Q := by
  obtain ⟨H0, Z, fps, σl, sr, o⟩ := q
  refine ⟨H0, Z, fps, σl, sr, o.imp fun d ⟨k, e, q⟩ v H' Z' fp p => ?_⟩
  subst e
  have rp := p.rep
  cases rp
  exact ⟨k, rfl, q H' Z' p.same p.zx⟩
/-- a reading weaker by what follows -/
theorem tI_imp {f f' : Sl → R D} {b b' : Bool} {σ : L2.St} {H : Hp} {Q : VK} (q : tI g W b f σ H Q) (hf : ∀ σl, f σl = .bad ∨ f' σl = f σl) (hb : b = true → b' = true) : tI g W b' f' σ H Q := by
  obtain ⟨H0, Z, fps, σl, sr, o⟩ := q
  refine ⟨H0, Z, fps, σl, sr, ?_⟩
  rcases hf σl with e | e
  · rw [e] at o; exact o.elim
  · rw [e]
    exact o.imp fun d q v H' Z' fp p => q v H' Z' fp ⟨p.same, p.zx, p.rep, fun e => p.own (hb e)⟩

theorem se_var {i : Nat} {x : Str} (hN : X.N[i]? = some x) (hv : Vis X.env.scope x) (hd : (x == ("__debug__" : Str)) = false) (hcd : (x == ("__classdict__" : Str)) = false) : PE X (.Name x pos) (tI g W false fun σ => getS σ i) := (pe_var hN hv hd hcd).imp fun σ H Q q => by
  obtain ⟨H0, Z, fps, σl, sr, o⟩ := q
  have o : Out g W Z σ H (getS σl i) _ := o
  unfold getS at o
  cases e : σl[i]? with
  | none => rw [e] at o; exact o.elim
  | some w =>
    cases w with
    | none => rw [e] at o; exact o.elim
    | some d =>
      rw [e] at o
      obtain ⟨v, fp, e1, e2, r⟩ := sr.slot i d e
      exact ⟨v, e1, o v H Z fp ⟨same_refl H, .refl sr.z, r, fun e => by cases e⟩⟩
/-- a constant -/
theorem se_con {e : Expr} {v : V} {d : D} {bo : Bool} (h : PE X e (tC v)) (hr : ∀ (Z : Addr → Prop) (H : Hp), Rep g Z H d v []) : PE X e (tI g W bo fun _ => .ok d) := h.imp fun σ H Q q => by
  obtain ⟨H0, Z, fps, σl, sr, o⟩ := q
  exact o v H Z [] (post_sc sr.z (hr Z H))
theorem se_neg (ha : PE X a (tI g W ba fa)) {bo : Bool} : PE X (.UnaryOp .USub a pos) (tI g W bo fun σ => (fa σ).bind fun x => (intOf x).bind fun i => .ok (.int (-i))) := (pe_un un_neg ha).imp fun σ H Q q => by
  obtain ⟨H0, Z, fps, σl, sr, o⟩ := q
  refine ⟨H0, Z, fps, σl, sr, o.bind.imp fun x h v1 H1 Z1 fp1 p1 => ?_⟩
  cases x with
  | int i =>
    obtain ⟨rfl, _⟩ := rep_int p1.rep
    exact ⟨i, rfl, h _ H1 Z1 [] ((post_sc p1.zx.inn (.int _)).pre p1.same p1.zx)⟩
  | _ => exact h.elim
theorem se_not (ha : PE X a (tI g W ba fa)) {bo : Bool} : PE X (.UnaryOp .Not a pos) (tI g W bo fun σ => (fa σ).bind fun x => (boolOf x).bind fun i => .ok (.bl (!i))) := (pe_not ha).imp fun σ H Q q => by
  obtain ⟨H0, Z, fps, σl, sr, o⟩ := q
  refine ⟨H0, Z, fps, σl, sr, o.bind.imp fun x h v1 H1 Z1 fp1 p1 => ?_⟩
  cases x with
  | bl i =>
    obtain ⟨rfl, _⟩ := rep_bl p1.rep
    exact ⟨i, rfl, h _ H1 Z1 [] ((post_sc p1.zx.inn (.bl _)).pre p1.same p1.zx)⟩
  | _ => exact h.elim
theorem st_not (ha : PT X a (tIT g W fa)) : PT X (.UnaryOp .Not a pos) (tIT g W fun σ => (fa σ).bind fun x => (boolOf x).bind fun i => .ok (.bl (!i))) := (pt_not ha).imp fun σ H Q q => by
  obtain ⟨H0, Z, fps, σl, sr, o⟩ := q
  refine ⟨H0, Z, fps, σl, sr, o.bind.imp fun x h => ?_⟩
  cases x with
  | bl i =>
    obtain ⟨k, e, q⟩ := h
    cases e
    exact ⟨i, rfl, fun H' Z' s z => q H' Z' s z⟩
  | _ => exact h.elim
theorem se_and {rest : List Expr} (ha : PE X a (tI g W ba fa)) (hb : PE X (.BoolOp .And (b :: rest) pos) (tI g W bb fb)) : PE X (.BoolOp .And (a :: b :: rest) pos) (tI g W false fun σ => (fa σ).bind fun x => (boolOf x).bind fun r => if r = true then (fb σ).bind fun y => (boolOf y).bind fun r => .ok (.bl r) else .ok (.bl false)) := (pe_and ha hb).imp fun σ H Q q => by
  obtain ⟨H0, Z, fps, σl, sr, o⟩ := q
  refine ⟨H0, Z, fps, σl, sr, o.bind.imp fun x h v1 H1 Z1 fp1 p1 => ?_⟩
  cases x with
  | bl i =>
    obtain ⟨rfl, _⟩ := rep_bl p1.rep
    refine ⟨i, rfl, ?_⟩
    cases i with
    | true =>
      have h : Out g W Z σ H ((fb σl).bind fun y => (boolOf y).bind fun r => R.ok (D.bl r)) _ := h
      refine ⟨H0, Z1, fps, σl, sr.step p1.same p1.zx, h.bind.step p1.same p1.zx fun y h2 v2 H2 Z2 fp2 p2 => ?_⟩
      cases y with
      | bl j => exact h2 v2 H2 Z2 fp2 ((p2.borrow).pre p1.same p1.zx)
      | _ => exact h2.elim
    | false => exact h _ H1 Z1 [] ((post_sc p1.zx.inn (.bl _)).pre p1.same p1.zx)
  | _ => exact h.elim
theorem se_or {rest : List Expr} (ha : PE X a (tI g W ba fa)) (hb : PE X (.BoolOp .Or (b :: rest) pos) (tI g W bb fb)) : PE X (.BoolOp .Or (a :: b :: rest) pos) (tI g W false fun σ => (fa σ).bind fun x => (boolOf x).bind fun r => if r = true then .ok (.bl true) else (fb σ).bind fun y => (boolOf y).bind fun r => .ok (.bl r)) := (pe_or ha hb).imp fun σ H Q q => by
  obtain ⟨H0, Z, fps, σl, sr, o⟩ := q
  refine ⟨H0, Z, fps, σl, sr, o.bind.imp fun x h v1 H1 Z1 fp1 p1 => ?_⟩
  cases x with
  | bl i =>
    obtain ⟨rfl, _⟩ := rep_bl p1.rep
    refine ⟨i, rfl, ?_⟩
    cases i with
    | false =>
      have h : Out g W Z σ H ((fb σl).bind fun y => (boolOf y).bind fun r => R.ok (D.bl r)) _ := h
      refine ⟨H0, Z1, fps, σl, sr.step p1.same p1.zx, h.bind.step p1.same p1.zx fun y h2 v2 H2 Z2 fp2 p2 => ?_⟩
      cases y with
      | bl j => exact h2 v2 H2 Z2 fp2 ((p2.borrow).pre p1.same p1.zx)
      | _ => exact h2.elim
    | true => exact h _ H1 Z1 [] ((post_sc p1.zx.inn (.bl _)).pre p1.same p1.zx)
  | _ => exact h.elim
theorem sw_and {rest : List Expr} (ha : PT X a (tIT g W fa)) (hb : PW X (.BoolOp .And (b :: rest) pos) (tIT g W fb)) : PW X (.BoolOp .And (a :: b :: rest) pos) (tIT g W fun σ => (fa σ).bind fun x => (boolOf x).bind fun r => if r = true then (fb σ).bind fun y => (boolOf y).bind fun r => .ok (.bl r) else .ok (.bl false)) := (pw_and ha hb).imp fun σ H Q q => by
  obtain ⟨H0, Z, fps, σl, sr, o⟩ := q
  refine ⟨H0, Z, fps, σl, sr, o.bind.imp fun x h => ?_⟩
  cases x with
  | bl i =>
    refine ⟨i, rfl, fun H1 Z1 s1 z1 => ?_⟩
    cases i with
    | true =>
      have h : Out g W Z σ H ((fb σl).bind fun y => (boolOf y).bind fun r => R.ok (D.bl r)) _ := h
      refine ⟨H0, Z1, fps, σl, sr.step s1 z1, h.bind.step s1 z1 fun y h2 => ?_⟩
      cases y with
      | bl j =>
        obtain ⟨k, e, q⟩ := h2
        cases e
        exact ⟨j, rfl, fun H' Z' s z => q H' Z' (same_trans s1 s) (z1.trans s1 z)⟩
      | _ => exact h2.elim
    | false =>
      obtain ⟨k, e, q⟩ := h
      cases e
      exact q H1 Z1 s1 z1
  | _ => exact h.elim
theorem sw_or {rest : List Expr} (ha : PT X a (tIT g W fa)) (hb : PW X (.BoolOp .Or (b :: rest) pos) (tIT g W fb)) : PW X (.BoolOp .Or (a :: b :: rest) pos) (tIT g W fun σ => (fa σ).bind fun x => (boolOf x).bind fun r => if r = true then .ok (.bl true) else (fb σ).bind fun y => (boolOf y).bind fun r => .ok (.bl r)) := (pw_or ha hb).imp fun σ H Q q => by
  obtain ⟨H0, Z, fps, σl, sr, o⟩ := q
  refine ⟨H0, Z, fps, σl, sr, o.bind.imp fun x h => ?_⟩
  cases x with
  | bl i =>
    refine ⟨i, rfl, fun H1 Z1 s1 z1 => ?_⟩
    cases i with
    | false =>
      have h : Out g W Z σ H ((fb σl).bind fun y => (boolOf y).bind fun r => R.ok (D.bl r)) _ := h
      refine ⟨H0, Z1, fps, σl, sr.step s1 z1, h.bind.step s1 z1 fun y h2 => ?_⟩
      cases y with
      | bl j =>
        obtain ⟨k, e, q⟩ := h2
        cases e
        exact ⟨j, rfl, fun H' Z' s z => q H' Z' (same_trans s1 s) (z1.trans s1 z)⟩
      | _ => exact h2.elim
    | true =>
      obtain ⟨k, e, q⟩ := h
      cases e
      exact q H1 Z1 s1 z1
  | _ => exact h.elim
theorem se_ite (hc : PT X c (tIT g W fc)) (ha : PE X a (tI g W ba fa)) (hb : PE X b (tI g W bb fb)) : PE X (.IfExp c a b pos) (tI g W (ba && bb) fun σ => (fc σ).bind fun x => (boolOf x).bind fun r => if r = true then fa σ else fb σ) := (pe_ifExp hc ha hb).imp fun σ H Q q => by
  obtain ⟨H0, Z, fps, σl, sr, o⟩ := q
  refine ⟨H0, Z, fps, σl, sr, o.bind.imp fun x h => ?_⟩
  cases x with
  | bl i =>
    refine ⟨i, rfl, fun H1 Z1 s1 z1 => ?_⟩
    cases i with
    | true =>
      have h : Out g W Z σ H (fa σl) _ := h
      exact ⟨H0, Z1, fps, σl, sr.step s1 z1, h.step s1 z1 fun y h2 v2 H2 Z2 fp2 p2 => h2 v2 H2 Z2 fp2 (PostE.pre s1 z1 ⟨p2.same, p2.zx, p2.rep, fun e => p2.own (by cases ba <;> simp_all)⟩)⟩
    | false =>
      have h : Out g W Z σ H (fb σl) _ := h
      exact ⟨H0, Z1, fps, σl, sr.step s1 z1, h.step s1 z1 fun y h2 v2 H2 Z2 fp2 p2 => h2 v2 H2 Z2 fp2 (PostE.pre s1 z1 ⟨p2.same, p2.zx, p2.rep, fun e => p2.own (by cases bb <;> simp_all)⟩)⟩
  | _ => exact h.elim

/-! ### lists of arguments -/
theorem sa_nil {bo : Bool} : PA X [] (tIA g W bo fun _ => .ok (.tup [])) := pa_nil.imp fun σ H Q q => by
  obtain ⟨H0, Z, fps, σl, sr, o⟩ := q
  obtain ⟨ds, e, q⟩ := o
  cases e
  exact q [] H Z [] ⟨same_refl H, .refl sr.z, .nil, fun _ => ⟨List.nodup_nil, fun _ h => nomatch h⟩⟩
theorem starE {e : Expr} {es : List Expr} {env : Env} (h : (match e with | .Starred _ _ => false | _ => true) = true) : starEach (e :: es) env = (false, eval e env) :: starEach es env := by
  cases e <;> first | rfl | cases h
theorem sa_cons {es : List Expr} (ha : PE X a (tI g W ba fa)) (hb : PA X es (tIA g W bb fb)) (hs : starEach (a :: es) X.env = (false, eval a X.env) :: starEach es X.env) : PA X (a :: es) (tIA g W false fun σ => (fa σ).bind fun x => (fb σ).bind fun r => (tupOf r).bind fun xs => .ok (.tup (x :: xs))) := (pa_cons ha hb hs).imp fun σ H Q q => by
  obtain ⟨H0, Z, fps, σl, sr, o⟩ := q
  refine ⟨H0, Z, fps, σl, sr, o.bind.imp fun x h v1 H1 Z1 fp1 p1 => ?_⟩
  refine ⟨H0, Z1, fps, σl, sr.step p1.same p1.zx, h.bind.step p1.same p1.zx fun y h2 => ?_⟩
  cases y with
  | tup ds =>
    obtain ⟨ds', e, q⟩ := h2
    cases e
    exact ⟨ds, rfl, fun vs H2 Z2 fp2 p2 => q (v1 :: vs) H2 Z2 (fp1 ++ fp2) ⟨same_trans p1.same p2.same, p1.zx.trans p1.same p2.zx, .cons (p1.rep.same p2.zx.le p2.same) p2.rep, fun e => by cases e⟩⟩
  | _ => exact h2.elim
/-- owned items, apart from one another -/
theorem sa_ocons {es : List Expr} {r : Bool} (hr : r = false → ba = true) (ha : PE X a (tI g W ba fa)) (hb : PA X es (tIA g W true fb)) (hs : starEach (a :: es) X.env = (false, eval a X.env) :: starEach es X.env) :
    PA X (a :: es) (tIA g W true fun σ => (fa σ).bind fun x => (ownIf r x).bind fun x => (fb σ).bind fun r => (tupOf r).bind fun xs => .ok (.tup (x :: xs))) := (pa_cons ha hb hs).imp fun σ H Q q => by
  obtain ⟨H0, Z, fps, σl, sr, o⟩ := q
  refine ⟨H0, Z, fps, σl, sr, o.bind.imp fun x h v1 H1 Z1 fp1 p1 => ?_⟩
  obtain ⟨hc, h⟩ := Out.guard (show Out g W Z σ H (if (!r || clean x) = true then R.ok x else .bad) _ from h.bind)
  have own1 : fp1.Nodup ∧ ∀ a ∈ fp1, H a = none ∧ ¬ Z1 a := by
    cases r with
    | false => exact p1.own (hr rfl)
    | true =>
      have e := Rep.clean p1.rep (by simpa using hc)
      subst e
      exact ⟨List.nodup_nil, fun _ h => nomatch h⟩
  have h : Out g W Z σ H ((fb σl).bind fun r => (tupOf r).bind fun xs => R.ok (D.tup (x :: xs))) _ := h
  refine ⟨H0, Z1, fps, σl, sr.step p1.same p1.zx, h.bind.step p1.same p1.zx fun y h2 => ?_⟩
  cases y with
  | tup ds =>
    obtain ⟨ds', e, q⟩ := h2
    cases e
    refine ⟨ds, rfl, fun vs H2 Z2 fp2 p2 => q (v1 :: vs) H2 Z2 (fp1 ++ fp2) ⟨same_trans p1.same p2.same, p1.zx.trans p1.same p2.zx, .cons (p1.rep.same p2.zx.le p2.same) p2.rep, fun _ => ?_⟩⟩
    obtain ⟨n2, o2⟩ := p2.own rfl
    refine ⟨List.nodup_append.mpr ⟨own1.1, n2, fun x hx y hy e => ?_⟩, fun a ha => ?_⟩
    · subst e
      exact Rep.there p1.rep x hx (o2 x hy).1
    · rcases List.mem_append.mp ha with ha | ha
      · refine ⟨(own1.2 a ha).1, fun z => ?_⟩
        rcases p2.zx.new a z with z | z
        · exact (own1.2 a ha).2 z
        · exact Rep.there p1.rep a ha z
      · exact ⟨same_none p1.same (o2 a ha).1, (o2 a ha).2⟩
  | _ => exact h2.elim
theorem se_tup {es : List Expr} {k : Nat} (h : PA X es (tIA g W true fa)) : PE X (.Tuple es k pos) (tI g W true fun σ => (fa σ).bind fun r => (tupOf r).bind fun xs => if xs.length ≤ sizeLine then .ok (.tup xs) else .bad) := (pe_tup h).imp fun σ H Q q => by
  obtain ⟨H0, Z, fps, σl, sr, o⟩ := q
  refine ⟨H0, Z, fps, σl, sr, o.bind.imp fun x h => ?_⟩
  cases x with
  | tup ds =>
    refine ⟨ds, rfl, fun vs H1 Z1 fp1 p1 => ?_⟩
    obtain ⟨hl, h⟩ := Out.guard (show Out g W Z σ H (if ds.length ≤ sizeLine then R.ok (D.tup ds) else .bad) _ from h)
    refine ⟨by rw [← p1.rep.length]; exact hl, fun p hp => h _ _ Z1 fp1 ⟨same_trans p1.same (same_upd hp), p1.zx.trans p1.same (.stay p1.zx.inn (same_upd hp)), .tup (.of upd_same) (p1.rep.same (fun _ z => z) (same_upd hp)), fun _ => p1.own rfl⟩⟩
  | _ => exact h.elim
theorem se_lst {es : List Expr} (h : PA X es (tIA g W true fa)) : PE X (.List es pos) (tI g W true fun σ => (fa σ).bind fun r => (tupOf r).bind fun xs => if xs.length ≤ sizeLine then .ok (.lst true xs) else .bad) := (pe_lst h).imp fun σ H Q q => by
  obtain ⟨H0, Z, fps, σl, sr, o⟩ := q
  refine ⟨H0, Z, fps, σl, sr, o.bind.imp fun x h => ?_⟩
  cases x with
  | tup ds =>
    refine ⟨ds, rfl, fun vs H1 Z1 fp1 p1 => ?_⟩
    obtain ⟨hl, h⟩ := Out.guard (show Out g W Z σ H (if ds.length ≤ sizeLine then R.ok (D.lst true ds) else .bad) _ from h)
    refine ⟨by rw [← p1.rep.length]; exact hl, fun p hp => h _ _ Z1 (p :: fp1) ⟨same_trans p1.same (same_upd hp), p1.zx.trans p1.same (.stay p1.zx.inn (same_upd hp)), .lst upd_same (p1.rep.same (fun _ z => z) (same_upd hp)) (.inl ⟨rfl, rfl⟩), fun _ => ?_⟩⟩
    obtain ⟨n1, o1⟩ := p1.own rfl
    refine ⟨List.nodup_cons.mpr ⟨fun m => Reps.there p1.rep p m hp, n1⟩, fun a ha => ?_⟩
    rcases List.mem_cons.mp ha with rfl | ha
    · exact ⟨same_none p1.same hp, fun z => p1.zx.inn a z hp⟩
    · exact o1 a ha
  | _ => exact h.elim
theorem se_dict0 : PE X (.Dict [] [] pos) (tI g W true fun _ => .ok (.dct true [])) := pe_dnewK.imp fun σ H Q q => by
  obtain ⟨H0, Z, fps, σl, sr, o⟩ := q
  exact fun p hp => o _ _ Z [p] (post_new sr.z hp (.dK (kv := []) upd_same rfl .nil own_new) (.inr rfl))

/-! ### slices -/
def rSlAll (X : Cx) : V → Option Int → Option Int → Hp → VK → Prop := fun x lo hi H Q => rSlL X.K x lo hi H Q ∨ (rSlA X.K x lo hi H Q ∨ rSlS x lo hi H Q)
theorem slr_all : SlR X (rSlAll X) := sl_list.or (sl_tupA.or sl_str)
theorem cutV_nil {Z : Addr → Prop} {H : Hp} {xs : List D} {vs : List V} (r : Reps g Z H xs vs []) (lo hi : Option Int) : Reps g Z H (cutL xs lo hi) (cutV vs lo hi) [] := by
  unfold cutL cutV
  rw [r.length]
  exact (r.drop0 _).take0 _
theorem cutL_all {α : Type} (xs : List α) (lo hi : Option Int) (h : HT.sIx xs.length 0 lo = 0 ∧ HT.sIx xs.length xs.length hi = xs.length) : cutL xs lo hi = xs := by
  unfold cutL
  rw [h.1, h.2, List.drop_zero, Nat.sub_zero, List.take_length]
theorem slD_out {σ : L2.St} {Z : Addr → Prop} {H : Hp} {x : D} {v : V} {fx : List Addr} {lo hi : Option Int} {Q : VK} (G : Gof g X) (hz : ∀ a, Z a → H a ≠ none) (rx : Rep g Z H x v fx)
    (o : Out g W Z σ H (slD x lo hi) fun d => ∀ v H' Z' fp, PostE g true Z Z' H H' d v fp → Q v H') : rSlAll X v lo hi H Q := by
  cases x with
  | lst o' xs =>
    obtain ⟨hc, o⟩ := Out.guard (show Out g W Z σ H (if cleanL xs = true then R.ok (D.lst true (cutL xs lo hi)) else .bad) _ from o)
    obtain ⟨a, vs, fs, rfl, hq, rs, sub⟩ := rep_lst' rx
    refine .inl ⟨a, vs, rfl, by rw [G.K]; exact hq, fun p hp => o _ _ Z [p] (post_new hz hp (.lst upd_same ((cutV_nil (rs.to0 hc) lo hi).same (fun _ z => z) (same_upd hp)) own_new) (.inr rfl))⟩
  | tup xs =>
    obtain ⟨hc, o⟩ := Out.guard (show Out g W Z σ H (if cleanL xs = true then R.ok (D.tup (cutL xs lo hi)) else .bad) _ from o)
    obtain ⟨a, vs, rfl, hq, rs⟩ := rep_tup rx
    refine .inr (.inl ⟨a, vs, rfl, by rw [G.K]; exact hq, fun h => ?_, fun _ p hp => o _ _ Z [] (post_new hz hp (.tup (.of upd_same) ((cutV_nil (rs.to0 hc) lo hi).same (fun _ z => z) (same_upd hp))) (.inl rfl))⟩)
    rw [← rs.length] at h
    refine o _ H Z [] (post_sc hz (.tup hq ?_))
    rw [cutL_all xs lo hi h]
    exact rs.to0 hc
  | str z =>
    obtain ⟨hc, o⟩ := Out.guard (show Out g W Z σ H (if z.length ≤ sizeLine then R.ok (D.str (L2.cutS z lo hi)) else .bad) _ from o)
    obtain ⟨rfl, _⟩ := rep_str rx
    exact .inr (.inr ⟨z, rfl, hc, o _ H Z [] (post_sc hz (.str _))⟩)
  | _ => exact o.elim
/-- a part of a slice -/
def tPO (g : Gv) (W : L2.WX) (f : Sl → R D) (n : Bool) : TO := fun σ H Q => ∃ H0 Z fps σl, SR g H0 Z fps σl σ H ∧ Out g W Z σ H (f σl) fun d => Out g W Z σ H (partD (if n = true then none else some d)) fun i => ∀ H' Z', Same H H' → Zx Z Z' H H' → Q i H'
theorem po_e (ha : PE X a (tI g W ba fa)) : PO X (some a) (tPO g W fa false) := by
  refine ⟨fun pins s σ H Q I h => (po_some ha).run pins s σ H Q I ?_⟩
  obtain ⟨H0, Z, fps, σl, sr, o⟩ := h
  refine ⟨H0, Z, fps, σl, sr, o.imp fun x h v1 H1 Z1 fp1 p1 => ?_⟩
  cases x with
  | int i =>
    obtain ⟨rfl, _⟩ := rep_int p1.rep
    exact ⟨i, rfl, h H1 Z1 p1.same p1.zx⟩
  | _ => exact h.elim
theorem po_n : PO X none (tPO g W (fun _ => .ok .non) true) := by
  refine ⟨fun pins s σ H Q I h => po_none.run pins s σ H Q I ?_⟩
  obtain ⟨H0, Z, fps, σl, sr, o⟩ := h
  exact o H Z (same_refl H) (.refl sr.z)
theorem se_sl {lo hi : Option Expr} {p2 : Pos} {nb nc : Bool} (G : Gof g X) (ha : PE X a (tI g W ba fa)) (hl : PO X lo (tPO g W fb nb)) (hh : PO X hi (tPO g W fc nc)) :
    PE X (.Subscript a (.Slice lo hi none p2) pos) (tI g W true fun σ => (fa σ).bind fun x => (fb σ).bind fun l => (partD (if nb = true then none else some l)).bind fun l => (fc σ).bind fun h => (partD (if nc = true then none else some h)).bind fun h => slD x l h) :=
  (pe_slice slr_all ha hl hh).imp fun σ H Q q => by
    obtain ⟨H0, Z, fps, σl, sr, o⟩ := q
    refine ⟨H0, Z, fps, σl, sr, o.bind.imp fun x h v1 H1 Z1 fp1 p1 => ?_⟩
    refine ⟨H0, Z1, fps, σl, sr.step p1.same p1.zx, h.bind.step p1.same p1.zx fun l h2 => ?_⟩
    refine h2.bind.step p1.same p1.zx fun lo' h3 H2 Z2 s2 z2 => ?_
    have s12 := same_trans p1.same s2
    have z12 := p1.zx.trans p1.same z2
    refine ⟨H0, Z2, fps, σl, sr.step s12 z12, h3.bind.step s12 z12 fun l' h4 => ?_⟩
    refine h4.bind.step s12 z12 fun hi' h5 H3 Z3 s3 z3 => ?_
    have s13 := same_trans s12 s3
    have z13 := z12.trans s12 z3
    exact slD_out G z3.inn (p1.rep.same (fun a z => z3.le a (z2.le a z)) (same_trans s2 s3)) (h5.step s13 z13 fun d q v H' Z' fp p => q v H' Z' fp (p.pre s13 z13))
end
end DI
/-! DI, chains, calls, built-ins, methods -/
namespace DI
open PySem PySem.Spec PyProof.Rows L2

section
variable {X : Cx} {g : Gv} {W : L2.WX} {a b c : Expr} {fa fb fc : Sl → R D} {ba bb bc : Bool} {pos : Pos}

/-! ### a < b < c -/
theorem tChain_of {r r' : R2} {o o' : Cop} (hr : OpD g W true r (fun x y => blR (cmpD o x y))) (hr' : OpD g W true r' (fun x y => blR (cmpD o' x y))) {σ : L2.St} {H : Hp} {Q : VK}
    (q : tI g W true (fun σ => (fa σ).bind fun x => (fb σ).bind fun y => (cmpD o x y).bind fun r => if r = true then (fc σ).bind fun z => (cmpD o' y z).bind fun r => .ok (.bl r) else .ok (.bl false)) σ H Q) :
    tChain r r' (tI g W ba fa) (tI g W bb fb) (tI g W bc fc) σ H Q := by
  obtain ⟨H0, Z, fps, σl, sr, q⟩ := q
  refine ⟨H0, Z, fps, σl, sr, q.bind.imp fun x h v1 H1 Z1 fp1 p1 => ?_⟩
  refine ⟨H0, Z1, fps, σl, sr.step p1.same p1.zx, h.bind.step p1.same p1.zx fun y h2 v2 H2 Z2 fp2 p2 => ?_⟩
  have s2 := same_trans p1.same p2.same
  have z2 := p1.zx.trans p1.same p2.zx
  refine hr Z2 σ H2 x y v1 v2 fp1 fp2 _ p2.zx.inn (p1.rep.same p2.zx.le p2.same) p2.rep ?_
  have h3 := h2.bind.step (P' := fun k => Out g W Z σ H (if k = true then (fc σl).bind fun z => (cmpD o' y z).bind fun r => .ok (.bl r) else .ok (.bl false)) fun d => ∀ v H' Z' fp, PostE g true Z Z' H H' d v fp → Q v H') s2 z2 (fun _ h => h)
  show Out g W Z2 σ H2 (blR (cmpD o x y)) _
  unfold blR
  cases hc : cmpD o x y with
  | ok k =>
    rw [hc] at h3
    have h3 : Out g W Z σ H (if k = true then (fc σl).bind fun z => (cmpD o' y z).bind fun r => .ok (.bl r) else .ok (.bl false)) fun d => ∀ v H' Z' fp, PostE g true Z Z' H H' d v fp → Q v H' := h3
    intro v H3 Z3 fp3 p3
    have rp := p3.rep
    cases rp
    refine ⟨k, rfl, ?_⟩
    have s3 := same_trans s2 p3.same
    have z3 := z2.trans s2 p3.zx
    cases k with
    | true =>
      have h3 : Out g W Z σ H ((fc σl).bind fun z => (cmpD o' y z).bind fun r => R.ok (D.bl r)) _ := h3
      refine ⟨H0, Z3, fps, σl, sr.step s3 z3, h3.bind.step s3 z3 fun z h4 v4 H4 Z4 fp4 p4 => ?_⟩
      have s4 := same_trans s3 p4.same
      have z4 := z3.trans s3 p4.zx
      refine hr' Z4 σ H4 y z v2 v4 fp2 fp4 Q p4.zx.inn (p2.rep.same (fun a h => p4.zx.le a (p3.zx.le a h)) (same_trans p3.same p4.same)) p4.rep ?_
      exact h4.step s4 z4 fun d q v H' Z' fp p => q v H' Z' fp (p.pre s4 z4)
    | false => exact h3 _ H3 Z3 [] ((post_sc p3.zx.inn (.bl _)).pre s3 z3)
  | err c fs =>
    rw [hc] at h3
    exact h3
  | bad =>
    rw [hc] at h3
    exact h3
theorem se_chn {op op' : CmpOp} {r r' : R2} {o o' : Cop} (ho : OpR X (compareOp op) r) (ho' : OpR X (compareOp op') r') (hr : OpD g W true r (fun x y => blR (cmpD o x y))) (hr' : OpD g W true r' (fun x y => blR (cmpD o' x y)))
    (ha : PE X a (tI g W ba fa)) (hb : PE X b (tI g W bb fb)) (hc : PE X c (tI g W bc fc)) (hm : lastMarks [op, op'] [b, c] = false) :
    PE X (.Compare a [op, op'] [b, c] pos) (tI g W true (fun σ => (fa σ).bind fun x => (fb σ).bind fun y => (cmpD o x y).bind fun r => if r = true then (fc σ).bind fun z => (cmpD o' y z).bind fun r => .ok (.bl r) else .ok (.bl false))) :=
  (pe_chain ho ho' ha hb hc hm).imp fun _ _ _ q => tChain_of hr hr' q
theorem tIT_tI {f : Sl → R D} {σ : L2.St} {H : Hp} {Q : Bool → Hp → Prop} (q : tIT g W f σ H Q) : tI g W true f σ H fun x H1 => ∃ k, x = .bl k ∧ Q k H1 := tIT_tB q
theorem st_chn {op op' : CmpOp} {r r' : R2} {o o' : Cop} (ho : OpR X (compareOp op) r) (ho' : OpR X (compareOp op') r') (hr : OpD g W true r (fun x y => blR (cmpD o x y))) (hr' : OpD g W true r' (fun x y => blR (cmpD o' x y)))
    (ha : PE X a (tI g W ba fa)) (hb : PE X b (tI g W bb fb)) (hc : PE X c (tI g W bc fc)) (hm : lastMarks [op, op'] [b, c] = false) :
    PT X (.Compare a [op, op'] [b, c] pos) (tIT g W (fun σ => (fa σ).bind fun x => (fb σ).bind fun y => (cmpD o x y).bind fun r => if r = true then (fc σ).bind fun z => (cmpD o' y z).bind fun r => .ok (.bl r) else .ok (.bl false))) :=
  (pt_chain ho ho' ha hb hc hm).imp fun _ _ _ q => tChain_of hr hr' (tIT_tI q)

/-! ### calls by values -/
def OpC (g : Gv) (W : L2.WX) (bo : Bool) (r : List V → Hp → VK → Prop) (h : List D → R D) : Prop := ∀ (Z : Addr → Prop) (σ : L2.St) (H : Hp) (ds : List D) (vs : List V) (fp : List Addr) (Q : VK), (∀ a, Z a → H a ≠ none) → Reps g Z H ds vs fp →
  Out g W Z σ H (h ds) (fun d => ∀ v H' Z' fp, PostE g bo Z Z' H H' d v fp → Q v H') → r vs H Q
theorem tCB_of {r : List V → Hp → VK → Prop} {h : List D → R D} {bo : Bool} (hr : OpC g W bo r h) {σ : L2.St} {H : Hp} {Q : VK} (q : tI g W bo (fun σ => (fa σ).bind fun r => (tupOf r).bind fun ds => h ds) σ H Q) : tCB r (tIA g W ba fa) σ H Q := by
  obtain ⟨H0, Z, fps, σl, sr, q⟩ := q
  refine ⟨H0, Z, fps, σl, sr, q.bind.imp fun x o => ?_⟩
  cases x with
  | tup ds =>
    have o : Out g W Z σ H (h ds) _ := o
    exact ⟨ds, rfl, fun vs H1 Z1 fp1 p1 => hr Z1 σ H1 ds vs fp1 Q p1.zx.inn p1.rep (o.step p1.same p1.zx fun d q v H' Z' fp p => q v H' Z' fp (p.pre p1.same p1.zx))⟩
  | _ => exact o.elim
theorem se_callB {x : Str} {p : Pos} {e : Expr} {es : List Expr} {id : String} {r : List V → Hp → VK → Prop} {h : List D → R D} {bo : Bool} (hc : CallR X (.builtin id) r) (hr : OpC g W bo r h) (hg : Gl X x) (hm : X.mg x = none) (hv : bootBuiltins x = some (.builtin id))
    (ha : PA X (e :: es) (tIA g W ba fa)) (hn : x ≠ "__name__") (hdb : (x == ("__debug__" : Str)) = false) (he : starEach (e :: es) X.env = (false, eval e X.env) :: starEach es X.env) (hpl : (backTo pos (starEach es X.env)).any (·.1) = false) :
    PE X (.Call (.Name x p) (e :: es) [] pos) (tI g W bo fun σ => (fa σ).bind fun r => (tupOf r).bind fun ds => h ds) := (pe_callB hc hg hm hv ha hn hdb he hpl).imp fun _ _ _ q => tCB_of hr q
theorem se_callTy {x : Str} {p : Pos} {e : Expr} {es : List Expr} {T : String} {r : List V → Hp → VK → Prop} {h : List D → R D} {bo : Bool} (hc : CallR X (.type T) r) (hr : OpC g W bo r h) (hg : Gl X x) (hm : X.mg x = none) (hv : bootBuiltins x = some (.type T))
    (ha : PA X (e :: es) (tIA g W ba fa)) (hn : x ≠ "__name__") (hdb : (x == ("__debug__" : Str)) = false) (he : starEach (e :: es) X.env = (false, eval e X.env) :: starEach es X.env) (hpl : (backTo pos (starEach es X.env)).any (·.1) = false) :
    PE X (.Call (.Name x p) (e :: es) [] pos) (tI g W bo fun σ => (fa σ).bind fun r => (tupOf r).bind fun ds => h ds) := (pe_callTy hc hg hm hv ha hn hdb he hpl).imp fun _ _ _ q => tCB_of hr q

/-! ### a call of a def of the text -/
/-- the promise: what h says of the arguments' data -/
def spI (g : Gv) (n : Nat) (h : List D → R D) : Sp := fun vs H Q E => ∃ (Z : Addr → Prop) (ds : List D), (∀ a, Z a → H a ≠ none) ∧ Reps g Z H ds vs [] ∧ ds.length = n ∧
  Out g (fun cls d _ H => E cls d H) Z [] H (h ds) fun d => ∀ v H' Z' fp, PostE g true Z Z' H H' d v fp → Q v H'
theorem frzL_length (ds : List D) : (frzL ds).length = ds.length := by rw [frzL_map, List.length_map]
theorem call_sp {n : Nat} {h : List D → R D} {Z Z1 : Addr → Prop} {H H1 : Hp} {σ : L2.St} {ds : List D} {vs : List V} {fp1 : List Addr} {Q : VK} {bo : Bool} (p1 : PostA g ba Z Z1 H H1 ds vs fp1) (hn : ds.length = n)
    (o : Out g W Z σ H ((h (frzL ds)).bind fun d => if (cleanL ds || noFrz d) = true then .ok d else .bad) fun d => ∀ v H' Z' fp, PostE g bo Z Z' H H' d v fp → Q v H') :
    spI g n h vs H1 Q (fun cls d H => W cls d σ H) := by
  refine ⟨fun a => Z1 a ∨ a ∈ fp1, frzL ds, fun a ha => ?_, p1.rep.frz (fun a z => .inl z) (fun a m => .inr m), by rw [frzL_length]; exact hn, ?_⟩
  · rcases ha with z | m
    · exact p1.zx.inn a z
    · exact Reps.there p1.rep a m
  · cases hh : h (frzL ds) with
    | ok d =>
      rw [hh] at o
      obtain ⟨hc, o⟩ := Out.guard (show Out g W Z σ H (if (cleanL ds || noFrz d) = true then R.ok d else .bad) _ from o)
      intro v H' Z' fp p2
      refine o v H' (fun a => Z1 a ∨ (Z' a ∧ H1 a = none)) fp ⟨same_trans p1.same p2.same, ⟨fun a z => .inl (p1.zx.le a z), fun a z => ?_, fun a z => ?_⟩, ?_, fun _ => ⟨(p2.own rfl).1, fun a ha => ?_⟩⟩
      · rcases z with z | ⟨_, z⟩
        · exact p1.zx.new a z
        · exact .inr (same_none p1.same z)
      · rcases z with z | ⟨z, _⟩
        · exact fun e => p1.zx.inn a z (same_none p2.same e)
        · exact p2.zx.inn a z
      · rw [Bool.or_eq_true] at hc
        rcases hc with hc | hc
        · have e := p1.rep.clean hc
          subst e
          refine p2.rep.same (fun a z => ?_) (same_refl H')
          rcases p2.zx.new a z with (q | q) | q
          · exact .inl q
          · exact nomatch q
          · exact .inr ⟨z, q⟩
        · exact p2.rep.unzone hc
      · obtain ⟨h1, h2⟩ := (p2.own rfl).2 a ha
        refine ⟨same_none p1.same h1, fun z => ?_⟩
        rcases z with z | ⟨z, _⟩
        · exact p1.zx.inn a z h1
        · exact h2 z
    | err c fs =>
      rw [hh] at o
      intro H' Z' cls d s z e
      refine o H' (fun a => Z1 a ∨ (Z' a ∧ H1 a = none)) cls d (same_trans p1.same s) ⟨fun a z => .inl (p1.zx.le a z), fun a z => ?_, fun a z' => ?_⟩ e
      · rcases z with z | ⟨_, z⟩
        · exact p1.zx.new a z
        · exact .inr (same_none p1.same z)
      · rcases z' with z' | ⟨z', _⟩
        · exact fun e => p1.zx.inn a z' (same_none s e)
        · exact z.inn a z'
    | bad =>
      rw [hh] at o
      exact o.elim
theorem se_call {x : Str} {p : Pos} {e : Expr} {es : List Expr} {k n : Nat} {f : Addr} {fd : FuncData} {ps : List Str} {h : List D → R D} (F : FnOk X.prog X.w X.K X.mg X.base (L2.CX X.prog X.w) k f fd ps (spI g n h)) (hr : Room k X.A) (hg : Gl X x) (hm : X.mg x = some (.ref f))
    (hk : PySem.W.keepIn X.K (.ref f) = true) (hb : Binds X.K fd ps []) (tk : Takes X W) (ha : PA X (e :: es) (tIA g W ba fa)) (hlen : ∀ σ ds, fa σ = .ok (.tup ds) → ds.length = n) (hdb : (x == ("__debug__" : Str)) = false) (he : starEach (e :: es) X.env = (false, eval e X.env) :: starEach es X.env) (hpl : (backTo pos (starEach es X.env)).any (·.1) = false) :
    PE X (.Call (.Name x p) (e :: es) [] pos) (tI g W true fun σ => (fa σ).bind fun r => (tupOf r).bind fun ds => (h (frzL ds)).bind fun d => if (cleanL ds || noFrz d) = true then .ok d else .bad) :=
  (pe_callSD (dvs := []) (E := fun σ cls d H => W cls d σ H) F hr hg hm hk hb .nil (fun σ => passAt tk σ) ha hdb he hpl).imp fun σ H Q q => by
    obtain ⟨H0, Z, fps, σl, sr, q⟩ := q
    refine ⟨H0, Z, fps, σl, sr, ?_⟩
    have q := Out.bind q
    cases hx : fa σl with
    | ok x =>
      rw [hx] at q
      cases x with
      | tup ds =>
        refine ⟨ds, rfl, fun vs H1 Z1 fp1 p1 => ?_⟩
        show spI g n h (vs ++ []) H1 Q _
        rw [List.append_nil]
        exact call_sp p1 (hlen σl ds hx) q
      | _ => exact q.elim
    | err c fs => rw [hx] at q; exact q
    | bad => rw [hx] at q; exact q.elim

/-! ### the built-ins' data -/
theorem reps1 {Z : Addr → Prop} {H : Hp} {x : D} {vs : List V} {fp : List Addr} (r : Reps g Z H [x] vs fp) : ∃ v, vs = [v] ∧ Rep g Z H x v fp := by
  cases r with
  | cons h hs =>
    cases hs
    exact ⟨_, rfl, by rw [List.append_nil]; exact h⟩
theorem reps2 {Z : Addr → Prop} {H : Hp} {x y : D} {vs : List V} {fp : List Addr} (r : Reps g Z H [x, y] vs fp) : ∃ v u f f', vs = [v, u] ∧ Rep g Z H x v f ∧ Rep g Z H y u f' := by
  cases r with
  | cons h hs =>
    obtain ⟨u, rfl, h2⟩ := reps1 hs
    exact ⟨_, _, _, _, rfl, h, h2⟩
def rLenD (X : Cx) : List V → Hp → VK → Prop := fun xs H Q => (∃ p ys, xs = [.ref p] ∧ (SqL X.K H p ys ∨ SqT X.K H p ys) ∧ Q (.int ys.length) H) ∨ ((∃ z, xs = [.str z] ∧ z.length ≤ sizeLine ∧ Q (.int z.length) H) ∨
  ((∃ p kv, xs = [.ref p] ∧ Rd H p (.dK kv) ∧ Q (.int kv.length) H) ∨ ∃ p ys, xs = [.ref p] ∧ H p = some (rawN X.prog X.w p ys) ∧ (∀ q ∈ ys, KRep X.K H q.1 (.ref q.2.1) ∧ q.1.depth ≤ 8) ∧ Q (.int ys.length) H))
theorem call_len_dN : CallR X (.builtin "len") (fun xs H Q => ∃ p ys, xs = [.ref p] ∧ H p = some (rawN X.prog X.w p ys) ∧ (∀ q ∈ ys, KRep X.K H q.1 (.ref q.2.1) ∧ q.1.depth ≤ 8) ∧ Q (.int ys.length) H) := by
  intro pins s σ H xs us Q I r h
  obtain ⟨p, ys, rfl, hp, hk, q⟩ := h
  obtain ⟨u, rfl, rx⟩ := L2.vals1 r
  cases rx
  obtain ⟨⟨hl, hd, hn, zs, hq, ob, es, ep, h1, h2, h3, h4⟩, _⟩ := I.hok p _ hp
  have hl2 := PN.length hq
  have dd : s.heap.DictOfH (nestedKind X.prog X.w) p zs := by
    refine ⟨ob, es, ep, h1, h2, h3, h4, fun x hx => ?_, by rw [PN.keys hq]; exact hn⟩
    have all : ∀ {l : List (NestedKey × Addr × V)} {m : List (NestedKey × Addr × Value)}, PN l m → (∀ p ∈ l, KRep X.K H p.1 (.ref p.2.1) ∧ p.1.depth ≤ 8) → ∀ x ∈ m, (nestedKind X.prog X.w).is s.heap x.1 x.2.1 := by
      intro l m q
      induction q with
      | nil => intro _ x hx; exact nomatch hx
      | @cons p q ps qs hq t ih =>
        intro hk x hx
        rcases List.mem_cons.mp hx with e | hx
        · subst e
          obtain ⟨k1, k2⟩ := hk p List.mem_cons_self
          refine ⟨?_, by rw [← hq.1]; exact k2⟩
          rw [← hq.1, ← hq.2.1]
          exact KRep.is (v := .ref p.2.1) (u := .ref p.2.1) I k1 rfl
        · exact ih (fun p hp => hk p (List.mem_cons_of_mem _ hp)) x hx
    exact all hq hk x hx
  refine call_len_dictH hd dd (by rw [← hl2]; rw [sizeLine_eq] at hl; omega) ?_
  rw [← hl2]
  exact ⟨.int ((ys.length : Nat) : Int), H, I.tok _, ⟨_, rfl⟩, q⟩
theorem call_len_dK : CallR X (.builtin "len") (fun xs H Q => ∃ p kv, xs = [.ref p] ∧ Rd H p (.dK kv) ∧ Q (.int kv.length) H) := by
  intro pins s σ H xs us Q I r h
  obtain ⟨p, kv, rfl, hp, q⟩ := h
  obtain ⟨u, rfl, rx⟩ := L2.vals1 r
  cases rx
  exact d_len I hp fun t s' I' => ⟨.int kv.length, H, I', ⟨t, rfl⟩, q⟩
theorem cr_lenD : CallR X (.builtin "len") (rLenD X) := call_len_seq.or (call_len_str.or (call_len_dK.or call_len_dN))
theorem opc_len (G : Gof g X) : OpC g W true (rLenD X) (biD .len) := by
  intro Z σ H ds vs fp Q hz r o
  cases ds with
  | nil => exact o.elim
  | cons x r' =>
    cases r' with
    | cons y r' => cases x <;> exact o.elim
    | nil =>
      obtain ⟨v, rfl, rx⟩ := reps1 r
      cases x with
      | lst o' xs =>
        obtain ⟨a, ys, fs, rfl, hq, rs, _⟩ := rep_lst' rx
        have o : ∀ v H' Z' fp, PostE g true Z Z' H H' (.int xs.length) v fp → Q v H' := o
        rw [rs.length] at o
        exact .inl ⟨a, ys, rfl, .inl (by rw [G.K]; exact hq), o _ H Z [] (post_sc hz (.int _))⟩
      | tup xs =>
        obtain ⟨a, ys, rfl, hq, rs⟩ := rep_tup rx
        have o : ∀ v H' Z' fp, PostE g true Z Z' H H' (.int xs.length) v fp → Q v H' := o
        rw [rs.length] at o
        exact .inl ⟨a, ys, rfl, .inr (by rw [G.K]; exact hq), o _ H Z [] (post_sc hz (.int _))⟩
      | str z =>
        obtain ⟨hl, o⟩ := Out.guard (show Out g W Z σ H (if z.length ≤ sizeLine then R.ok (D.int z.length) else .bad) _ from o)
        obtain ⟨rfl, _⟩ := rep_str rx
        exact .inr (.inl ⟨z, rfl, hl, o _ H Z [] (post_sc hz (.int _))⟩)
      | dct o' kvs =>
        have o : ∀ v H' Z' fp, PostE g true Z Z' H H' (.int kvs.length) v fp → Q v H' := o
        have q := o _ H Z [] (post_sc hz (.int _))
        cases rx with
        | @dK a kv _ _ _ h e hs w =>
          have e2 : kvs.length = kv.length := by have := congrArg List.length e; simpa using this.symm
          rw [e2] at q
          exact .inr (.inr (.inl ⟨a, kv, rfl, .inl h, q⟩))
        | @dN a xs _ _ _ h e ne hk hs w =>
          have e2 : kvs.length = xs.length := by have := congrArg List.length e; simpa using this.symm
          rw [e2] at q
          exact .inr (.inr (.inr ⟨a, xs, rfl, by rw [G.P, G.w]; exact h, by rw [G.K]; exact hk, q⟩))
      | _ => exact o.elim
end
end DI
/-! DI, the other built-ins, the methods -/
namespace DI
open PySem PySem.Spec PyProof.Rows L2

section
variable {X : Cx} {g : Gv} {W : L2.WX}
theorem reps_ints {Z : Addr → Prop} {H : Hp} : ∀ {xs : List D} {vs : List V} {fp : List Addr} {ns : List Int}, Reps g Z H xs vs fp → intsD xs = some ns → vs = ns.map V.int
  | [], _, _, _, r, e => by cases r; cases e; rfl
  | x :: xs, _, _, _, r, e => by
    cases r with
    | cons h hs =>
      cases x with
      | int i =>
        obtain ⟨ms, e1, rfl⟩ := Option.map_eq_some_iff.mp (show (intsD xs).map (i :: ·) = some _ from e)
        obtain ⟨rfl, _⟩ := rep_int h
        rw [reps_ints hs e1]
        rfl
      | _ => cases e
theorem reps_bls {Z : Addr → Prop} {H : Hp} : ∀ {xs : List D} {vs : List V} {fp : List Addr} {ns : List Bool}, Reps g Z H xs vs fp → blsD xs = some ns → vs = ns.map V.bl
  | [], _, _, _, r, e => by cases r; cases e; rfl
  | x :: xs, _, _, _, r, e => by
    cases r with
    | cons h hs =>
      cases x with
      | bl i =>
        obtain ⟨ms, e1, rfl⟩ := Option.map_eq_some_iff.mp (show (blsD xs).map (i :: ·) = some _ from e)
        obtain ⟨rfl, _⟩ := rep_bl h
        rw [reps_bls hs e1]
        rfl
      | _ => cases e
theorem reps_strs {Z : Addr → Prop} {H : Hp} : ∀ {xs : List D} {vs : List V} {fp : List Addr} {ns : List Str}, Reps g Z H xs vs fp → strsD xs = some ns → vs = ns.map V.str
  | [], _, _, _, r, e => by cases r; cases e; rfl
  | x :: xs, _, _, _, r, e => by
    cases r with
    | cons h hs =>
      cases x with
      | str i =>
        obtain ⟨ms, e1, rfl⟩ := Option.map_eq_some_iff.mp (show (strsD xs).map (i :: ·) = some _ from e)
        obtain ⟨rfl, _⟩ := rep_str h
        rw [reps_strs hs e1]
        rfl
      | _ => cases e
theorem reps_of_strs {Z : Addr → Prop} {H : Hp} : ∀ ns : List Str, Reps g Z H (ns.map D.str) (ns.map V.str) []
  | [] => .nil
  | x :: r => .cons (f := []) (fs := []) (.str x) (reps_of_strs r)

/-- one argument alone -/
theorem one_arg {h : List D → R D} {Z : Addr → Prop} {σ : L2.St} {H : Hp} {ds : List D} {vs : List V} {fp : List Addr} {P : D → Prop} (r : Reps g Z H ds vs fp) (o : Out g W Z σ H (h ds) P) (h0 : h [] = .bad) (h2 : ∀ x y r, h (x :: y :: r) = .bad) :
    ∃ x v, ds = [x] ∧ vs = [v] ∧ Rep g Z H x v fp ∧ Out g W Z σ H (h [x]) P := by
  cases ds with
  | nil => rw [h0] at o; exact o.elim
  | cons x r' =>
    cases r' with
    | nil =>
      obtain ⟨v, rfl, rx⟩ := reps1 r
      exact ⟨x, v, rfl, rfl, rx, o⟩
    | cons y r' => rw [h2] at o; exact o.elim
theorem two_args {h : List D → R D} {Z : Addr → Prop} {σ : L2.St} {H : Hp} {ds : List D} {vs : List V} {fp : List Addr} {P : D → Prop} (r : Reps g Z H ds vs fp) (o : Out g W Z σ H (h ds) P) (h0 : h [] = .bad) (h1 : ∀ x, h [x] = .bad) (h2 : ∀ x y z r, h (x :: y :: z :: r) = .bad) :
    ∃ x y v u f f', ds = [x, y] ∧ vs = [v, u] ∧ Rep g Z H x v f ∧ Rep g Z H y u f' ∧ Out g W Z σ H (h [x, y]) P := by
  cases ds with
  | nil => rw [h0] at o; exact o.elim
  | cons x r' =>
    cases r' with
    | nil => rw [h1] at o; exact o.elim
    | cons y r' =>
      cases r' with
      | nil =>
        obtain ⟨v, u, f, f', rfl, rx, ry⟩ := reps2 r
        exact ⟨x, y, v, u, f, f', rfl, rfl, rx, ry, o⟩
      | cons z r' => rw [h2] at o; exact o.elim
theorem opc_tuple (G : Gof g X) : OpC g W true (fun xs H Q => ∃ p ys, xs = [.ref p] ∧ ((SqL X.K H p ys ∧ ∀ l, H l = none → Q (.ref l) (upd H l (.tup ys))) ∨ (SqT X.K H p ys ∧ Q (.ref p) H))) (biD .tuple) := by
  intro Z σ H ds vs fp Q hz r o
  obtain ⟨x, v, rfl, rfl, rx, o⟩ := one_arg r o rfl (fun x _ _ => by cases x <;> rfl)
  cases x with
  | lst o' xs =>
    obtain ⟨hc, o⟩ := Out.guard (show Out g W Z σ H (if cleanL xs = true then R.ok (D.tup xs) else .bad) _ from o)
    obtain ⟨a, ys, fs, rfl, hq, rs, _⟩ := rep_lst' rx
    exact ⟨a, ys, rfl, .inl ⟨by rw [G.K]; exact hq, fun p hp => o _ _ Z [] (post_new hz hp (.tup (.of upd_same) ((rs.to0 hc).same (fun _ z => z) (same_upd hp))) (.inl rfl))⟩⟩
  | tup xs =>
    obtain ⟨hc, o⟩ := Out.guard (show Out g W Z σ H (if cleanL xs = true then R.ok (D.tup xs) else .bad) _ from o)
    obtain ⟨a, ys, rfl, hq, rs⟩ := rep_tup rx
    exact ⟨a, ys, rfl, .inr ⟨by rw [G.K]; exact hq, o _ H Z [] (post_sc hz (.tup hq (rs.to0 hc)))⟩⟩
  | _ => exact o.elim
theorem opc_list (G : Gof g X) : OpC g W true (fun xs H Q => ∃ p ys, xs = [.ref p] ∧ (SqL X.K H p ys ∨ SqT X.K H p ys) ∧ ∀ l, H l = none → Q (.ref l) (upd H l (.lst ys))) (biD .list) := by
  intro Z σ H ds vs fp Q hz r o
  obtain ⟨x, v, rfl, rfl, rx, o⟩ := one_arg r o rfl (fun x _ _ => by cases x <;> rfl)
  cases x with
  | lst o' xs =>
    obtain ⟨hc, o⟩ := Out.guard (show Out g W Z σ H (if cleanL xs = true then R.ok (D.lst true xs) else .bad) _ from o)
    obtain ⟨a, ys, fs, rfl, hq, rs, _⟩ := rep_lst' rx
    exact ⟨a, ys, rfl, .inl (by rw [G.K]; exact hq), fun p hp => o _ _ Z [p] (post_new hz hp (.lst upd_same ((rs.to0 hc).same (fun _ z => z) (same_upd hp)) own_new) (.inr rfl))⟩
  | tup xs =>
    obtain ⟨hc, o⟩ := Out.guard (show Out g W Z σ H (if cleanL xs = true then R.ok (D.lst true xs) else .bad) _ from o)
    obtain ⟨a, ys, rfl, hq, rs⟩ := rep_tup rx
    exact ⟨a, ys, rfl, .inr (by rw [G.K]; exact hq), fun p hp => o _ _ Z [p] (post_new hz hp (.lst upd_same ((rs.to0 hc).same (fun _ z => z) (same_upd hp)) own_new) (.inr rfl))⟩
  | _ => exact o.elim
def rIntD : List V → Hp → VK → Prop := fun xs H Q => ((∃ i, xs = [.int i] ∧ Q (.int i) H) ∨ ∃ k, xs = [.bl k] ∧ Q (.int (if k = true then 1 else 0)) H) ∨ ∃ a n, xs = [.str a] ∧ PySem.intText? a = some n ∧ a.length ≤ 640 ∧ Q (.int n) H
theorem cr_intD : CallR X (.type "int") rIntD := call_int1.or call_int_str
theorem opc_int : OpC g W true rIntD (biD .int) := by
  intro Z σ H ds vs fp Q hz r o
  obtain ⟨x, v, rfl, rfl, rx, o⟩ := one_arg r o rfl (fun x _ _ => by cases x <;> rfl)
  cases x with
  | int i =>
    obtain ⟨rfl, _⟩ := rep_int rx
    exact .inl (.inl ⟨i, rfl, o _ H Z [] (post_sc hz (.int _))⟩)
  | bl i =>
    obtain ⟨rfl, _⟩ := rep_bl rx
    exact .inl (.inr ⟨i, rfl, o _ H Z [] (post_sc hz (.int _))⟩)
  | str z =>
    obtain ⟨rfl, _⟩ := rep_str rx
    have o : Out g W Z σ H (match PySem.intText? z with | some n => if z.length ≤ 640 then R.ok (D.int n) else .bad | none => .bad) _ := o
    cases e : PySem.intText? z with
    | none => rw [e] at o; exact o.elim
    | some n =>
      rw [e] at o
      obtain ⟨hc, o⟩ := Out.guard o
      exact .inr ⟨z, n, rfl, e, hc, o _ H Z [] (post_sc hz (.int _))⟩
  | _ => exact o.elim
theorem opc_str : OpC g W true (fun xs H Q => ∃ i, xs = [.int i] ∧ i.natAbs.log2 < 1920 ∧ Q (.str (toString i)) H) (biD .str) := by
  intro Z σ H ds vs fp Q hz r o
  obtain ⟨x, v, rfl, rfl, rx, o⟩ := one_arg r o rfl (fun x _ _ => by cases x <;> rfl)
  cases x with
  | int i =>
    obtain ⟨rfl, _⟩ := rep_int rx
    obtain ⟨hc, o⟩ := Out.guard (show Out g W Z σ H (if i.natAbs.log2 < 1920 then R.ok (D.str (Str.ofString (toString i))) else .bad) _ from o)
    exact ⟨i, rfl, hc, o _ H Z [] (post_sc hz (.str _))⟩
  | _ => exact o.elim
theorem opc_abs : OpC g W true (fun xs H Q => ∃ i, xs = [.int i] ∧ Q (.int (if i < 0 then -i else i)) H) (biD .abs) := by
  intro Z σ H ds vs fp Q hz r o
  obtain ⟨x, v, rfl, rfl, rx, o⟩ := one_arg r o rfl (fun x _ _ => by cases x <;> rfl)
  cases x with
  | int i =>
    obtain ⟨rfl, _⟩ := rep_int rx
    exact ⟨i, rfl, o _ H Z [] (post_sc hz (.int _))⟩
  | _ => exact o.elim
theorem opc_min : OpC g W true (fun xs H Q => ∃ i j, xs = [.int i, .int j] ∧ Q (.int (if j < i then j else i)) H) (biD .min) := by
  intro Z σ H ds vs fp Q hz r o
  obtain ⟨x, y, v, u, f, f', rfl, rfl, rx, ry, o⟩ := two_args r o rfl (fun x => by cases x <;> rfl) (fun x y _ _ => by cases x <;> cases y <;> rfl)
  cases x with
  | int i =>
    cases y with
    | int j =>
      obtain ⟨rfl, _⟩ := rep_int rx
      obtain ⟨rfl, _⟩ := rep_int ry
      exact ⟨i, j, rfl, o _ H Z [] (post_sc hz (.int _))⟩
    | _ => exact o.elim
  | _ => exact o.elim
theorem opc_max : OpC g W true (fun xs H Q => ∃ i j, xs = [.int i, .int j] ∧ Q (.int (if j > i then j else i)) H) (biD .max) := by
  intro Z σ H ds vs fp Q hz r o
  obtain ⟨x, y, v, u, f, f', rfl, rfl, rx, ry, o⟩ := two_args r o rfl (fun x => by cases x <;> rfl) (fun x y _ _ => by cases x <;> cases y <;> rfl)
  cases x with
  | int i =>
    cases y with
    | int j =>
      obtain ⟨rfl, _⟩ := rep_int rx
      obtain ⟨rfl, _⟩ := rep_int ry
      exact ⟨i, j, rfl, o _ H Z [] (post_sc hz (.int _))⟩
    | _ => exact o.elim
  | _ => exact o.elim
theorem opc_sum (G : Gof g X) : OpC g W true (rSum X.K) (biD .sum) := by
  intro Z σ H ds vs fp Q hz r o
  obtain ⟨x, v, rfl, rfl, rx, o⟩ := one_arg r o rfl (fun x _ _ => by cases x <;> rfl)
  cases x with
  | lst o' xs =>
    have o : Out g W Z σ H (match intsD xs with | some ns => R.ok (D.int ns.sum) | none => .bad) _ := o
    cases e : intsD xs with
    | none => rw [e] at o; exact o.elim
    | some ns =>
      rw [e] at o
      obtain ⟨a, ys, fs, rfl, hq, rs, _⟩ := rep_lst' rx
      have e2 := reps_ints rs e
      subst e2
      exact ⟨a, ns, rfl, by rw [G.K]; exact hq, o _ H Z [] (post_sc hz (.int _))⟩
  | _ => exact o.elim
theorem opc_all (G : Gof g X) : OpC g W true (rAll X.K) (biD .all) := by
  intro Z σ H ds vs fp Q hz r o
  obtain ⟨x, v, rfl, rfl, rx, o⟩ := one_arg r o rfl (fun x _ _ => by cases x <;> rfl)
  cases x with
  | lst o' xs =>
    have o : Out g W Z σ H (match blsD xs with | some ns => R.ok (D.bl (ns.all id)) | none => .bad) _ := o
    cases e : blsD xs with
    | none => rw [e] at o; exact o.elim
    | some ns =>
      rw [e] at o
      obtain ⟨a, ys, fs, rfl, hq, rs, _⟩ := rep_lst' rx
      have e2 := reps_bls rs e
      subst e2
      exact ⟨a, ns, rfl, by rw [G.K]; exact hq, o _ H Z [] (post_sc hz (.bl _))⟩
  | _ => exact o.elim

/-! ### isinstance of a built-in type -/
def Ty.nm : Ty → String
  | .str => "str" | .int => "int" | .bool => "bool" | .tuple => "tuple" | .list => "list"
def rIsiD (K : PySem.W.Frag) (t : Ty) : List V → Hp → VK → Prop := fun xs H Q => rIsi K (xs ++ [.ty t.nm]) H Q
theorem ty_of (G : Gof g X) {Z : Addr → Prop} {H : Hp} {x : D} {v : V} {f : List Addr} {t : Ty} {b : Bool} (r : Rep g Z H x v f) (e : isTy t x = .ok b) : ∃ n, TyX X.K H v (.type n) ∧ kitB n t.nm = some b := by
  cases r with
  | non => exact ⟨_, .base .non, by cases t <;> cases e <;> decide +kernel⟩
  | bl y => exact ⟨_, .base (.bl y), by cases t <;> cases e <;> decide +kernel⟩
  | int y => exact ⟨_, .base (.int y), by cases t <;> cases e <;> decide +kernel⟩
  | str y => exact ⟨_, .base (.str y), by cases t <;> cases e <;> decide +kernel⟩
  | tup h hs =>
    refine ⟨"tuple", ?_, by cases t <;> cases e <;> decide +kernel⟩
    rcases h with (h | ⟨o, h⟩) | ⟨o, its, n, hk, hc, _⟩
    · exact .base (.tup h)
    · exact .fTuple h
    · exact .kTuple (by rw [G.K]; exact hk) hc
  | lst h hs w => exact ⟨"list", .base (.lst h), by cases t <;> cases e <;> decide +kernel⟩
  | lstR h hs =>
    rcases h with ⟨ob, h⟩ | ⟨o, its, n, hk, hc, _⟩
    · exact ⟨"list", .base (.frz h), by cases t <;> cases e <;> decide +kernel⟩
    · exact ⟨"list", .kList (by rw [G.K]; exact hk) hc, by cases t <;> cases e <;> decide +kernel⟩
  | dK h e2 hs w => cases t <;> cases e
  | dN h e2 ne hk hs w => cases t <;> cases e
  | exc0 _ => cases t <;> cases e
  | excD _ _ _ _ _ => cases t <;> cases e
  | ins _ _ _ _ _ => cases t <;> cases e
theorem opc_isi (G : Gof g X) {t : Ty} : OpC g W true (rIsiD X.K t) (biD (.isi t)) := by
  intro Z σ H ds vs fp Q hz r o
  obtain ⟨x, v, rfl, rfl, rx, o⟩ := one_arg r o rfl (fun x _ _ => rfl)
  have o : Out g W Z σ H (blR (isTy t x)) _ := o
  obtain ⟨b, h, q⟩ := Out.bl hz (fun c fs h => by cases t <;> cases x <;> cases h) o
  obtain ⟨n, ty, k⟩ := ty_of G rx h
  exact ⟨v, .ty t.nm, .type n, .type t.nm, b, rfl, .ty _, ty, kit_ty k, q⟩
end
end DI
/-! DI, the methods -/
namespace DI
open PySem PySem.Spec PyProof.Rows L2

section
variable {X : Cx} {g : Gv} {W : L2.WX} {fa fb fc : Sl → R D} {ba bb bc : Bool}
/-- what may be known of a receiver -/
def TyAt (X : Cx) (T : String) (x : V) (H : Hp) : Prop := ∀ (pins : List (Addr × Obj)) (σ : L2.St) (s : Shared) (v : Value), Inv X pins σ H s → RelV x v → s.TypeIs v T ∧ ∀ a, v = .ref a → ∃ ob, s.heap.get? a = some ob ∧ ob.dict = none
def tBMG (X : Cx) (T : String) (r : V → List V → Hp → VK → Prop) (to : TE) (t : TA) : TE := fun σ H Q => to σ H fun x H1 => TyAt X T x H1 ∧ t σ H1 fun xs H2 => r x xs H2 Q
theorem pe_bmG {T : String} {id : String} {name : Str} {o e : Expr} {es : List Expr} {apos cpos : Pos} {r : V → List V → Hp → VK → Prop} {to : TE} {t : TA} (pa : PlainAttrs T) (slot : Slot T name id) (hty : typeOf (.builtin id) = pure (.type "method_descriptor")) (hm : MtR X id r) (ho : PE X o to) (ha : PA X (e :: es) t)
    (hbase : attributeBase o name X.env (eval o X.env) = eval o X.env)
    (hfew : ((backTo cpos (starEach (e :: es) X.env)).all (fun x => !x.1) && (backToKw cpos (keywordEach [] X.env)).all (fun x => x.1.isSome)
      && decide ((e :: es).length + ([] : List Keyword).length + (if ([] : List Keyword).isEmpty then 0 else 1) < 30)) = true)
    (hline : (apos.endLine == cpos.line) = true) (hs : starEach (e :: es) X.env = (false, eval e X.env) :: starEach es X.env) (hplain : (backTo cpos (starEach es X.env)).any (·.1) = false) :
    PE X (.Call (.Attribute o name apos) (e :: es) [] cpos) (tBMG X T r to t) := by
  refine ⟨fun pins s σ H Q I h => ?_⟩
  refine wpAny_Call_method_late hbase hfew hline rfl (thn (ho.run pins s σ H _ I h) fun v s1 ⟨x, H1, I1, r1, ty, q1⟩ => ?_)
  obtain ⟨h1, h2⟩ := ty pins σ s1 v I1 r1
  refine ⟨T, id, pa, slot, hty, h1, h2, ?_⟩
  have hA := ha.run cpos pins s1 σ H1 _ I1 q1
  rw [hs] at hA ⊢
  refine Calls.callWith_builtin (by show (false || (backTo cpos (starEach es X.env)).any (·.1)) = false; rw [hplain] <;> rfl) (Calls.evalArgs_plain ?_)
  exact thn hA fun us s2 ⟨vs, H2, I2, r2, q2⟩ => hm pins s2 σ H2 x vs v us Q I2 r1 r2 q2
/-- a method's data -/
def rMtD (g : Gv) (m : Mt) (bo : Bool) : V → List V → Hp → VK → Prop := fun x xs H Q => ∃ Z d ds fx fp e, (∀ a, Z a → H a ≠ none) ∧ Rep g Z H d x fx ∧ Reps g Z H ds xs fp ∧ mtD m d ds = .ok e ∧ ∀ v H' Z' fp, PostE g bo Z Z' H H' e v fp → Q v H'
theorem mtD_err {m : Mt} {x : D} {ds : List D} : ∀ c fs, mtD m x ds ≠ .err c fs := fun c fs h => by
  unfold mtD at h
  split at h
  · split at h
    · split at h <;> cases h
    · cases h
  · split at h <;> cases h
  · cases h
  · split at h <;> cases h
  · rename_i xs x
    cases e : idxL x xs with
    | ok k => rw [e] at h; cases h
    | err c fs =>
      unfold idxL at e
      split at e
      · split at e
        · rename_i ds' _ _ _
          cases e2 : ds'.findIdx? _ with
          | none => rw [e2] at e; cases e
          | some k => rw [e2] at e; cases e
        · cases e
      · cases e
    | bad => rw [e] at h; cases h
  · rename_i kvs k
    cases e : keyIn k kvs with
    | ok q => rw [e] at h; cases h
    | err c fs => exact keyIn_err c fs e
    | bad => rw [e] at h; cases h
  · rename_i kvs k x
    cases e : keyIn k kvs with
    | ok q =>
      rw [e] at h
      have h : (if DI.clean x = true then R.ok ((dget kvs q).getD x) else .bad) = R.err c fs := h
      split at h <;> cases h
    | err c fs => exact keyIn_err c fs e
    | bad => rw [e] at h; cases h
  · cases h
theorem tBMG_of {T : String} {m : Mt} {bo : Bool} (hT : ∀ (Z : Addr → Prop) (H : Hp) (d : D) (v : V) (f : List Addr), recvOk m d = true → Rep g Z H d v f → TyAt X T v H) {σ : L2.St} {H : Hp} {Q : VK}
    (q : tI g W bo (fun σ => (fa σ).bind fun x => if recvOk m x = true then (fb σ).bind fun r => (tupOf r).bind fun ds => mtD m x ds else .bad) σ H Q) : tBMG X T (rMtD g m bo) (tI g W ba fa) (tIA g W bb fb) σ H Q := by
  obtain ⟨H0, Z, fps, σl, sr, q⟩ := q
  refine ⟨H0, Z, fps, σl, sr, q.bind.imp fun x h v1 H1 Z1 fp1 p1 => ?_⟩
  obtain ⟨hc, h⟩ := Out.guard h
  refine ⟨hT Z1 H1 x v1 fp1 hc p1.rep, H0, Z1, fps, σl, sr.step p1.same p1.zx, h.bind.step p1.same p1.zx fun r o => ?_⟩
  cases r with
  | tup ds =>
    refine ⟨ds, rfl, fun vs H2 Z2 fp2 p2 => ?_⟩
    have o : Out g W Z σ H (mtD m x ds) _ := o
    obtain ⟨e, he, o⟩ := o.okOf mtD_err
    have s2 := same_trans p1.same p2.same
    have z2 := p1.zx.trans p1.same p2.zx
    exact ⟨Z2, x, ds, fp1, fp2, e, p2.zx.inn, p1.rep.same p2.zx.le p2.same, p2.rep, he, fun v H' Z' fp p => o v H' Z' fp (p.pre s2 z2)⟩
  | _ => exact o.elim
theorem se_mt {T : String} {id : String} {name : Str} {o e : Expr} {es : List Expr} {apos cpos : Pos} {m : Mt} {bo : Bool} (pa : PlainAttrs T) (slot : Slot T name id) (hty : typeOf (.builtin id) = pure (.type "method_descriptor")) (hm : MtR X id (rMtD g m bo))
    (hT : ∀ (Z : Addr → Prop) (H : Hp) (d : D) (v : V) (f : List Addr), recvOk m d = true → Rep g Z H d v f → TyAt X T v H) (ho : PE X o (tI g W ba fa)) (ha : PA X (e :: es) (tIA g W bb fb))
    (hbase : attributeBase o name X.env (eval o X.env) = eval o X.env)
    (hfew : ((backTo cpos (starEach (e :: es) X.env)).all (fun x => !x.1) && (backToKw cpos (keywordEach [] X.env)).all (fun x => x.1.isSome)
      && decide ((e :: es).length + ([] : List Keyword).length + (if ([] : List Keyword).isEmpty then 0 else 1) < 30)) = true)
    (hline : (apos.endLine == cpos.line) = true) (hs : starEach (e :: es) X.env = (false, eval e X.env) :: starEach es X.env) (hplain : (backTo cpos (starEach es X.env)).any (·.1) = false) :
    PE X (.Call (.Attribute o name apos) (e :: es) [] cpos) (tI g W bo fun σ => (fa σ).bind fun x => if recvOk m x = true then (fb σ).bind fun r => (tupOf r).bind fun ds => mtD m x ds else .bad) :=
  (pe_bmG pa slot hty hm ho ha hbase hfew hline hs hplain).imp fun _ _ _ q => tBMG_of hT q

/-! ### the receivers -/
theorem tyAt_str {x : Str} {H : Hp} : TyAt X "str" (.str x) H := fun pins σ s v I r => by
  obtain ⟨t, rfl⟩ := r
  exact ⟨typeIs_str s x t, fun _ e => nomatch e⟩
theorem tyAt_lst {a : Addr} {vs : List V} {H : Hp} (h : Rd H a (.lst vs)) : TyAt X "list" (.ref a) H := fun pins σ s v I r => tyV_is I r (.inl ⟨rfl, vs, .inl h⟩)
theorem tyAt_dct {Z : Addr → Prop} {H : Hp} {o : Bool} {kvs : List (NestedKey × D)} {v : V} {f : List Addr} (r : Rep g Z H (.dct o kvs) v f) : TyAt X "dict" v H := fun pins σ s u I ru => dct_typeIs I r ru

/-! ### each method -/
theorem mtr_join (G : Gof g X) : MtR X "str.join" (rMtD g .join true) := by
  intro pins s σ H x xs v us Q I rx rs h
  obtain ⟨Z, d, ds, fx, fp, e, hz, rd, rds, he, q⟩ := h
  unfold mtD at he
  split at he <;> first | contradiction | skip
  rename_i a o ys hm
  split at he
  · rename_i zs e1
    split at he
    · rename_i hl
      cases he
      obtain ⟨rfl, _⟩ := rep_str rd
      obtain ⟨w', rfl, rw'⟩ := reps1 rds
      obtain ⟨p, ws, fs, rfl, hq, rs', _⟩ := rep_lst' rw'
      have e2 := reps_strs rs' e1
      subst e2
      exact mt_join pins s σ H _ _ v us Q I rx rs ⟨a, p, zs, rfl, rfl, .inl (by rw [G.K]; exact hq), hl, q _ H Z [] (post_sc hz (.str _))⟩
    · cases he
  · cases he
theorem mtr_split : MtR X "str.split" (rMtD g .split true) := by
  intro pins s σ H x xs v us Q I rx rs h
  obtain ⟨Z, d, ds, fx, fp, e, hz, rd, rds, he, q⟩ := h
  unfold mtD at he
  split at he <;> first | contradiction | skip
  rename_i a b hm
  split at he
  · rename_i hl
    cases he
    obtain ⟨rfl, _⟩ := rep_str rd
    obtain ⟨w', rfl, rw'⟩ := reps1 rds
    obtain ⟨rfl, _⟩ := rep_str rw'
    exact mt_split pins s σ H _ _ v us Q I rx rs ⟨a, b, rfl, rfl, hl.1, hl.2, fun p hp => q _ _ Z [p] (post_new hz hp (.lst upd_same (reps_of_strs _) own_new) (.inr rfl))⟩
  · cases he
theorem mtr_find : MtR X "str.find" (rMtD g .find true) := by
  intro pins s σ H x xs v us Q I rx rs h
  obtain ⟨Z, d, ds, fx, fp, e, hz, rd, rds, he, q⟩ := h
  unfold mtD at he
  split at he <;> first | contradiction | skip
  rename_i a b hm
  cases he
  obtain ⟨rfl, _⟩ := rep_str rd
  obtain ⟨w', rfl, rw'⟩ := reps1 rds
  obtain ⟨rfl, _⟩ := rep_str rw'
  exact mt_find pins s σ H _ _ v us Q I rx rs ⟨a, b, rfl, rfl, q _ H Z [] (post_sc hz (.int _))⟩
theorem mtr_strIndex : MtR X "str.index" (rMtD g .strIndex true) := by
  intro pins s σ H x xs v us Q I rx rs h
  obtain ⟨Z, d, ds, fx, fp, e, hz, rd, rds, he, q⟩ := h
  unfold mtD at he
  split at he <;> first | contradiction | skip
  rename_i a b hm
  obtain ⟨rfl, _⟩ := rep_str rd
  obtain ⟨w', rfl, rw'⟩ := reps1 rds
  obtain ⟨rfl, _⟩ := rep_str rw'
  obtain ⟨t, rfl⟩ := rx
  cases rs with
  | cons r1 rs =>
    cases rs
    obtain ⟨u, rfl⟩ := r1
    split at he
    · cases he
    · rename_i k rest q'
      cases he
      exact PySem.SC.index q' ⟨.int (k : Nat), H, I.tok _, ⟨_, rfl⟩, q _ H Z [] (post_sc hz (.int _))⟩
theorem mtr_lstIndex (G : Gof g X) (hu : X.A.units + 70 < cLine) : MtR X "list.index" (rMtD g .lstIndex true) := by
  intro pins s σ H x xs v us Q I rx rs h
  obtain ⟨Z, d, ds, fx, fp, e, hz, rd, rds, he, q⟩ := h
  unfold mtD at he
  split at he <;> first | contradiction | skip
  rename_i o ys y hm
  obtain ⟨w', rfl, rw'⟩ := reps1 rds
  cases e1 : idxL y ys with
  | ok n =>
    rw [e1] at he
    cases he
    unfold idxL at e1
    split at e1
    · rename_i p ps h1 h2
      split at e1
      · rename_i hs
        rw [Bool.and_eq_true] at hs
        cases e2 : ps.findIdx? (fun z => PyData.eqv z p) with
        | none => rw [e2] at e1; cases e1
        | some k =>
          rw [e2] at e1
          cases e1
          obtain ⟨a, ws, fs, rfl, hq, rs', _⟩ := rep_lst' rd
          rw [List.findIdx?_eq_some_iff_getElem] at e2
          obtain ⟨hk, e3, e4⟩ := e2
          refine mt_indexD (by omega) pins s σ H _ _ v us Q I rx rs ⟨a, w', p, ps, n, ps[n], rfl, rfl, by rw [G.K]; exact rd.dp (by simp [py, h2]), by rw [G.K]; exact rw'.dp h1, hs.2, hs.1, by simp [hk], e3, fun j z hj hz' => ?_, q _ H Z [] (post_sc hz (.int _))⟩
          have hj' : j < ps.length := by omega
          have := e4 j hj
          rw [List.getElem?_eq_getElem hj'] at hz'
          cases hz'
          simpa using this
      · cases e1
    · cases e1
  | err c fs => rw [e1] at he; cases he
  | bad => rw [e1] at he; cases he
/-- a look-up, by the data -/
theorem dct_look (G : Gof g X) {pins : List (Addr × Obj)} {σ : L2.St} {s : Shared} {Z : Addr → Prop} {H : Hp} (I : Inv X pins σ H s) {x : D} {kvs : List (NestedKey × D)} {k : NestedKey} {y d : V} (v : DV g Z H x kvs k y d) (hl : isLeafKey k = true) (hx : leafD x = true) (ha : ∀ p ∈ kvs, isLeafKey p.1 = true) :
    ∃ a o, d = .ref a ∧ DGet H a y o ∧ (match dget kvs k with | some z => ∃ w, o = some w ∧ Rep g Z H z w [] | none => o = none) := by
  obtain ⟨a, kv, q, o, fp, rfl, ha', e1, rfl, ek, rv, _⟩ := dv_leaf I v hl hx ha
  refine ⟨a, valV kv q, rfl, DGet.k (k := q) ha', ?_⟩
  rw [e1]
  exact dget_K ek rv q
theorem atKey_at (G : Gof g X) {pins : List (Addr × Obj)} {σ : L2.St} {s : Shared} {Z : Addr → Prop} {H : Hp} (I : Inv X pins σ H s) {x : D} {kvs : List (NestedKey × D)} {k : NestedKey} {y d : V} (v : DV g Z H x kvs k y d) (ht : isTupKey k = true) (hd8 : k.depth ≤ 8) (ha : ∀ p ∈ kvs, isTupKey p.1 = true) :
    ∃ a b ys, d = .ref a ∧ y = .ref b ∧ (a == sysModules) = false ∧ s.heap.DictOfH (nestedKind X.prog X.w) a ys ∧ (nestedKind X.prog X.w).is s.heap k b ∧ (match dget kvs k with | some z => ∃ w p, atKey ys k = some p ∧ RelV w p.2 ∧ Rep g Z H z w [] | none => atKey ys k = none) := by
  obtain ⟨fq, rk⟩ := v.key
  obtain ⟨o, fp, rdd⟩ := v.dict
  have hk := (keyIn_ok v.ok).1
  obtain ⟨b, rfl⟩ := tup_rep rk hk ht
  obtain ⟨a, xs, ys, rfl, nv, _⟩ := nv_of G I rdd ha
  exact ⟨a, b, ys, rfl, rfl, nv.nosys, by rw [G.P, G.w]; exact nv.dict, ⟨KRep.is (v := .ref b) (u := .ref b) I (by rw [G.K]; exact rk.krep hk) rfl, hd8⟩, nv.look k⟩
theorem mtr_get1 (G : Gof g X) (hu : X.A.units + 70 < cLine) : MtR X "dict.get" (rMtD g .get1 true) := by
  intro pins s σ H x xs v us Q I rx rs h
  obtain ⟨Z, d, ds, fx, fp, e, hz, rd, rds, he, q⟩ := h
  unfold mtD at he
  split at he <;> first | contradiction | skip
  rename_i o kvs kd hm
  obtain ⟨w', rfl, rw'⟩ := reps1 rds
  cases e1 : keyIn kd kvs with
  | ok k =>
    rw [e1] at he
    cases he
    cases rs with
    | cons r1 rs =>
      cases rs
      have dv : DV g Z H kd kvs k w' x := ⟨⟨_, rw'⟩, ⟨_, _, rd⟩, e1⟩
      rcases (keyIn_ok e1).2 with ⟨hl, hx, ha⟩ | ⟨ht, hd8, ha⟩
      · obtain ⟨a, oo, rfl, dg, lk⟩ := dct_look G I dv hl hx ha
        cases rx
        refine d_get1 (by omega) I dg r1 fun u s' I' ru => ⟨oo.getD .non, H, I', ru, ?_⟩
        cases hd : dget kvs k with
        | some z =>
          rw [hd] at lk q
          obtain ⟨w2, rfl, r2⟩ := lk
          exact q _ H Z [] (post_sc hz r2)
        | none =>
          rw [hd] at lk q
          rw [show oo = none from lk]
          exact q _ H Z [] (post_sc hz .non)
      · obtain ⟨a, b, ys, rfl, rfl, hs, dd, hk, lk⟩ := atKey_at G I dv ht hd8 ha
        cases rx
        cases r1
        refine call_meetsIn PySem.F.slot_dict_get dd.typeIs PySem.F.entry_dict_get (PySem.F.args_dict_get_2 _ _) (meetsH_dict_get (nestedKind X.prog X.w) a b hs) ⟨(show X.A.units + 1 + 8 < cLine by omega), k, ys, hk, dd, ?_⟩
        cases hd : dget kvs k with
        | some z =>
          rw [hd] at lk q
          obtain ⟨w2, p, e2, r2, r3⟩ := lk
          rw [e2]
          exact ⟨w2, H, I.tok _, r2, q _ H Z [] (post_sc hz r3)⟩
        | none =>
          rw [hd] at lk q
          rw [show atKey ys k = none from lk]
          exact ⟨.non, H, I.tok _, rfl, q _ H Z [] (post_sc hz .non)⟩
  | err c fs => rw [e1] at he; cases he
  | bad => rw [e1] at he; cases he
theorem mtr_get2 (G : Gof g X) (hu : X.A.units + 70 < cLine) : MtR X "dict.get" (rMtD g .get2 true) := by
  intro pins s σ H x xs v us Q I rx rs h
  obtain ⟨Z, d, ds, fx, fp, e, hz, rd, rds, he, q⟩ := h
  unfold mtD at he
  split at he <;> first | contradiction | skip
  rename_i o kvs kd dx hm
  obtain ⟨w', w2, f1, f2, rfl, rw', rx2⟩ := reps2 rds
  cases e1 : keyIn kd kvs with
  | ok k =>
    rw [e1] at he
    have he : (if DI.clean dx = true then R.ok ((dget kvs k).getD dx) else .bad) = R.ok e := he
    split at he
    · rename_i hc
      cases he
      have rx3 := Rep.to0 rx2 hc
      cases rs with
      | cons r1 rs =>
        cases rs with
        | cons r2' rs =>
          cases rs
          have dv : DV g Z H kd kvs k w' x := ⟨⟨_, rw'⟩, ⟨_, _, rd⟩, e1⟩
          rcases (keyIn_ok e1).2 with ⟨hl, hx, ha⟩ | ⟨ht, hd8, ha⟩
          · obtain ⟨a, oo, rfl, dg, lk⟩ := dct_look G I dv hl hx ha
            cases rx
            refine d_get2 (by omega) I dg r1 r2' fun u s' I' ru => ⟨oo.getD w2, H, I', ru, ?_⟩
            cases hd : dget kvs k with
            | some z =>
              rw [hd] at lk q
              obtain ⟨w2, rfl, r2⟩ := lk
              exact q _ H Z [] (post_sc hz r2)
            | none =>
              rw [hd] at lk q
              rw [show oo = none from lk]
              exact q _ H Z [] (post_sc hz rx3)
          · obtain ⟨a, b, ys, rfl, rfl, hs, dd, hk, lk⟩ := atKey_at G I dv ht hd8 ha
            cases rx
            cases r1
            refine call_meetsIn PySem.F.slot_dict_get dd.typeIs PySem.F.entry_dict_get (PySem.F.args_dict_get_3 _ _ _) (meetsH_dict_get_default (nestedKind X.prog X.w) a b hs _) ⟨(show X.A.units + 1 + 8 < cLine by omega), k, ys, hk, dd, ?_⟩
            cases hd : dget kvs k with
            | some z =>
              rw [hd] at lk q
              obtain ⟨w2, p, e2, r2, r3⟩ := lk
              rw [e2]
              exact ⟨w2, H, I.tok _, r2, q _ H Z [] (post_sc hz r3)⟩
            | none =>
              rw [hd] at lk q
              rw [show atKey ys k = none from lk]
              exact ⟨w2, H, I.tok _, r2', q _ H Z [] (post_sc hz rx3)⟩
    · cases he
  | err c fs => rw [e1] at he; cases he
  | bad => rw [e1] at he; cases he
end
end DI
/-! DI, what is walked -/
namespace PySem
open Sem (wp)
set_option maxHeartbeats 1000000 in
theorem di_enumerate_new1 {v : Value} {o : Obj} {H : Heap → Prop} (B : Begins v o H) :
    Meets (Builtin.«enumerate.__new__» ⟨[.type "enumerate", v], []⟩) (fun _ R s => H s.heap ∧
      R (.ok (.ret (.ref (s.heap.push o).objs.size))) { s with heap := (s.heap.push o).push { cls := .type "enumerate", data := .fields #[.none, .bool false, .ref s.heap.objs.size, rawInt 0, .none, .none] } }) :=
  .of_wp fun prog w A R s h => by
    obtain ⟨hp, g, d, tk, os⟩ := s; obtain ⟨h1, h⟩ := h
    have hsub := sub_enumerate
    have q1 : ∀ {A' : Around} {E : Value → Shared → Prop} {Q : Value → Shared → Prop}, Q (.ref hp.objs.size) ⟨hp.push o, g, d, tk, os⟩ → wpAny (model prog w) A' (pyIter v) Q E ⟨hp, g, d, tk, os⟩ :=
      fun q => B.iter prog w _ _ ⟨hp, g, d, tk, os⟩ _ h1 q
    wp_walk using q1
    refine wpAny_stack_any fun st => wpAny_pure ?_
    split
    · rename_i c _ _ _ _ _
      cases (c == Value.type "enumerate")
      · wp_walk using q1
        exact ⟨_, rfl, h⟩
      · wp_walk using q1
        exact ⟨_, rfl, h⟩
    · wp_walk using q1
      exact ⟨_, rfl, h⟩
end PySem

namespace DI
open PySem PySem.Spec PyProof.Rows L2
/-- enumerate(v) of anything that begins so -/
theorem enum1_begins {prog : Program} {w : World} {A : Around} {E : Value → Shared → Prop} {s : Shared} {v : Value} {o : Obj} {H : Heap → Prop} {Q : Value → Shared → Prop} (B : Begins v o H) (h1 : H s.heap)
    (h : ∀ h', IsEnum h' (s.heap.objs.size + 1) s.heap.objs.size 0 .none → h'.get? s.heap.objs.size = some o → h'.objs.size = s.heap.objs.size + 2 →
      (∀ b o, s.heap.get? b = some o → h'.get? b = some o) → Q (.ref (s.heap.objs.size + 1)) { s with heap := h' }) :
    wpAny (model prog w) A (call (.type "enumerate") [v]) Q E s := by
  refine callType_new F.called_enumerate (by decide) (F.typeCall_enumerate_1 _) (F.newCall_enumerate_1 _) (fun obj => F.args_object_init_2 obj _) F.entry_enumerate_new
    (di_enumerate_new1 B) ⟨h1, ?_⟩
  have hz : (s.heap.push o).objs.size = s.heap.objs.size + 1 := Heap.size_push ..
  show _ ∧ _
  rw [hz]
  have he : IsEnum ((s.heap.push o).push { cls := .type "enumerate", data := .fields #[.none, .bool false, .ref s.heap.objs.size, rawInt 0, .none, .none] }) (s.heap.objs.size + 1) s.heap.objs.size 0 .none := by
    have := Heap.get?_push_size (s.heap.push o) (o := { cls := .type "enumerate", data := .fields #[.none, .bool false, .ref s.heap.objs.size, rawInt 0, .none, .none] }) rfl
    rw [hz] at this; exact this
  refine ⟨⟨_, he, rfl⟩, h _ he (Heap.get?_push_of_some _ (Heap.get?_push_size _ B.free)) (by rw [Heap.size_push, hz]) fun b o x => Heap.get?_push_of_some _ (Heap.get?_push_of_some _ x)⟩

/-! ### sources: a list, a tuple, a text -/
inductive SK where
  | l (a : Addr) | t (a : Addr) | s (z : Str)
def SK.val : SK → V
  | .l a => .ref a | .t a => .ref a | .s z => .str z
def chV (z : Str) : List V := z.cps.toList.map fun c => V.str ⟨#[c]⟩
/-- its items in the heap H -/
def SK.at (K : PySem.W.Frag) (H : Hp) : SK → List V → Prop
  | .l a, xs => SqL K H a xs
  | .t a, xs => SqT K H a xs
  | .s z, xs => xs = chV z
/-- its iterator stands at i -/
def SK.it (it : Addr) (i : Nat) (h : Heap) : SK → Prop
  | .l a => h.IsListIter it a i ∧ a ≠ it
  | .t a => h.IsTupleIter it a i ∧ a ≠ it
  | .s z => ∃ t, h.IsStrIter it (strIterType z) z t i
theorem SK.it_obj {it : Addr} {i : Nat} {h : Heap} : ∀ {k : SK}, k.it it i h → ∃ o, h.get? it = some o ∧ ∀ v, o.data ≠ .cell v
  | .l _, ⟨⟨o, ho, hc, hd⟩, _⟩ => ⟨o, ho, fun v q => by rw [hd] at q; cases q⟩
  | .t _, ⟨⟨o, ho, hc, hd⟩, _⟩ => ⟨o, ho, fun v q => by rw [hd] at q; cases q⟩
  | .s _, ⟨tk', o, ho, hc, hd⟩ => ⟨o, ho, fun v q => by rw [hd] at q; cases q⟩
theorem SK.it_keep {it : Addr} {i : Nat} {h h' : Heap} (hk : ∀ o, h.get? it = some o → h'.get? it = some o) : ∀ {k : SK}, k.it it i h → k.it it i h'
  | .l _, ⟨st, ne⟩ => ⟨st.at hk, ne⟩
  | .t _, ⟨st, ne⟩ => ⟨st.at hk, ne⟩
  | .s _, ⟨tk', o, ho, r⟩ => ⟨tk', o, hk o ho, r⟩
/-- what it draws in the real heap -/
theorem SK.draws {X : Cx} {pins : List (Addr × Obj)} {σ : L2.St} {H : Hp} {s : Shared} {A : Around} (I : Inv X pins σ H s) (hh : A.handled = none) {it : Addr} {i : Nat} : ∀ {k : SK} {xs : List V}, k.at X.K H xs → k.it it i s.heap →
    ∃ (fp : List Addr) (P : Nat → Value → Prop) (St : Nat → Heap → Prop), Draws X.prog X.w A it fp xs.length P St ∧ St i s.heap ∧ (∀ j u, P j u → ∃ v, xs[j]? = some v ∧ RelV v u) ∧ (∀ j h', St j h' → k.it it j h') ∧ (∀ e, s.heap.get? e ≠ none → e ≠ it → (∀ a, k.val = .ref a → a ≠ e) → e ∉ fp) ∧ it ∈ fp
  | .l a, xs, hq, ⟨st, ne⟩ => by
    obtain ⟨its, rv, p, hz⟩ := I.list hq
    refine ⟨[it, a], fun j v => its.toArray[j]? = some v, fun j h => h.IsListIter it a j ∧ h.IsList a its.toArray, ?_, ⟨st, p.isList⟩, fun j u hj => ?_, fun j h' st' => ⟨st'.1, ne⟩, fun e _ h1 h2 hm => ?_, by simp⟩
    · have := Draws.list (prog := X.prog) (w := X.w) hh it a ne its.toArray
      rw [List.size_toArray, ← rv.length] at this
      exact this
    · have hj' : its[j]? = some u := by simpa using hj
      cases e : xs[j]? with
      | none => rw [rv.none_of e] at hj'; cases hj'
      | some v =>
        obtain ⟨u', e1, r⟩ := rv.get e
        rw [hj'] at e1; cases e1
        exact ⟨v, rfl, r⟩
    · rcases List.mem_cons.mp hm with z | z
      · exact h1 z
      · exact h2 a rfl (List.mem_singleton.mp z).symm
  | .t a, xs, hq, ⟨st, ne⟩ => by
    obtain ⟨its, rv, p, hz⟩ := I.tuple hq
    have p' : s.heap.IsTuple a its.toArray := p
    refine ⟨[it, a], fun j v => its.toArray[j]? = some v, fun j h => h.IsTupleIter it a j ∧ h.IsTuple a its.toArray, ?_, ⟨st, p'⟩, fun j u hj => ?_, fun j h' st' => ⟨st'.1, ne⟩, fun e _ h1 h2 hm => ?_, by simp⟩
    · have := Draws.tuple (prog := X.prog) (w := X.w) hh it a ne its.toArray
      rw [List.size_toArray, ← rv.length] at this
      exact this
    · have hj' : its[j]? = some u := by simpa using hj
      cases e : xs[j]? with
      | none => rw [rv.none_of e] at hj'; cases hj'
      | some v =>
        obtain ⟨u', e1, r⟩ := rv.get e
        rw [hj'] at e1; cases e1
        exact ⟨v, rfl, r⟩
    · rcases List.mem_cons.mp hm with z | z
      · exact h1 z
      · exact h2 a rfl (List.mem_singleton.mp z).symm
  | .s z, xs, hq, ⟨tk', st⟩ => by
    have hq : xs = chV z := hq
    subst hq
    refine ⟨[it], fun j u => ∃ c t, z.cps[j]? = some c ∧ u = .str ⟨#[c]⟩ t, fun j h => h.IsStrIter it (strIterType z) z tk' j, ?_, st, fun j u hj => ?_, fun j h' st' => ⟨tk', st'⟩, fun e _ h1 h2 hm => h1 (List.mem_singleton.mp hm), by simp⟩
    · have := Draws.text (prog := X.prog) (w := X.w) hh it z tk'
      rw [show (chV z).length = z.cps.size by unfold chV; simp]
      exact this
    · obtain ⟨c, u', e1, rfl⟩ := hj
      refine ⟨.str ⟨#[c]⟩, ?_, ⟨u', rfl⟩⟩
      unfold chV
      rw [List.getElem?_map, Array.getElem?_toList, e1]
      rfl
theorem SK.inj {X : Cx} {pins : List (Addr × Obj)} {σ : L2.St} {H : Hp} {s : Shared} (I : Inv X pins σ H s) : ∀ {k : SK} {xs ys : List V}, k.at X.K H xs → k.at X.K H ys → xs = ys
  | .l _, _, _, h, h' => I.list_inj h h'
  | .t _, _, _, h, h' => I.tuple_inj h h'
  | .s _, _, _, h, h' => Eq.trans h (Eq.symm h')
/-- enumerate of a source: each item in a new pair -/
def IteK (K : PySem.W.Frag) (k : SK) : It :=
  ⟨fun i H => ∃ (xs : List V) (x : V), k.at K H xs ∧ xs[i]? = some x, fun i H v H' => ∃ T x, v = .ref T ∧ H T = none ∧ H' = upd H T (.tup [.int (i : Nat), x]) ∧ ∀ xs, k.at K H xs → xs[i]? = some x, fun i H => ∃ xs : List V, k.at K H xs ∧ xs.length = i⟩
theorem turn_enumK {P : Program} {w : World} {K : PySem.W.Frag} {elts : List Expr} {kk : Nat} {tpos : Pos} (k : SK) (e it : Addr) :
    Turn P w K (.Tuple elts kk tpos) (IteK K k) [e, it] e (fun i h => (∃ old, IsEnum h e it ((i : Nat) : Int) old) ∧ k.it it i h ∧ e ≠ it ∧ ∀ a, k.val = .ref a → a ≠ e) where
  mem := by simp
  obj := fun i h st b hb => by
    obtain ⟨⟨old, he⟩, hit, _⟩ := st
    have e' : b = e ∨ b = it := by simpa using hb
    rcases e' with z | z
    · rw [z]; exact ⟨_, he, fun v q => nomatch q⟩
    · rw [z]; exact SK.it_obj hit
  keep := fun i h h' st hk => let ⟨⟨old, he⟩, hi, hne⟩ := st; ⟨⟨old, hk e (by simp) _ he⟩, SK.it_keep (fun o q => hk it (by simp) o q) hi, hne⟩
  item := by
    intro X hP hw hK hc i pins s σ H E I hf st hg
    subst hP hw hK
    obtain ⟨⟨old, he⟩, hit, hne, hka⟩ := st
    obtain ⟨xs, x, hq, hx⟩ := hg
    have hel : e < s.heap.objs.size := Heap.lt_size he
    have hil : it < s.heap.objs.size := by obtain ⟨o, q, _⟩ := SK.it_obj hit; exact Heap.lt_size q
    obtain ⟨fp, Pp, St, D, st0, hP, hS, hn, hm⟩ := SK.draws (A := X.A.in1) I (show X.A.handled = none from I.ok.hd hc) hq hit
    have hlt : i < xs.length := (List.getElem?_eq_some_iff.mp hx).1
    have hef : e ∉ fp := hn e (by rw [he]; exact Option.some_ne_none _) hne hka
    refine wpAny_pyNext_enum_itemC D he st0 hlt hne hef fun u h' tk hPu ho hit' hT hsz hk => ?_
    obtain ⟨v0, e0, ru⟩ := hP i u hPu
    rw [hx] at e0; cases e0
    refine ⟨_, rfl, wpAny_letOwnedTupleGo_enum (s := { s with heap := h', toks := tk + 1 }) ho fun h'' he' sb => ?_⟩
    have hT2 : h''.get? s.heap.objs.size = some { cls := .type "tuple", data := .seq #[.int i tk, u] } := (sb.2 _ (Nat.ne_of_gt hel)).trans hT
    have new : ObjOk X.prog X.w (upd H s.heap.objs.size (.tup [.int (i : Nat), x])) h'' s.heap.objs.size (.tup [.int (i : Nat), x]) :=
      ⟨by show 2 ≤ sizeLine; decide, [.int i tk, u], .cons ⟨_, rfl⟩ (.cons ru .nil), ⟨_, hT2, rfl, _, rfl⟩⟩
    have I1 : Inv X pins σ (upd H s.heap.objs.size (.tup [.int (i : Nat), x])) { s with heap := h'', toks := tk + 1 } :=
      I.turnedNew (ch := [e, it]) (fun b ob hb q => (sb.2 b (fun z => hb (by simp [z]))).trans (hk b ob (fun z => hb (by simp [z])) (fun z => hb (by simp [z])) q)) hf (Nat.le_refl _) new
    refine ⟨.ref s.heap.objs.size, _, I1, rfl, ⟨_, x, rfl, I.hok.fresh (Nat.le_refl _), rfl, fun ys hy => by rw [SK.inj I hy hq]; exact hx⟩, ⟨⟨u, ?_⟩, SK.it_keep (fun o q => (sb.2 it (Ne.symm hne)).trans q) (hS _ _ hit'), hne, hka⟩, fun b hb => ?_⟩
    · have e1 : ((i + 1 : Nat) : Int) = (i : Int) + 1 := by omega
      rw [e1]; exact he'
    · have hb' : b < s.heap.objs.size := by
        have e' : b = e ∨ b = it := by simpa using hb
        rcases e' with z | z
        · rw [z]; exact hel
        · rw [z]; exact hil
      rw [upd_ne (Nat.ne_of_lt hb')]
      exact (hf b hb).1
  done := by
    intro X hP hw hK hc i pins s σ H E I hf st hg
    subst hP hw hK
    obtain ⟨⟨old, he⟩, hit, hne, hka⟩ := st
    obtain ⟨xs, hq, hx⟩ := hg
    obtain ⟨f0, f1, f2, f3, f4, f5⟩ := hf it (by simp)
    obtain ⟨fp, Pp, St, D, st0, hP, hS, hn, hm⟩ := SK.draws (A := X.A.in1) I (show X.A.handled = none from I.ok.hd hc) hq hit
    rw [hx] at D
    exact wpAny_pyNext_enum_endD D he st0 fun h' eb => ⟨rfl, I.turned (t' := s.toks) (fun b o hb q => eb b o hb q) f0 f1 f3 f4 f5⟩
  self := fun A i s Q E st h => let ⟨⟨_, he⟩, _⟩ := st; wpAny_pyIter_enum he h
/-- what is in the heap of a source -/
theorem SK.lt {X : Cx} {pins : List (Addr × Obj)} {σ : L2.St} {H : Hp} {s : Shared} (I : Inv X pins σ H s) : ∀ {k : SK} {xs : List V}, k.at X.K H xs → ∀ a, k.val = .ref a → a < s.heap.objs.size
  | .l a, xs, hq, b, e => by
    cases e
    obtain ⟨its, rv, p, hz⟩ := I.list hq
    exact p.lt
  | .t a, xs, hq, b, e => by
    cases e
    obtain ⟨its, rv, p, hz⟩ := I.tuple hq
    obtain ⟨o, ho, _⟩ := id p
    exact Heap.lt_size ho
  | .s z, xs, hq, b, e => nomatch e
/-- iter(v) begins -/
theorem SK.begins {X : Cx} {pins : List (Addr × Obj)} {σ : L2.St} {H : Hp} {s : Shared} (I : Inv X pins σ H s) {u : Value} : ∀ {k : SK} {xs : List V}, k.at X.K H xs → RelV k.val u →
    ∃ (o : Obj) (Hc : Heap → Prop), Begins u o Hc ∧ Hc s.heap ∧ ∀ (h' : Heap) (it : Addr), s.heap.objs.size ≤ it → h'.get? it = some o → k.it it 0 h'
  | .l a, xs, hq, r => by
    cases r
    have hlt := SK.lt I hq a rfl
    obtain ⟨its, rv, p, hz⟩ := I.list hq
    exact ⟨_, _, begins_list a its.toArray, p.isList, fun h' it hge e => ⟨⟨_, e, rfl, rfl⟩, Nat.ne_of_lt (Nat.lt_of_lt_of_le hlt hge)⟩⟩
  | .t a, xs, hq, r => by
    cases r
    have hlt := SK.lt I hq a rfl
    obtain ⟨its, rv, p, hz⟩ := I.tuple hq
    exact ⟨_, _, begins_tuple a its.toArray, p, fun h' it hge e => ⟨⟨_, e, rfl, rfl⟩, Nat.ne_of_lt (Nat.lt_of_lt_of_le hlt hge)⟩⟩
  | .s z, xs, hq, r => by
    obtain ⟨t, rfl⟩ := r
    exact ⟨_, _, begins_text z t, trivial, fun h' it hge e => ⟨t, _, e, rfl, rfl⟩⟩
def iEnumK (K : PySem.W.Frag) (ta : TA) : TI := fun σ H R => ta σ H fun vs H1 => ∃ (k : SK) (xs : List V), vs = [k.val] ∧ k.at K H1 xs ∧ R (IteK K k) H1
theorem pi_enumK {X : Cx} {e : Expr} {ta : TA} {p pos tpos : Pos} {elts : List Expr} {kk : Nat} (hg : Gl X "enumerate") (hm : X.mg "enumerate" = none) (ha : PA X [e] ta) (hs : starEach [e] X.env = [(false, eval e X.env)]) :
    PI X (.Tuple elts kk tpos) (.Call (.Name "enumerate" p) [e] [] pos) (iEnumK X.K ta) := by
  refine ⟨fun pins s σ H R I h => ?_⟩
  refine Call_ (ld_blt I hg hm boot_enumerate (PyProof.Rows.callWith_type1 (thn (ha.run pos pins s σ H _ I h) fun us s1 ⟨vs, H1, I1, r1, q1⟩ => ?_) hs rfl))
  obtain ⟨k, xs, ex, hq, q⟩ := q1
  subst ex
  cases r1 with
  | cons r rr =>
    cases rr
    obtain ⟨o, Hc, B, hc, hi⟩ := SK.begins I1 hq r
    have hlt := SK.lt I1 hq
    refine enum1_begins B hc fun h' he hit hsz hk => wpAny_pyIter_enum he ?_
    have I2 : Inv X pins σ H1 { s1 with heap := h' } := I1.kept (t' := s1.toks) hk
    refine ⟨s1.heap.objs.size + 1, [s1.heap.objs.size + 1, s1.heap.objs.size], _, _, H1, rfl, I2, turn_enumK k (s1.heap.objs.size + 1) s1.heap.objs.size, ⟨⟨.none, he⟩, hi h' _ (Nat.le_refl _) hit, Nat.succ_ne_self _, fun a ea => Nat.ne_of_lt (Nat.lt_succ_of_lt (hlt a ea))⟩, fun b hb => ?_, q⟩
    have e' : b = s1.heap.objs.size + 1 ∨ b = s1.heap.objs.size := by simpa using hb
    have hle : s1.heap.objs.size ≤ b := by
      rcases e' with z | z
      · rw [z]; exact Nat.le_add_right _ _
      · rw [z]; exact Nat.le_refl _
    exact I1.fpOk hle (I1.hok.fresh hle)
/-- a source itself, walked -/
def ItK (K : PySem.W.Frag) : SK → It
  | .l a => Itl K a
  | .t a => Itt K a
  | .s z => Its z
def iSeq (K : PySem.W.Frag) (te : TE) : TI := fun σ H R => te σ H fun x H1 => ∃ (k : SK) (xs : List V), x = k.val ∧ k.at K H1 xs ∧ R (ItK K k) H1
theorem pi_seq {X : Cx} {tg e : Expr} {te : TE} (he : PE X e te) : PI X tg e (iSeq X.K te) := by
  refine ⟨fun pins s σ H R I h => ?_⟩
  refine thn (he.run pins s σ H _ I h) fun v s1 ⟨y, H1, I1, r1, k, xs, ex, hq, q⟩ => ?_
  subst ex
  cases k with
  | l a =>
    cases r1
    obtain ⟨its, rv, p, hz⟩ := I1.list hq
    refine wpAny_pyIter_list p.isList ?_
    refine ⟨s1.heap.objs.size, [s1.heap.objs.size], _, _, H1, rfl, I1.kept (t' := s1.toks) fun b o e => Heap.get?_push_of_some _ e, turn_list a _, ⟨_, Heap.get?_push_size _ rfl, rfl, rfl⟩, fun b hb => ?_, q⟩
    have e : b = s1.heap.objs.size := by simpa using hb
    subst e
    exact I1.fpOk (Nat.le_refl _) (I1.hok.fresh (Nat.le_refl _))
  | t a =>
    cases r1
    obtain ⟨its, rv, p, hz⟩ := I1.tuple hq
    refine wpAny_pyIter_tuple (show s1.heap.IsTuple a its.toArray from p) ?_
    refine ⟨s1.heap.objs.size, [s1.heap.objs.size], _, _, H1, rfl, I1.kept (t' := s1.toks) fun b o e => Heap.get?_push_of_some _ e, turn_tuple a _, ⟨_, Heap.get?_push_size _ rfl, rfl, rfl⟩, fun b hb => ?_, q⟩
    have e : b = s1.heap.objs.size := by simpa using hb
    subst e
    exact I1.fpOk (Nat.le_refl _) (I1.hok.fresh (Nat.le_refl _))
  | s x =>
    obtain ⟨t, rfl⟩ := r1
    cases ha : x.cps.all (· < 128)
    · exact wpAny_pyIter_wide ha (pi_one (tk := s1.toks) I1 _ (turn_str _ x t "str_iterator" (.inr rfl)) ⟨_, Heap.get?_push_size _ rfl, rfl, rfl⟩ q)
    · exact wpAny_pyIter_ascii ha (pi_one (tk := s1.toks) I1 _ (turn_str _ x t "str_ascii_iterator" (.inl rfl)) ⟨_, Heap.get?_push_size _ rfl, rfl, rfl⟩ q)
end DI
/-! DI, walks upon data -/
namespace DI
open PySem PySem.Spec PyProof.Rows L2

structure Wk (g : Gv) (Z : Addr → Prop) (fp : List Addr) (H : Hp) (J : It) (xs : List D) : Prop where
  go : ∀ H' i, Kp Z fp H H' → i < xs.length → J.go i H'
  stop : ∀ H', Kp Z fp H H' → J.stop xs.length H'
  yld : ∀ H' H'' i v x, Kp Z fp H H' → xs[i]? = some x → J.yld i H' v H'' → Same H' H'' ∧ Rep g Z H'' x v []

section
variable {X : Cx} {g : Gv} {W : L2.WX} {Z : Addr → Prop} {H : Hp} {fp : List Addr}
theorem reps_chars (z : List Nat) : Reps g Z H (z.map oneOf) (z.map fun c => V.str ⟨#[c]⟩) [] := by
  induction z with
  | nil => exact .nil
  | cons c r ih => exact .cons (f := []) (fs := []) (.str _) ih
theorem src_lst {o : Bool} {ys : List D} {v : V} {xs : List D} (r : Rep g Z H (.lst o ys) v fp) (e : itemsD (.lst o ys) = .ok xs) : ∃ a vs, v = .ref a ∧ (∀ H', Kp Z fp H H' → SqL g.K H' a vs) ∧ Reps g Z H xs vs [] := by
  have e : (if cleanL ys = true then R.ok ys else .bad) = .ok xs := e
  by_cases hc : cleanL ys = true
  · rw [if_pos hc] at e
    cases e
    cases r with
    | @lst a vs _ _ fs _ h hs w => exact ⟨a, vs, rfl, fun H' k => .inl (.inl (w.at k h)), hs.to0 hc⟩
    | @lstR a vs _ h hs => exact ⟨a, vs, rfl, fun H' k => (sqF_keep k.frz h).sqL, hs⟩
  · rw [if_neg hc] at e; cases e
theorem src_tup {ys : List D} {v : V} {xs : List D} (r : Rep g Z H (.tup ys) v fp) (e : itemsD (.tup ys) = .ok xs) : ∃ a vs, v = .ref a ∧ (∀ H', Kp Z fp H H' → SqT g.K H' a vs) ∧ Reps g Z H xs vs [] := by
  have e : (if cleanL ys = true then R.ok ys else .bad) = .ok xs := e
  by_cases hc : cleanL ys = true
  · rw [if_pos hc] at e
    cases e
    obtain ⟨a, vs, rfl, h, hs⟩ := rep_tup r
    exact ⟨a, vs, rfl, fun H' k => sqT_keep k.tup h, hs.to0 hc⟩
  · rw [if_neg hc] at e; cases e
theorem src_of {d : D} {v : V} {xs : List D} (r : Rep g Z H d v fp) (e : itemsD d = .ok xs) : ∃ (k : SK) (vs : List V), v = k.val ∧ (∀ H', Kp Z fp H H' → k.at g.K H' vs) ∧ Reps g Z H xs vs [] := by
  cases d with
  | lst o ys =>
    obtain ⟨a, vs, rfl, h, hs⟩ := src_lst r e
    exact ⟨.l a, vs, rfl, h, hs⟩
  | tup ys =>
    obtain ⟨a, vs, rfl, h, hs⟩ := src_tup r e
    exact ⟨.t a, vs, rfl, h, hs⟩
  | str z =>
    have e : R.ok (z.cps.toList.map oneOf) = .ok xs := e
    cases e
    obtain ⟨rfl, _⟩ := rep_str r
    exact ⟨.s z, chV z, rfl, fun H' k => rfl, reps_chars _⟩
  | _ => cases e
theorem kp_nil {H' : Hp} (k : Kp Z fp H H') : Kp Z [] H H' := k.out
theorem wk_seq {k : SK} {xs : List D} {vs : List V} (hk : ∀ H', Kp Z fp H H' → k.at g.K H' vs) (rs : Reps g Z H xs vs []) : Wk g Z fp H (ItK g.K k) xs := by
  have hl := rs.length
  refine ⟨fun H' i kp hi => ?_, fun H' kp => ?_, fun H' H'' i v x kp hx y => ?_⟩
  · obtain ⟨v, f, e, _⟩ := rs.get i xs[i] (List.getElem?_eq_getElem hi)
    have hat := hk H' kp
    cases k with
    | l a => exact ⟨vs, v, hat, e⟩
    | t a => exact ⟨vs, v, hat, e⟩
    | s z =>
      have hat : vs = chV z := hat
      subst hat
      have : (chV z).length = z.cps.size := by unfold chV; simp
      show i < z.cps.size
      omega
  · have hat := hk H' kp
    cases k with
    | l a => exact ⟨vs, hat, by omega⟩
    | t a => exact ⟨vs, hat, by omega⟩
    | s z =>
      have hat : vs = chV z := hat
      subst hat
      have : (chV z).length = z.cps.size := by unfold chV; simp
      show z.cps.size ≤ xs.length
      omega
  · have hat := hk H' kp
    obtain ⟨u, f, e, r, hf, _⟩ := rs.get i x hx
    have ef : f = [] := List.eq_nil_iff_forall_not_mem.mpr fun a ha => nomatch hf a ha
    subst ef
    have r2 := r.keep (fun _ z => z) kp.out
    cases k with
    | l a =>
      obtain ⟨rfl, q⟩ := y
      have e2 := q vs hat
      rw [e] at e2
      cases e2
      exact ⟨same_refl _, r2⟩
    | t a =>
      obtain ⟨rfl, q⟩ := y
      have e2 := q vs hat
      rw [e] at e2
      cases e2
      exact ⟨same_refl _, r2⟩
    | s z =>
      have hat : vs = chV z := hat
      subst hat
      obtain ⟨rfl, c, q, rfl⟩ := y
      unfold chV at e
      rw [List.getElem?_map, Array.getElem?_toList, q] at e
      cases e
      exact ⟨same_refl _, r2⟩
theorem enumL_length : ∀ (k : Nat) (xs : List D), (enumL k xs).length = xs.length
  | _, [] => rfl
  | k, x :: xs => by rw [enumL, List.length_cons, List.length_cons, enumL_length]
theorem enumL_get : ∀ (k : Nat) (xs : List D) (i : Nat), (enumL k xs)[i]? = xs[i]?.map fun x => .tup [.int ((k + i : Nat) : Int), x]
  | _, [], _ => rfl
  | k, x :: xs, 0 => rfl
  | k, x :: xs, i + 1 => by
    rw [enumL, List.getElem?_cons_succ, List.getElem?_cons_succ, enumL_get (k + 1) xs i, show k + 1 + i = k + (i + 1) by omega]
theorem wk_enum {k : SK} {xs : List D} {vs : List V} (hk : ∀ H', Kp Z fp H H' → k.at g.K H' vs) (rs : Reps g Z H xs vs []) : Wk g Z fp H (IteK g.K k) (enumL 0 xs) := by
  have hl := rs.length
  refine ⟨fun H' i kp hi => ?_, fun H' kp => ?_, fun H' H'' i v x kp hx y => ?_⟩
  · rw [enumL_length] at hi
    obtain ⟨v, f, e, _⟩ := rs.get i xs[i] (List.getElem?_eq_getElem hi)
    exact ⟨vs, v, hk H' kp, e⟩
  · exact ⟨vs, hk H' kp, by rw [enumL_length]; exact hl.symm⟩
  · rw [enumL_get, Nat.zero_add] at hx
    cases hx0 : xs[i]? with
    | none => rw [hx0] at hx; cases hx
    | some x0 =>
      rw [hx0] at hx
      cases hx
      obtain ⟨u, f, e, r, hf, _⟩ := rs.get i x0 hx0
      have ef : f = [] := List.eq_nil_iff_forall_not_mem.mpr fun a ha => nomatch hf a ha
      subst ef
      have r2 := r.keep (fun _ z => z) kp.out
      obtain ⟨T, y, rfl, nT, rfl, q⟩ := y
      have e2 := q vs (hk H' kp)
      rw [e] at e2
      cases e2
      have s := same_upd (o := .tup [.int (i : Nat), u]) nT
      refine ⟨s, .tup (.inl (.inl upd_same)) ?_⟩
      exact .cons (f := []) (fs := []) (.int _) (.cons (f := []) (fs := []) (r2.same (fun _ z => z) s) .nil)
theorem rngL_get (lo : Int) (n i : Nat) : (rngL lo n)[i]? = if i < n then some (.int (lo + (i : Int))) else none := by
  unfold rngL
  rw [List.getElem?_map]
  by_cases h : i < n
  · rw [List.getElem?_range h, if_pos h]; rfl
  · rw [List.getElem?_eq_none (by simp; omega), if_neg h]; rfl
theorem rngL_length (lo : Int) (n : Nat) : (rngL lo n).length = n := by unfold rngL; simp
theorem wk_rng (lo : Int) (n : Nat) : Wk g Z fp H (Itr lo n) (rngL lo n) := by
  refine ⟨fun H' i kp hi => ?_, fun H' kp => ?_, fun H' H'' i v x kp hx y => ?_⟩
  · rw [rngL_length] at hi; exact hi
  · rw [rngL_length]; exact Nat.le_refl n
  · obtain ⟨rfl, rfl⟩ := y
    rw [rngL_get] at hx
    by_cases h : i < n
    · rw [if_pos h] at hx; cases hx
      exact ⟨same_refl _, .int _⟩
    · rw [if_neg h] at hx; cases hx
theorem zipL_get : ∀ (xs ys : List D) (i : Nat), (zipL xs ys)[i]? = (xs[i]?).bind fun x => (ys[i]?).map fun y => .tup [x, y]
  | [], _, _ => by rw [zipL]; rfl; intros; contradiction
  | x :: xs, [], i => by
    rw [zipL]
    · cases (x :: xs)[i]? <;> rfl
    · intros; contradiction
  | x :: xs, y :: ys, 0 => rfl
  | x :: xs, y :: ys, i + 1 => by
    rw [zipL, List.getElem?_cons_succ, List.getElem?_cons_succ, List.getElem?_cons_succ, zipL_get xs ys i]
theorem zipL_length : ∀ (xs ys : List D), (zipL xs ys).length = min xs.length ys.length
  | [], _ => by rw [zipL]; simp; intros; contradiction
  | x :: xs, [] => by rw [zipL]; simp; intros; contradiction
  | x :: xs, y :: ys => by
    rw [zipL, List.length_cons, List.length_cons, List.length_cons, zipL_length xs ys]; omega
/-- a walk of pairs of two sequences, as the kit has it -/
structure ZipIt (J : It) (atx aty : Hp → List V → Prop) : Prop where
  go : ∀ i H xs ys x y, atx H xs → aty H ys → xs[i]? = some x → ys[i]? = some y → J.go i H
  stop : ∀ i H xs ys, atx H xs → aty H ys → (xs.length ≤ i ∨ ys.length ≤ i) → J.stop i H
  yld : ∀ i H v H', J.yld i H v H' → ∃ T x y, v = .ref T ∧ H T = none ∧ H' = upd H T (.tup [x, y]) ∧ (∀ xs, atx H xs → xs[i]? = some x) ∧ ∀ ys, aty H ys → ys[i]? = some y
theorem zipItT (K : PySem.W.Frag) (a b : Addr) : ZipIt (RZ.ItzT K a b) (fun H xs => SqT K H a xs) (fun H ys => SqT K H b ys) :=
  ⟨fun i H xs ys x y h1 h2 h3 h4 => ⟨xs, ys, x, y, h1, h2, h3, h4⟩, fun i H xs ys h1 h2 h3 => ⟨xs, ys, h1, h2, h3⟩, fun i H v H' h => h⟩
theorem zipItL (K : PySem.W.Frag) (a b : Addr) : ZipIt (Itz K a b) (fun H xs => SqL K H a xs) (fun H ys => SqL K H b ys) :=
  ⟨fun i H xs ys x y h1 h2 h3 h4 => ⟨xs, ys, x, y, h1, h2, h3, h4⟩, fun i H xs ys h1 h2 h3 => ⟨xs, ys, h1, h2, h3⟩, fun i H v H' h => h⟩
theorem wk_zip {J : It} {atx aty : Hp → List V → Prop} {xs ys : List D} {vs us : List V} (J0 : ZipIt J atx aty) (h1 : ∀ H', Kp Z fp H H' → atx H' vs) (h2 : ∀ H', Kp Z fp H H' → aty H' us) (r1 : Reps g Z H xs vs []) (r2 : Reps g Z H ys us []) : Wk g Z fp H J (zipL xs ys) := by
  have l1 := r1.length
  have l2 := r2.length
  refine ⟨fun H' i kp hi => ?_, fun H' kp => ?_, fun H' H'' i v x kp hx y => ?_⟩
  · rw [zipL_length] at hi
    obtain ⟨v, f, e, _⟩ := r1.get i xs[i] (List.getElem?_eq_getElem (by omega))
    obtain ⟨v', f', e', _⟩ := r2.get i ys[i] (List.getElem?_eq_getElem (by omega))
    exact J0.go i H' vs us v v' (h1 H' kp) (h2 H' kp) e e'
  · refine J0.stop _ H' vs us (h1 H' kp) (h2 H' kp) ?_
    rw [zipL_length]
    omega
  · rw [zipL_get] at hx
    cases hx0 : xs[i]? with
    | none => rw [hx0] at hx; cases hx
    | some x0 =>
      cases hy0 : ys[i]? with
      | none => rw [hx0, hy0] at hx; cases hx
      | some y0 =>
        rw [hx0, hy0] at hx
        cases hx
        obtain ⟨u, f, e, r, hf, _⟩ := r1.get i x0 hx0
        have ef : f = [] := List.eq_nil_iff_forall_not_mem.mpr fun a ha => nomatch hf a ha
        subst ef
        obtain ⟨u', f', e', r', hf', _⟩ := r2.get i y0 hy0
        have ef' : f' = [] := List.eq_nil_iff_forall_not_mem.mpr fun a ha => nomatch hf' a ha
        subst ef'
        have q1 := r.keep (fun _ z => z) kp.out
        have q2 := r'.keep (fun _ z => z) kp.out
        obtain ⟨T, x, y, rfl, nT, rfl, qx, qy⟩ := J0.yld _ _ _ _ y
        have e2 := qx vs (h1 H' kp)
        rw [e] at e2
        cases e2
        have e3 := qy us (h2 H' kp)
        rw [e'] at e3
        cases e3
        have s := same_upd (o := .tup [u, u']) nT
        refine ⟨s, .tup (.inl (.inl upd_same)) ?_⟩
        exact .cons (f := []) (fs := []) (q1.same (fun _ z => z) s) (.cons (f := []) (fs := []) (q2.same (fun _ z => z) s) .nil)

/-- the reading of what is walked -/
def tIW (g : Gv) (W : L2.WX) (b : Bool) (f : Sl → R (List D)) : TI := fun σ H R => ∃ H0 Z fps σl, SR g H0 Z fps σl σ H ∧ Out g W Z σ H (f σl) fun xs => ∀ J H' Z' fp, Same H H' → Zx Z Z' H H' → Wk g Z' fp H' J xs → (∀ a ∈ fp, H' a ≠ none) → (b = true → ∀ a ∈ fp, H a = none ∧ ¬ Z' a) → R J H'
variable {e e2 tg : Expr} {f : Sl → R D} {b : Bool} {p pos tpos : Pos} {elts : List Expr} {kk : Nat}
theorem items_noerr (d : D) : ∀ c fs, itemsD d ≠ .err c fs := fun c fs e => by
  cases d with
  | lst o ys =>
    have e : (if cleanL ys = true then R.ok ys else .bad) = .err c fs := e
    by_cases hc : cleanL ys = true
    · rw [if_pos hc] at e; cases e
    · rw [if_neg hc] at e; cases e
  | tup ys =>
    have e : (if cleanL ys = true then R.ok ys else .bad) = .err c fs := e
    by_cases hc : cleanL ys = true
    · rw [if_pos hc] at e; cases e
    · rw [if_neg hc] at e; cases e
  | _ => cases e
theorem si_seq (G : Gof g X) (he : PE X e (tI g W b f)) : PI X tg e (tIW g W b fun σ => (f σ).bind itemsD) := (pi_seq he).imp fun σ H Q q => by
  obtain ⟨H0, Z, fps, σl, sr, o⟩ := q
  refine ⟨H0, Z, fps, σl, sr, o.bind.imp fun d h v H' Z' fp p => ?_⟩
  cases hi : itemsD d with
  | ok xs =>
    rw [hi] at h
    obtain ⟨k, vs, rfl, hk, rs⟩ := src_of p.rep hi
    rw [G.K]
    exact ⟨k, vs, rfl, hk H' (.of_same (same_refl H')), h _ H' Z' fp p.same p.zx (wk_seq hk rs) (Rep.there p.rep) fun e => (p.own e).2⟩
  | err c fs => exact absurd hi (items_noerr d c fs)
  | bad => rw [hi] at h; exact h.elim
def enumD : List D → R (List D)
  | [x] => (itemsD x).bind fun xs => .ok (enumL 0 xs)
  | _ => .bad
theorem si_enum (G : Gof g X) (hg : Gl X "enumerate") (hm : X.mg "enumerate" = none) (ha : PA X [e] (tIA g W b f)) (hs : starEach [e] X.env = [(false, eval e X.env)]) :
    PI X (.Tuple elts kk tpos) (.Call (.Name "enumerate" p) [e] [] pos) (tIW g W b fun σ => (f σ).bind fun r => (tupOf r).bind enumD) := (pi_enumK hg hm ha hs).imp fun σ H Q q => by
  obtain ⟨H0, Z, fps, σl, sr, o⟩ := q
  refine ⟨H0, Z, fps, σl, sr, o.bind.imp fun r h => ?_⟩
  cases r with
  | tup ds =>
    have h : Out g W Z σ H (enumD ds) _ := h
    refine ⟨ds, rfl, fun vs H' Z' fp p => ?_⟩
    cases ds with
    | nil => exact h.elim
    | cons x r' =>
      cases r' with
      | cons y r' => exact h.elim
      | nil =>
        have h : Out g W Z σ H ((itemsD x).bind fun xs => .ok (enumL 0 xs)) _ := h
        obtain ⟨xs, hi, h⟩ := h.bind.okOf (items_noerr x)
        obtain ⟨v, rfl, rx⟩ := reps1 p.rep
        obtain ⟨k, vs, rfl, hk, rs⟩ := src_of rx hi
        rw [G.K]
        exact ⟨k, vs, rfl, hk H' (.of_same (same_refl H')), h _ H' Z' fp p.same p.zx (wk_enum hk rs) (Reps.there p.rep) fun e => (p.own e).2⟩
  | _ => exact h.elim
noncomputable def rng1D : List D → R (List D)
  | [.int i] => if small62 i = true then .ok (rngL 0 i.toNat) else .bad
  | _ => .bad
noncomputable def rng2D : List D → R (List D)
  | [.int i, .int j] => if (small62 i && small62 j) = true then .ok (rngL i (j - i).toNat) else .bad
  | _ => .bad
theorem small62_iff {i : Int} (h : small62 i = true) : -(2 ^ 62) ≤ i ∧ i < 2 ^ 62 := by
  unfold small62 at h
  simp only [Bool.and_eq_true, decide_eq_true_eq, lim62_eq] at h
  exact h
theorem rng1_inv {σ : L2.St} {ds : List D} {P : List D → Prop} (h : Out g W Z σ H (rng1D ds) P) : ∃ i, ds = [.int i] ∧ small62 i = true ∧ P (rngL 0 i.toNat) := by
  unfold rng1D at h
  split at h
  · obtain ⟨hs, h⟩ := Out.guard h
    exact ⟨_, rfl, hs, h⟩
  · exact h.elim
theorem rng2_inv {σ : L2.St} {ds : List D} {P : List D → Prop} (h : Out g W Z σ H (rng2D ds) P) : ∃ i j, ds = [.int i, .int j] ∧ (small62 i && small62 j) = true ∧ P (rngL i (j - i).toNat) := by
  unfold rng2D at h
  split at h
  · obtain ⟨hs, h⟩ := Out.guard h
    exact ⟨_, _, rfl, hs, h⟩
  · exact h.elim
theorem si_rng1 (hg : Gl X "range") (hm : X.mg "range" = none) (ha : PA X [e] (tIA g W b f)) (hs : starEach [e] X.env = [(false, eval e X.env)]) :
    PI X tg (.Call (.Name "range" p) [e] [] pos) (tIW g W true fun σ => (f σ).bind fun r => (tupOf r).bind rng1D) := (pi_range1 hg hm ha hs).imp fun σ H Q q => by
  obtain ⟨H0, Z, fps, σl, sr, o⟩ := q
  refine ⟨H0, Z, fps, σl, sr, o.bind.imp fun r h => ?_⟩
  cases r with
  | tup ds =>
    have h : Out g W Z σ H (rng1D ds) _ := h
    refine ⟨ds, rfl, fun vs H' Z' fp p => ?_⟩
    obtain ⟨i, rfl, hs, h⟩ := rng1_inv h
    obtain ⟨v, rfl, rx⟩ := reps1 p.rep
    obtain ⟨rfl, _⟩ := rep_int rx
    obtain ⟨h1, h2⟩ := small62_iff hs
    exact ⟨i, rfl, h1, h2, h _ H' Z' [] p.same p.zx (wk_rng 0 _) (fun a m => nomatch m) fun _ a m => nomatch m⟩
  | _ => exact h.elim
theorem si_rng2 (hg : Gl X "range") (hm : X.mg "range" = none) (ha : PA X [e, e2] (tIA g W b f)) (hs : starEach [e, e2] X.env = [(false, eval e X.env), (false, eval e2 X.env)]) (hs2 : starEach [e2] X.env = [(false, eval e2 X.env)]) :
    PI X tg (.Call (.Name "range" p) [e, e2] [] pos) (tIW g W true fun σ => (f σ).bind fun r => (tupOf r).bind rng2D) := (pi_range2 hg hm ha hs hs2).imp fun σ H Q q => by
  obtain ⟨H0, Z, fps, σl, sr, o⟩ := q
  refine ⟨H0, Z, fps, σl, sr, o.bind.imp fun r h => ?_⟩
  cases r with
  | tup ds =>
    have h : Out g W Z σ H (rng2D ds) _ := h
    refine ⟨ds, rfl, fun vs H' Z' fp p => ?_⟩
    obtain ⟨i, j, rfl, hs, h⟩ := rng2_inv h
    simp only [Bool.and_eq_true] at hs
    obtain ⟨v, u, f1, f2, rfl, rx, ry⟩ := reps2 p.rep
    obtain ⟨rfl, _⟩ := rep_int rx
    obtain ⟨rfl, _⟩ := rep_int ry
    obtain ⟨h1, h2⟩ := small62_iff hs.1
    obtain ⟨h3, h4⟩ := small62_iff hs.2
    exact ⟨i, j, rfl, ⟨h1, h2, h3, h4⟩, h _ H' Z' [] p.same p.zx (wk_rng i _) (fun a m => nomatch m) fun _ a m => nomatch m⟩
  | _ => exact h.elim
def zipD : List D → R (List D)
  | [.lst o xs, .lst o' ys] => (itemsD (.lst o xs)).bind fun xs => (itemsD (.lst o' ys)).bind fun ys => .ok (zipL xs ys)
  | [.tup xs, .tup ys] => (itemsD (.tup xs)).bind fun xs => (itemsD (.tup ys)).bind fun ys => .ok (zipL xs ys)
  | _ => .bad
theorem kp_left {fp fp' : List Addr} {H' : Hp} (k : Kp Z (fp ++ fp') H H') : Kp Z fp H H' := k.sub fun a m => List.mem_append_left _ m
theorem reps2' {x y : D} {vs : List V} (r : Reps g Z H [x, y] vs fp) : ∃ v u f f', vs = [v, u] ∧ Rep g Z H x v f ∧ Rep g Z H y u f' ∧ (∀ a ∈ f, a ∈ fp) ∧ ∀ a ∈ f', a ∈ fp := by
  cases r with
  | cons h hs =>
    obtain ⟨u, rfl, h2⟩ := reps1 hs
    exact ⟨_, _, _, _, rfl, h, h2, fun a m => List.mem_append_left _ m, fun a m => List.mem_append_right _ m⟩
theorem zip_inv {σ : L2.St} {ds : List D} {P : List D → Prop} (h : Out g W Z σ H (zipD ds) P) : ∃ x y xs ys, ds = [x, y] ∧ itemsD x = .ok xs ∧ itemsD y = .ok ys ∧ P (zipL xs ys) ∧ ((∃ o l o' l', x = .lst o l ∧ y = .lst o' l') ∨ ∃ l l', x = .tup l ∧ y = .tup l') := by
  unfold zipD at h
  split at h
  · obtain ⟨xs, hi, h⟩ := h.bind.okOf (items_noerr _)
    obtain ⟨ys, hj, h⟩ := h.bind.okOf (items_noerr _)
    exact ⟨_, _, xs, ys, rfl, hi, hj, h, .inl ⟨_, _, _, _, rfl, rfl⟩⟩
  · obtain ⟨xs, hi, h⟩ := h.bind.okOf (items_noerr _)
    obtain ⟨ys, hj, h⟩ := h.bind.okOf (items_noerr _)
    exact ⟨_, _, xs, ys, rfl, hi, hj, h, .inr ⟨_, _, rfl, rfl⟩⟩
  · exact h.elim
theorem si_zip (G : Gof g X) (hg : Gl X "zip") (hm : X.mg "zip" = none) (ha : PA X [e, e2] (tIA g W b f)) (hs : starEach [e, e2] X.env = (false, eval e X.env) :: starEach [e2] X.env) (hpl : (backTo pos (starEach [e2] X.env)).any (·.1) = false) :
    PI X (.Tuple elts kk tpos) (.Call (.Name "zip" p) [e, e2] [] pos) (tIW g W b fun σ => (f σ).bind fun r => (tupOf r).bind zipD) := (RZ.pi_zipA hg hm ha hs hpl).imp fun σ H Q q => by
  obtain ⟨H0, Z, fps, σl, sr, o⟩ := q
  refine ⟨H0, Z, fps, σl, sr, o.bind.imp fun r h => ?_⟩
  cases r with
  | tup ds =>
    have h : Out g W Z σ H (zipD ds) _ := h
    refine ⟨ds, rfl, fun vs H' Z' fp p => ?_⟩
    obtain ⟨x, y, xs, ys, rfl, hi, hj, h, hd⟩ := zip_inv h
    obtain ⟨v, u, f1, f2, rfl, rx, ry, hf1, hf2⟩ := reps2' p.rep
    have s0 : Kp Z' fp H' H' := .of_same (same_refl H')
    have fin := fun J wk => h J H' Z' fp p.same p.zx wk (Reps.there p.rep) fun e => (p.own e).2
    rcases hd with ⟨o1, l1, o2, l2, rfl, rfl⟩ | ⟨l1, l2, rfl, rfl⟩
    · obtain ⟨a, vs, rfl, hk, rs⟩ := src_lst rx hi
      obtain ⟨b, us, rfl, hk', rs'⟩ := src_lst ry hj
      rw [G.K]
      exact ⟨a, b, vs, us, rfl, .inl ⟨hk H' (s0.sub hf1), hk' H' (s0.sub hf2), fin _ (wk_zip (zipItL g.K a b) (fun H'' k => hk H'' (k.sub hf1)) (fun H'' k => hk' H'' (k.sub hf2)) rs rs')⟩⟩
    · obtain ⟨a, vs, rfl, hk, rs⟩ := src_tup rx hi
      obtain ⟨b, us, rfl, hk', rs'⟩ := src_tup ry hj
      rw [G.K]
      exact ⟨a, b, vs, us, rfl, .inr ⟨hk H' (s0.sub hf1), hk' H' (s0.sub hf2), fin _ (wk_zip (zipItT g.K a b) (fun H'' k => hk H'' (k.sub hf1)) (fun H'' k => hk' H'' (k.sub hf2)) rs rs')⟩⟩
  | _ => exact h.elim
end
end DI
/-! DI, statements -/
namespace DI
open PySem PySem.Spec PyProof.Rows L2

/-! ### footprints by slots -/
theorem mem_set0 : ∀ {fps : List (List Addr)} {i : Nat} {a : Addr}, a ∈ (fps.set i []).flatten → a ∈ fps.flatten
  | [], _, _, h => h
  | f :: fs, 0, a, h => by
    rw [List.set_cons_zero, List.flatten_cons, List.nil_append] at h
    rw [List.flatten_cons]; exact List.mem_append_right _ h
  | f :: fs, i + 1, a, h => by
    rw [List.set_cons_succ, List.flatten_cons] at h
    rw [List.flatten_cons]
    rcases List.mem_append.mp h with h | h
    · exact List.mem_append_left _ h
    · exact List.mem_append_right _ (mem_set0 h)
theorem mem_set1 : ∀ {fps : List (List Addr)} {i : Nat} {fp : List Addr} {a : Addr}, a ∈ (fps.set i fp).flatten → a ∈ fp ∨ a ∈ (fps.set i []).flatten
  | [], _, _, _, h => nomatch h
  | f :: fs, 0, fp, a, h => by
    rw [List.set_cons_zero, List.flatten_cons] at h
    rw [List.set_cons_zero, List.flatten_cons, List.nil_append]
    exact List.mem_append.mp h
  | f :: fs, i + 1, fp, a, h => by
    rw [List.set_cons_succ, List.flatten_cons] at h
    rw [List.set_cons_succ, List.flatten_cons]
    rcases List.mem_append.mp h with h | h
    · exact .inr (List.mem_append_left _ h)
    · rcases mem_set1 h with h | h
      · exact .inl h
      · exact .inr (List.mem_append_right _ h)
theorem nd_set0 : ∀ {fps : List (List Addr)} {i : Nat}, fps.flatten.Nodup → (fps.set i []).flatten.Nodup
  | [], _, h => h
  | f :: fs, 0, h => by
    rw [List.flatten_cons] at h
    rw [List.set_cons_zero, List.flatten_cons, List.nil_append]
    exact (List.nodup_append.mp h).2.1
  | f :: fs, i + 1, h => by
    rw [List.flatten_cons] at h
    obtain ⟨h1, h2, h3⟩ := List.nodup_append.mp h
    rw [List.set_cons_succ, List.flatten_cons]
    exact List.nodup_append.mpr ⟨h1, nd_set0 h2, fun a ha b hb => h3 a ha b (mem_set0 hb)⟩
theorem nd_set1 : ∀ {fps : List (List Addr)} {i : Nat} {fp : List Addr}, (fps.set i []).flatten.Nodup → fp.Nodup → (∀ a ∈ fp, a ∉ (fps.set i []).flatten) → (fps.set i fp).flatten.Nodup
  | [], _, _, h, _, _ => h
  | f :: fs, 0, fp, h, hf, hd => by
    rw [List.set_cons_zero, List.flatten_cons, List.nil_append] at h hd
    rw [List.set_cons_zero, List.flatten_cons]
    exact List.nodup_append.mpr ⟨hf, h, fun a ha b hb e => hd a ha (by rw [e]; exact hb)⟩
  | f :: fs, i + 1, fp, h, hf, hd => by
    rw [List.set_cons_succ, List.flatten_cons] at h hd
    obtain ⟨h1, h2, h3⟩ := List.nodup_append.mp h
    rw [List.set_cons_succ, List.flatten_cons]
    refine List.nodup_append.mpr ⟨h1, nd_set1 h2 hf fun a ha q => hd a ha (List.mem_append_right _ q), fun a ha b hb e => ?_⟩
    rcases mem_set1 hb with q | q
    · exact hd b q (List.mem_append_left _ (by rw [← e]; exact ha))
    · exact h3 a ha b q e
theorem mem_at : ∀ {fps : List (List Addr)} {i : Nat} {fp : List Addr}, fps[i]? = some fp → ∀ a ∈ fp, a ∈ fps.flatten
  | [], _, _, e, _, _ => by simp at e
  | f :: fs, 0, fp, e, a, h => by
    simp at e; subst e
    rw [List.flatten_cons]; exact List.mem_append_left _ h
  | f :: fs, i + 1, fp, e, a, h => by
    rw [List.flatten_cons]; exact List.mem_append_right _ (mem_at (by simpa using e) a h)
theorem nd_at : ∀ {fps : List (List Addr)} {i : Nat} {fp : List Addr}, fps.flatten.Nodup → fps[i]? = some fp → fp.Nodup
  | [], _, _, _, e => by simp at e
  | f :: fs, 0, fp, h, e => by
    simp at e; subst e
    rw [List.flatten_cons] at h; exact (List.nodup_append.mp h).1
  | f :: fs, i + 1, fp, h, e => by
    rw [List.flatten_cons] at h; exact nd_at (List.nodup_append.mp h).2.1 (by simpa using e)
theorem mem_apart : ∀ {fps : List (List Addr)} {i : Nat} {fp : List Addr}, fps.flatten.Nodup → fps[i]? = some fp → ∀ a ∈ fp, a ∉ (fps.set i []).flatten
  | [], _, _, _, e, _, _ => by simp at e
  | f :: fs, 0, fp, h, e, a, ha => by
    simp at e; subst e
    rw [List.flatten_cons] at h
    rw [List.set_cons_zero, List.flatten_cons, List.nil_append]
    exact fun q => (List.nodup_append.mp h).2.2 a ha a q rfl
  | f :: fs, i + 1, fp, h, e, a, ha => by
    rw [List.flatten_cons] at h
    obtain ⟨h1, h2, h3⟩ := List.nodup_append.mp h
    have e' : fs[i]? = some fp := by simpa using e
    rw [List.set_cons_succ, List.flatten_cons]
    intro q
    rcases List.mem_append.mp q with q | q
    · exact h3 a q a (mem_at e' a ha) rfl
    · exact mem_apart h2 e' a ha q
theorem mem_other : ∀ {fps : List (List Addr)} {i j : Nat} {fp : List Addr}, fps[j]? = some fp → j ≠ i → ∀ a ∈ fp, a ∈ (fps.set i []).flatten := fun {fps i j fp} e ne a ha =>
  mem_at (i := j) (by rw [List.getElem?_set_ne (Ne.symm ne)]; exact e) a ha

/-! ### changes of the state -/
/-- what an owned thing is -/
def Owd (P : Program) (w : World) (a : Addr) (u : Option HO) : Prop := (∃ xs, u = some (.lst xs)) ∨ (∃ kv, u = some (.dK kv)) ∨ ∃ xs, u = some (rawN P w a xs)
section
variable {g : Gv} {W : L2.WX} {Z0 Z Z1 Z' : Addr → Prop} {H0 H H1 H' : Hp} {fps : List (List Addr)} {σl : Sl} {σ : L2.St}
mutual
theorem Rep.owd : ∀ {d : D} {v : V} {fp : List Addr}, Rep g Z H d v fp → ∀ a ∈ fp, Owd g.P g.w a (H a)
  | _, _, _, .non, _, h => nomatch h
  | _, _, _, .bl b, _, h => nomatch h
  | _, _, _, .int i, _, h => nomatch h
  | _, _, _, .str x, _, h => nomatch h
  | _, _, _, .tup _ hs, a, h => Reps.owd hs a h
  | _, _, _, .lst e hs w, a, h => by
    rcases w with ⟨_, q⟩ | ⟨_, _, q, _⟩
    · rw [q] at h
      rcases List.mem_cons.mp h with rfl | h
      · exact .inl ⟨_, e⟩
      · exact Reps.owd hs a h
    · rw [q] at h; cases h
  | _, _, _, .lstR h hs, _, h' => nomatch h'
  | _, _, _, .dK e _ hs w, a, h => by
    rcases w with ⟨_, q⟩ | ⟨_, _, q, _⟩
    · rw [q] at h
      rw [List.mem_singleton.mp h]; exact .inr (.inl ⟨_, e⟩)
    · rw [q] at h; cases h
  | _, _, _, .dN e _ _ _ hs w, a, h => by
    rcases w with ⟨_, q⟩ | ⟨_, _, q, _⟩
    · rw [q] at h
      rw [List.mem_singleton.mp h]; exact .inr (.inr ⟨_, e⟩)
    · rw [q] at h; cases h
  | _, _, _, .exc0 _, _, h' => nomatch h'
  | _, _, _, .excD _ _ _ _ _, _, h' => nomatch h'
  | _, _, _, .ins _ _ _ _ _, _, h' => nomatch h'
theorem Reps.owd : ∀ {d : List D} {v : List V} {fp : List Addr}, Reps g Z H d v fp → ∀ a ∈ fp, Owd g.P g.w a (H a)
  | _, _, _, .nil, _, h => nomatch h
  | _, _, _, .cons r hs, a, h => by
    rcases List.mem_append.mp h with h | h
    · exact Rep.owd r a h
    · exact Reps.owd hs a h
end
theorem kp_upd {P : Program} {w : World} {fp : List Addr} {a : Addr} {u : HO} (ho : Owd P w a (H a)) (hz : ¬ Z a) (hf : a ∉ fp) : Kp Z fp H (upd H a u) where
  tup b vs h := by
    have ne : b ≠ a := fun e => by
      subst e
      rcases h with h | ⟨o, h⟩ <;> rcases ho with ⟨_, q⟩ | ⟨_, q⟩ | ⟨_, q⟩ <;> (rw [h] at q; cases q)
    rcases h with h | ⟨o, h⟩
    · exact .inl (by rw [upd_ne ne]; exact h)
    · exact .inr ⟨o, by rw [upd_ne ne]; exact h⟩
  frz b ob vs h := by
    have ne : b ≠ a := fun e => by
      subst e
      rcases ho with ⟨_, q⟩ | ⟨_, q⟩ | ⟨_, q⟩ <;> (rw [h] at q; cases q)
    rw [upd_ne ne]; exact h
  z b o hb h := by
    have ne : b ≠ a := fun e => hz (by rw [← e]; exact hb)
    rw [upd_ne ne]; exact h
  own b o hb h := by
    have ne : b ≠ a := fun e => hf (by rw [← e]; exact hb)
    rw [upd_ne ne]; exact h
  xd b fs h := by
    have ne : b ≠ a := fun e => by
      subst e
      rcases ho with ⟨_, q⟩ | ⟨_, q⟩ | ⟨_, q⟩ <;> (rw [h] at q; cases q)
    rw [upd_ne ne]; exact h
theorem Kp.trans {fp : List Addr} (le : ∀ a, Z a → Z1 a) (a : Kp Z fp H H1) (b : Kp Z1 fp H1 H') : Kp Z fp H H' :=
  ⟨fun x vs h => b.tup x vs (a.tup x vs h), fun x ob vs h => b.frz x ob vs (a.frz x ob vs h), fun x o hz h => b.z x o (le x hz) (a.z x o hz h), fun x o m h => b.own x o m (a.own x o m h), fun x fs h => b.xd x fs (a.xd x fs h)⟩
theorem same_updO {a : Addr} {u : HO} (s : Same H0 H) (h : H0 a = none) : Same H0 (upd H a u) := fun b x e => by
  rw [upd_ne (ne_of_none e h)]; exact s b x e
theorem upd_some {a b : Addr} {u : HO} (h : H b ≠ none) : upd H a u b ≠ none := fun e => by
  by_cases q : b = a
  · rw [q, upd_same] at e; cases e
  · rw [upd_ne q] at e; exact h e
theorem set_self {α : Type} {xs : List α} {i : Nat} {x : α} (e : xs[i]? = some x) : xs.set i x = xs := by
  apply List.ext_getElem?
  intro j
  by_cases h : i = j
  · subst h
    rw [List.getElem?_set_self (List.getElem?_eq_some_iff.mp e).1, e]
  · rw [List.getElem?_set_ne h]
theorem lt_of_get {α : Type} {xs : List α} {i : Nat} {x : α} (e : xs[i]? = some x) : i < xs.length := (List.getElem?_eq_some_iff.mp e).1

theorem SR.put (r : SR g H0 Z fps σl σ H) {i : Nat} {d : D} {v : V} {fp : List Addr} (sm : Same H0 H') (le : ∀ a, Z a → Z' a) (inn : ∀ a, Z' a → H' a ≠ none) (kp : Kp Z (fps.set i []).flatten H H') (oth : ∀ a ∈ (fps.set i []).flatten, ¬ Z' a)
    (rp : Rep g Z' H' d v fp) (nf : fp.Nodup) (hf : ∀ a ∈ fp, a ∉ (fps.set i []).flatten ∧ ¬ Z' a ∧ H0 a = none) : SR g H0 Z' (fps.set i fp) (σl.set i (some d)) (σ.set i (some v)) H' where
  len := by rw [List.length_set, List.length_set, r.len]
  lenf := by rw [List.length_set, List.length_set, r.lenf]
  slot j d' e := by
    by_cases h : i = j
    · subst h
      have hl : i < σl.length := by have := lt_of_get e; rwa [List.length_set] at this
      rw [List.getElem?_set_self hl] at e
      cases e
      exact ⟨v, fp, List.getElem?_set_self (by rw [← r.len]; exact hl), List.getElem?_set_self (by rw [r.lenf, ← r.len]; exact hl), rp⟩
    · rw [List.getElem?_set_ne h] at e
      obtain ⟨v', fp', e1, e2, rp'⟩ := r.slot j d' e
      exact ⟨v', fp', by rw [List.getElem?_set_ne h]; exact e1, by rw [List.getElem?_set_ne h]; exact e2, rp'.keep le (kp.sub (mem_other e2 (Ne.symm h)))⟩
  gone j e := by
    by_cases h : i = j
    · subst h
      have hl : i < σl.length := by have := lt_of_get e; rwa [List.length_set] at this
      rw [List.getElem?_set_self hl] at e
      cases e
    · rw [List.getElem?_set_ne h] at e ⊢
      exact r.gone j e
  nd := nd_set1 (nd_set0 r.nd) nf fun a ha => (hf a ha).1
  own a ha := by
    rcases mem_set1 ha with q | q
    · exact ⟨(hf a q).2.1, (hf a q).2.2, Rep.there rp a q⟩
    · obtain ⟨_, h2, h3⟩ := r.own a (mem_set0 q)
      refine ⟨oth a q, h2, ?_⟩
      cases e : H a with
      | none => exact absurd e h3
      | some o => rw [kp.own a o q e]; exact Option.some_ne_none _
  z := inn
  same := sm
theorem SR.drop (r : SR g H0 Z fps σl σ H) (i : Nat) (sm : Same H0 H') (le : ∀ a, Z a → Z' a) (inn : ∀ a, Z' a → H' a ≠ none) (kp : Kp Z (fps.set i []).flatten H H') (oth : ∀ a ∈ (fps.set i []).flatten, ¬ Z' a) : SR g H0 Z' (fps.set i []) (σl.set i none) σ H' where
  len := by rw [List.length_set, r.len]
  lenf := by rw [List.length_set, r.lenf]
  slot j d' e := by
    by_cases h : i = j
    · subst h
      have hl : i < σl.length := by have := lt_of_get e; rwa [List.length_set] at this
      rw [List.getElem?_set_self hl] at e
      cases e
    · rw [List.getElem?_set_ne h] at e
      obtain ⟨v', fp', e1, e2, rp'⟩ := r.slot j d' e
      exact ⟨v', fp', e1, by rw [List.getElem?_set_ne h]; exact e2, rp'.keep le (kp.sub (mem_other e2 (Ne.symm h)))⟩
  gone j e := by
    by_cases h : i = j
    · subst h
      have hl : i < σl.length := by have := lt_of_get e; rwa [List.length_set] at this
      exact List.getElem?_set_self (by rw [r.lenf, ← r.len]; exact hl)
    · rw [List.getElem?_set_ne h] at e ⊢
      exact r.gone j e
  nd := nd_set0 r.nd
  own a q := by
    obtain ⟨_, h2, h3⟩ := r.own a (mem_set0 q)
    refine ⟨oth a q, h2, ?_⟩
    cases e : H a with
    | none => exact absurd e h3
    | some o => rw [kp.own a o q e]; exact Option.some_ne_none _
  z := inn
  same := sm
theorem SR.owd (r : SR g H0 Z fps σl σ H) : ∀ a ∈ fps.flatten, Owd g.P g.w a (H a) := fun a ha => by
  obtain ⟨f, hf, hm⟩ := List.mem_flatten.mp ha
  obtain ⟨i, hi, e⟩ := List.mem_iff_getElem.mp hf
  have e1 : fps[i]? = some f := by rw [List.getElem?_eq_getElem hi, e]
  have hl : i < σl.length := by rw [r.len, ← r.lenf]; exact hi
  cases q : σl[i]? with
  | none => rw [List.getElem?_eq_getElem hl] at q; cases q
  | some o =>
    cases o with
    | none =>
      rw [r.gone i q] at e1; cases e1
      cases hm
    | some d =>
      obtain ⟨v, fp, _, e2, rp⟩ := r.slot i d q
      rw [e1] at e2; cases e2
      exact rp.owd a hm
/-- a slot takes what an expression has told -/
theorem SR.bind (r : SR g H0 Z fps σl σ H) (i : Nat) {d : D} {v : V} {fp : List Addr} (p : PostE g true Z Z' H H' d v fp) : SR g H0 Z' (fps.set i fp) (σl.set i (some d)) (σ.set i (some v)) H' := by
  have r1 := r.step p.same p.zx
  obtain ⟨n, o⟩ := p.own rfl
  refine r1.put r1.same (fun _ z => z) r1.z (.of_same (same_refl _)) (fun a ha => (r1.own a (mem_set0 ha)).1) p.rep n fun a ha => ⟨fun q => ?_, (o a ha).2, same_none r.same (o a ha).1⟩
  exact (r.own a (mem_set0 q)).2.2 (o a ha).1
/-- a slot takes a clean thing -/
theorem SR.bind0 (r : SR g H0 Z fps σl σ H) (i : Nat) {d : D} {v : V} (p : Rep g Z H d v []) : SR g H0 Z (fps.set i []) (σl.set i (some d)) (σ.set i (some v)) H :=
  r.put r.same (fun _ z => z) r.z (.of_same (same_refl _)) (fun a ha => (r.own a (mem_set0 ha)).1) p List.nodup_nil fun a ha => nomatch ha

/-- the state of a def's body: its entry's heap and zone -/
structure SS (g : Gv) (H0 : Hp) (Z0 Z : Addr → Prop) (fps : List (List Addr)) (σl : Sl) (σ : L2.St) (H : Hp) : Prop where
  sr : SR g H0 Z fps σl σ H
  z0 : ∀ a, Z0 a → Z a
  zn : ∀ a, Z a → Z0 a ∨ H0 a = none
theorem SS.step (r : SS g H0 Z0 Z fps σl σ H) (s : Same H H1) (z : Zx Z Z1 H H1) : SS g H0 Z0 Z1 fps σl σ H1 :=
  ⟨r.sr.step s z, fun a h => z.le a (r.z0 a h), fun a h => by
    rcases z.new a h with q | q
    · exact r.zn a q
    · exact .inr (same_none r.sr.same q)⟩
theorem SS.bind (r : SS g H0 Z0 Z fps σl σ H) (i : Nat) {d : D} {v : V} {fp : List Addr} (p : PostE g true Z Z' H H' d v fp) : SS g H0 Z0 Z' (fps.set i fp) (σl.set i (some d)) (σ.set i (some v)) H' :=
  ⟨r.sr.bind i p, (r.step p.same p.zx).z0, (r.step p.same p.zx).zn⟩

structure Ev (Z Z' : Addr → Prop) (H H' : Hp) : Prop where
  le : ∀ a, Z a → Z' a
  kp : Kp Z [] H H'
theorem Ev.refl : Ev Z Z H H := ⟨fun _ z => z, .of_same (same_refl H)⟩
theorem Ev.trans (a : Ev Z Z1 H H1) (b : Ev Z1 Z' H1 H') : Ev Z Z' H H' := ⟨fun x z => b.le x (a.le x z), a.kp.trans a.le b.kp⟩
theorem Ev.of_zx (s : Same H H') (z : Zx Z Z' H H') : Ev Z Z' H H' := ⟨z.le, .of_same s⟩

inductive RS where
  | nx (σ : Sl) | rt (d : D) | bk (σ : Sl) | ct (σ : Sl) | er (c : Nat) (fs : List D) (σ : Sl) | bad
abbrev SF := Sl → RS
def OutS (g : Gv) (W : L2.WX) (H0 : Hp) (Z0 Z : Addr → Prop) (H : Hp) (E : Ends) : RS → Prop
  | .nx σl => ∀ σ' H' Z' fps', SS g H0 Z0 Z' fps' σl σ' H' → Ev Z Z' H H' → E.nx σ' H'
  | .rt d => ∀ v H' Z' fp, PostE g true Z0 Z' H0 H' d v fp → E.rt v H'
  | .bk σl => ∀ σ' H' Z' fps', SS g H0 Z0 Z' fps' σl σ' H' → Ev Z Z' H H' → E.bk σ' H'
  | .ct σl => ∀ σ' H' Z' fps', SS g H0 Z0 Z' fps' σl σ' H' → Ev Z Z' H H' → E.ct σ' H'
  | .er c fs σl => ∀ σ' H' Z' fps' cls d, SS g H0 Z0 Z' fps' σl σ' H' → Ev Z Z' H H' → ExR g c fs cls d H' → W cls d σ' H'
  | .bad => False
def tS (g : Gv) (W : L2.WX) (f : SF) : TS := fun E σ H => ∃ H0 Z0 Z fps σl, SS g H0 Z0 Z fps σl σ H ∧ OutS g W H0 Z0 Z H E (f σl)
theorem OutS.pre {E : Ends} {r : RS} (e : Ev Z Z1 H H1) (o : OutS g W H0 Z0 Z H E r) : OutS g W H0 Z0 Z1 H1 E r := by
  cases r with
  | nx σl => exact fun σ' H' Z' fps' s e' => o σ' H' Z' fps' s (e.trans e')
  | rt d => exact o
  | bk σl => exact fun σ' H' Z' fps' s e' => o σ' H' Z' fps' s (e.trans e')
  | ct σl => exact fun σ' H' Z' fps' s e' => o σ' H' Z' fps' s (e.trans e')
  | er c fs σl => exact fun σ' H' Z' fps' cls d s e' => o σ' H' Z' fps' cls d s (e.trans e')
  | bad => exact o
/-- a result at a state -/
def rS {α : Type} (r : R α) (σ : Sl) (k : α → RS) : RS :=
  match r with
  | .ok a => k a
  | .err c fs => .er c fs σ
  | .bad => .bad
theorem OutS.rS {α : Type} {E : Ends} {r : R α} {k : α → RS} (ss : SS g H0 Z0 Z fps σl σ H) (o : OutS g W H0 Z0 Z H E (DI.rS r σl k)) : Out g W Z σ H r fun a => OutS g W H0 Z0 Z H E (k a) := by
  cases r with
  | ok a => exact o
  | err c fs => exact fun H' Z' cls d s z e => o σ H' Z' fps cls d (ss.step s z) (.of_zx s z) e
  | bad => exact o
theorem OutS.guard {E : Ends} {c : Prop} [Decidable c] {r : RS} (h : OutS g W H0 Z0 Z H E (if c then r else .bad)) : c ∧ OutS g W H0 Z0 Z H E r := by
  by_cases hc : c
  · rw [if_pos hc] at h; exact ⟨hc, h⟩
  · rw [if_neg hc] at h; exact h.elim

/-! ### the statements' functions -/
def sSkip : SF := .nx
def RS.andThen (r : RS) (k : SF) : RS :=
  match r with
  | .nx σ' => k σ'
  | r => r
def sSeq (f k : SF) : SF := fun σ => (f σ).andThen k
def sSet (i : Nat) (f : Sl → R D) : SF := fun σ => rS (f σ) σ fun d => .nx (σ.set i (some d))
def cond (d : D) (r s : RS) : RS :=
  match d with
  | .bl b => if b = true then r else s
  | _ => .bad
def sIf (c : Sl → R D) (f k : SF) : SF := fun σ => rS (c σ) σ fun d => cond d (f σ) (k σ)
def sRet (f : Sl → R D) : SF := fun σ => rS (f σ) σ .rt
def sRetV (i : Nat) : SF := fun σ => rS (getS σ i) σ .rt
def sRetN : SF := fun _ => .rt .non
def sBrk : SF := .bk
def sCnt : SF := .ct
def sFz (i : Nat) (k : SF) : SF := fun σ => rS (getS σ i) σ fun d => k (σ.set i (some (frz d)))
def sDrop (f : Sl → R D) : SF := fun σ => rS (f σ) σ fun _ => .nx σ
def sUnp (p : Pat) (f : Sl → R D) : SF := fun σ => rS (f σ) σ fun d => if clean d = true then rS (bindP σ p d) σ .nx else .bad
def lstOf : D → R (List D)
  | .lst true xs => .ok xs
  | _ => .bad
def sApp (i : Nat) (f : Sl → R D) : SF := fun σ => rS ((getS σ i).bind lstOf) σ fun xs => rS (f σ) σ fun y => if xs.length < sizeLine then .nx (σ.set i (some (.lst true (xs ++ [y])))) else .bad
def lp (c : Sl → R D) (f : SF) : Nat → SF
  | 0, _ => .bad
  | n + 1, σ => rS (c σ) σ fun d =>
    match d with
    | .bl b => if b = true then (match f σ with
      | .nx σ' => lp c f n σ'
      | .ct σ' => lp c f n σ'
      | .bk σ' => .nx σ'
      | r => r) else .nx σ
    | _ => .bad
open Classical in
noncomputable def sWhl (c : Sl → R D) (f : SF) : SF := fun σ => if h : ∃ n, lp c f n σ ≠ .bad then lp c f (Classical.choose h) σ else .bad
def fr (p : Pat) (f : SF) : List D → SF
  | [], σ => .nx σ
  | x :: xs, σ => rS (bindP σ p x) σ fun σ1 =>
    match f σ1 with
    | .nx σ' => fr p f xs σ'
    | .ct σ' => fr p f xs σ'
    | .bk σ' => .nx σ'
    | r => r
def sFor (p : Pat) (src : Sl → R (List D)) (f : SF) : SF := fun σ => rS (src σ) σ fun xs => fr p f xs σ
theorem lp_up {c : Sl → R D} {f : SF} : ∀ (n : Nat) (σ : Sl), lp c f n σ ≠ .bad → lp c f (n + 1) σ = lp c f n σ
  | 0, σ, h => absurd rfl h
  | n + 1, σ, h => by
    have go : ∀ σ', lp c f n σ' ≠ .bad → lp c f (n + 1) σ' = lp c f n σ' := fun σ' => lp_up n σ'
    rw [lp] at h ⊢
    conv => rhs; rw [lp]
    cases hc : c σ with
    | err _ _ => rfl
    | bad => rfl
    | ok d =>
      rw [hc] at h
      cases d with
      | bl b =>
        cases b with
        | false => rfl
        | true =>
          simp only [DI.rS, if_pos] at h ⊢
          cases hf : f σ with
          | nx σ' => rw [hf] at h; exact go σ' h
          | ct σ' => rw [hf] at h; exact go σ' h
          | _ => rfl
      | _ => rfl
theorem lp_le {c : Sl → R D} {f : SF} {n m : Nat} {σ : Sl} (h : lp c f n σ ≠ .bad) (hm : n ≤ m) : lp c f m σ = lp c f n σ := by
  induction hm with
  | refl => rfl
  | step hm ih => rw [lp_up _ σ (by rw [ih]; exact h), ih]
theorem whl_eq {c : Sl → R D} {f : SF} {n : Nat} {σ : Sl} {r : RS} (h : lp c f n σ = r) (hr : r ≠ .bad) : sWhl c f σ = r := by
  have hex : ∃ n, lp c f n σ ≠ .bad := ⟨n, by rw [h]; exact hr⟩
  have hc : lp c f (Classical.choose hex) σ ≠ .bad := Classical.choose_spec hex
  unfold sWhl
  rw [dif_pos hex]
  rcases Nat.le_total n (Classical.choose hex) with q | q
  · rw [lp_le (by rw [h]; exact hr) q, h]
  · rw [← lp_le hc q, h]
theorem whl_ex {c : Sl → R D} {f : SF} {σ : Sl} (h : sWhl c f σ ≠ .bad) : ∃ n, lp c f n σ = sWhl c f σ := by
  unfold sWhl at h ⊢
  by_cases hex : ∃ n, lp c f n σ ≠ .bad
  · rw [dif_pos hex]; exact ⟨_, rfl⟩
  · rw [dif_neg hex] at h; exact absurd rfl h
end

/-! ### their proofs -/
section
variable {X : Cx} {g : Gv} {W : L2.WX} {st : Stmt} {sts : List Stmt} {e a : Expr} {fe fc : Sl → R D} {f k : SF} {pos : Pos} {b : Bool} {i : Nat}
theorem ss_nil : PSs X [] (tS g W sSkip) := pss_nil.imp fun E σ H q => by
  obtain ⟨H0, Z0, Z, fps, σl, ss, o⟩ := q
  exact o σ H Z fps ss .refl
theorem ss_pass : PS X (.Pass pos) (tS g W sSkip) := ps_pass.imp fun E σ H q => by
  obtain ⟨H0, Z0, Z, fps, σl, ss, o⟩ := q
  exact o σ H Z fps ss .refl
theorem ss_cons (h1 : PS X st (tS g W f)) (h2 : PSs X sts (tS g W k)) : PSs X (st :: sts) (tS g W (sSeq f k)) := (pss_cons h1 h2).imp fun E σ H q => by
  obtain ⟨H0, Z0, Z, fps, σl, ss, o⟩ := q
  refine ⟨H0, Z0, Z, fps, σl, ss, ?_⟩
  have o : OutS g W H0 Z0 Z H E ((f σl).andThen k) := o
  cases h : f σl with
  | nx σl1 => rw [h] at o; exact fun σ' H' Z' fps' s e => ⟨H0, Z0, Z', fps', σl1, s, o.pre e⟩
  | rt d => rw [h] at o; exact o
  | bk σl => rw [h] at o; exact o
  | ct σl => rw [h] at o; exact o
  | er c fs σl => rw [h] at o; exact o
  | bad => rw [h] at o; exact o
theorem ss_one (h1 : PS X st (tS g W f)) : PSs X [st] (tS g W f) := pss_one h1
theorem ss_set {x : Str} {pos' : Pos} (hN : X.N.Nodup) (hi : X.N[i]? = some x) (hx : Loc X.env.scope x) (he : PE X e (tI g W true fe)) (hs : swapsWith e (some (.Name x pos')) pos.line X.env = pure false) (hf : X.fn x = true ∨ X.env.scope.names.lookup x = some .local) :
    PS X (.Assign [.Name x pos'] e pos) (tS g W (sSet i fe)) := (ps_set hN hi hx he hs hf).imp fun E σ H q => by
  obtain ⟨H0, Z0, Z, fps, σl, ss, o⟩ := q
  refine ⟨H0, Z, fps, σl, ss.sr, (OutS.rS ss o).imp fun d o v H' Z' fp p => ?_⟩
  exact o _ H' Z' _ (ss.bind i p) (.of_zx p.same p.zx)
theorem ss_if {c : Expr} {p q : List Stmt} (hc : PT X c (tIT g W fc)) (ha : PSs X p (tS g W f)) (hb : PSs X q (tS g W k)) : PS X (.If c p q pos) (tS g W (sIf fc f k)) := (ps_if hc ha hb).imp fun E σ H q => by
  obtain ⟨H0, Z0, Z, fps, σl, ss, o⟩ := q
  refine ⟨H0, Z, fps, σl, ss.sr, (OutS.rS ss o).imp fun d o => ?_⟩
  cases d with
  | bl b =>
    refine ⟨b, rfl, fun H' Z' s z => ?_⟩
    cases b with
    | true => exact ⟨H0, Z0, Z', fps, σl, ss.step s z, OutS.pre (.of_zx s z) o⟩
    | false => exact ⟨H0, Z0, Z', fps, σl, ss.step s z, OutS.pre (.of_zx s z) o⟩
  | _ => exact o.elim
theorem SS.ret {Z0 Z Z' : Addr → Prop} {H0 H H' : Hp} {fps : List (List Addr)} {σl : Sl} {σ : L2.St} {d : D} {v : V} {fp : List Addr} (ss : SS g H0 Z0 Z fps σl σ H) (p : PostE g true Z Z' H H' d v fp) : PostE g true Z0 Z' H0 H' d v fp := by
  refine ⟨same_trans ss.sr.same p.same, ⟨fun a z => p.zx.le a (ss.z0 a z), fun a z => ?_, p.zx.inn⟩, p.rep, fun _ => ⟨(p.own rfl).1, fun a ha => ⟨same_none ss.sr.same ((p.own rfl).2 a ha).1, ((p.own rfl).2 a ha).2⟩⟩⟩
  exact (ss.step p.same p.zx).zn a z
theorem ss_ret (he : PE X e (tI g W true fe)) : PS X (.Return (some e) pos) (tS g W (sRet fe)) := (ps_ret he).imp fun E σ H q => by
  obtain ⟨H0, Z0, Z, fps, σl, ss, o⟩ := q
  exact ⟨H0, Z, fps, σl, ss.sr, (OutS.rS ss o).imp fun d o v H' Z' fp p => o v H' Z' fp (ss.ret p)⟩
theorem ss_retN : PS X (.Return none pos) (tS g W sRetN) := ps_retN.imp fun E σ H q => by
  obtain ⟨H0, Z0, Z, fps, σl, ss, o⟩ := q
  exact o .non H Z [] (ss.ret (post_sc ss.sr.z .non))
theorem getS_ok {σl : Sl} {d : D} (h : getS σl i = .ok d) : σl[i]? = some (some d) := by
  unfold getS at h
  split at h
  · cases h; assumption
  · cases h
theorem getS_err {σl : Sl} {c : Nat} {fs : List D} : getS σl i ≠ .err c fs := fun h => by
  unfold getS at h
  split at h <;> cases h
theorem ss_retV {x : Str} {p : Pos} (hN : X.N[i]? = some x) (hv : Vis X.env.scope x) (hd : (x == ("__debug__" : Str)) = false) (hcd : (x == ("__classdict__" : Str)) = false) : PS X (.Return (some (.Name x p)) pos) (tS g W (sRetV i)) := (ps_ret (pe_var hN hv hd hcd)).imp fun E σ H q => by
  obtain ⟨H0, Z0, Z, fps, σl, ss, o⟩ := q
  obtain ⟨d, e, o⟩ := (OutS.rS ss o).okOf fun c fs => getS_err
  obtain ⟨v, fp, e1, e2, rp⟩ := ss.sr.slot i d (getS_ok e)
  refine ⟨v, e1, o v H Z fp ⟨ss.sr.same, ⟨ss.z0, ss.zn, ss.sr.z⟩, rp, fun _ => ⟨nd_at ss.sr.nd e2, fun a ha => ?_⟩⟩⟩
  obtain ⟨h1, h2, _⟩ := ss.sr.own a (mem_at e2 a ha)
  exact ⟨h2, h1⟩
theorem ss_brk : PS X (.Break pos) (tS g W sBrk) := ps_break.imp fun E σ H q => by
  obtain ⟨H0, Z0, Z, fps, σl, ss, o⟩ := q
  exact o σ H Z fps ss .refl
theorem ss_cnt : PS X (.Continue pos) (tS g W sCnt) := ps_continue.imp fun E σ H q => by
  obtain ⟨H0, Z0, Z, fps, σl, ss, o⟩ := q
  exact o σ H Z fps ss .refl
theorem ss_drop (he : PE X e (tI g W b fe)) (hs : swapsWith e none pos.line X.env = pure false) : PS X (.Expr e pos) (tS g W (sDrop fe)) := (ps_expr he hs).imp fun E σ H q => by
  obtain ⟨H0, Z0, Z, fps, σl, ss, o⟩ := q
  refine ⟨H0, Z, fps, σl, ss.sr, (OutS.rS ss o).imp fun d o v H' Z' fp p => ?_⟩
  exact o σ H' Z' fps (ss.step p.same p.zx) (.of_zx p.same p.zx)
theorem ss_fz (h : PSs X sts (tS g W k)) : PSs X sts (tS g W (sFz i k)) := h.imp fun E σ H q => by
  obtain ⟨H0, Z0, Z, fps, σl, ss, o⟩ := q
  obtain ⟨d, e, o⟩ := (OutS.rS ss o).okOf fun c fs => getS_err
  obtain ⟨v, fp, e1, e2, rp⟩ := ss.sr.slot i d (getS_ok e)
  have own := fun a ha => ss.sr.own a (mem_at e2 a ha)
  have r2 : SR g H0 (fun a => Z a ∨ a ∈ fp) (fps.set i []) (σl.set i (some (frz d))) (σ.set i (some v)) H :=
    ss.sr.put ss.sr.same (fun a z => .inl z) (fun a z => by
      rcases z with z | m
      · exact ss.sr.z a z
      · exact (own a m).2.2) (.of_same (same_refl H)) (fun a ha q => by
      rcases q with z | m
      · exact (ss.sr.own a (mem_set0 ha)).1 z
      · exact mem_apart ss.sr.nd e2 a m ha) (rp.frz (fun a z => .inl z) fun a m => .inr m) List.nodup_nil fun a ha => nomatch ha
  rw [set_self e1] at r2
  refine ⟨H0, Z0, fun a => Z a ∨ a ∈ fp, _, _, ⟨r2, fun a z => .inl (ss.z0 a z), fun a z => ?_⟩, OutS.pre ⟨fun a z => .inl z, .of_same (same_refl H)⟩ o⟩
  rcases z with z | m
  · exact ss.zn a z
  · exact .inr (own a m).2.1
end
end DI
/-! DI, targets, loops, append -/
namespace DI
open PySem PySem.Spec PyProof.Rows L2
theorem _root_.L2.PG.imp {X : Cx} {e : Expr} {t t' : TG} (h : PG X e t) (hi : ∀ v σ H Q, t' v σ H Q → t v σ H Q) : PG X e t' := ⟨fun pins s σ H v u Q I r q => h.run pins s σ H v u Q I r (hi _ _ _ _ q)⟩
theorem _root_.L2.PGs.imp {X : Cx} {e : List Expr} {t t' : TGs} (h : PGs X e t) (hi : ∀ v σ H Q, t' v σ H Q → t v σ H Q) : PGs X e t' := ⟨fun pins s σ H v u Q I r q => h.run pins s σ H v u Q I r (hi _ _ _ _ q)⟩

section
variable {X : Cx} {g : Gv} {W : L2.WX} {e a : Expr} {es : List Expr} {fe fc : Sl → R D} {f k : SF} {pos : Pos} {b : Bool} {i : Nat} {is : List Nat}
def psl : Pat → List Nat
  | .one i => [i]
  | .many is => is
theorem wipe_get {σ : L2.St} {j : Nat} : ∀ {vs : List Nat}, (wipe σ vs)[j]? = if j ∈ vs ∧ j < σ.length then some none else σ[j]?
  | [] => by simp [wipe]
  | v :: vs => by
    show ((wipe σ vs).set v none)[j]? = _
    by_cases h : v = j
    · subst h
      by_cases hl : v < σ.length
      · rw [List.getElem?_set_self (by rw [wipe_length]; exact hl), if_pos ⟨List.mem_cons_self, hl⟩]
      · rw [List.getElem?_eq_none (by rw [List.length_set, wipe_length]; omega), if_neg (fun q => hl q.2), List.getElem?_eq_none (by omega)]
    · rw [List.getElem?_set_ne h, wipe_get]
      by_cases hm : j ∈ vs ∧ j < σ.length
      · rw [if_pos hm, if_pos ⟨List.mem_cons_of_mem _ hm.1, hm.2⟩]
      · rw [if_neg hm, if_neg (fun q => hm ⟨by
          rcases List.mem_cons.mp q.1 with e | e
          · exact absurd e.symm h
          · exact e, q.2⟩)]
theorem wipe_set {σ : L2.St} {i : Nat} {x : Option V} {vs : List Nat} (h : i ∈ vs) : wipe (σ.set i x) vs = wipe σ vs := by
  apply List.ext_getElem?
  intro j
  rw [wipe_get, wipe_get, List.length_set]
  by_cases hm : j ∈ vs ∧ j < σ.length
  · rw [if_pos hm, if_pos hm]
  · rw [if_neg hm, if_neg hm]
    by_cases e : i = j
    · subst e
      have hl : ¬ i < σ.length := fun q => hm ⟨h, q⟩
      rw [List.getElem?_eq_none (by rw [List.length_set]; omega), List.getElem?_eq_none (by omega)]
    · rw [List.getElem?_set_ne e]
theorem wipe_wipe {σ : L2.St} {vs : List Nat} : wipe (wipe σ vs) vs = wipe σ vs := by
  apply List.ext_getElem?
  intro j
  rw [wipe_get, wipe_length]
  by_cases hm : j ∈ vs ∧ j < σ.length
  · rw [if_pos hm, wipe_get, if_pos hm]
  · rw [if_neg hm]
/-- wiped alike where the pattern's slots are wiped -/
def Wa (is : List Nat) (σ σ' : L2.St) : Prop := ∀ vs : List Nat, (∀ j ∈ is, j ∈ vs) → wipe σ' vs = wipe σ vs
def tG (g : Gv) (p : Pat) : TG := fun v σ H Q => ∃ H0 Z fps σl x σl', SR g H0 Z fps σl σ H ∧ Rep g Z H x v [] ∧ bindP σl p x = .ok σl' ∧ ∀ σ' fps', SR g H0 Z fps' σl' σ' H → Wa (psl p) σ σ' → Q σ' H
def tGs (g : Gv) (is : List Nat) : TGs := fun vs σ H Q => ∃ H0 Z fps σl xs σl', SR g H0 Z fps σl σ H ∧ Reps g Z H xs vs [] ∧ putAll σl is xs = .ok σl' ∧ ∀ σ' fps', SR g H0 Z fps' σl' σ' H → Wa is σ σ' → Q σ' H
theorem sg_one {x : Str} (hN : X.N.Nodup) (hi : X.N[i]? = some x) (hx : Loc X.env.scope x) (hf : X.fn x = true ∨ X.env.scope.names.lookup x = some .local) : PG X (.Name x pos) (tG g (.one i)) := (pg_name hN hi hx hf).imp fun v σ H Q q => by
  obtain ⟨H0, Z, fps, σl, x, σl', sr, r, e, q⟩ := q
  cases e
  exact q _ _ (sr.bind0 i r) fun vs h => wipe_set (h i (List.mem_singleton.mpr rfl))
theorem sgs_nil : PGs X [] (tGs g []) := pgs_nil.imp fun v σ H Q q => by
  obtain ⟨H0, Z, fps, σl, xs, σl', sr, r, e, q⟩ := q
  cases xs with
  | nil => cases e; cases r; exact ⟨rfl, q σ fps sr fun vs h => rfl⟩
  | cons x xs => cases e
theorem sgs_cons (h1 : PG X e (tG g (.one i))) (h2 : PGs X es (tGs g is)) (hs : (assignEach (e :: es) X.env).map (·.2) = assign e X.env :: (assignEach es X.env).map (·.2)) : PGs X (e :: es) (tGs g (i :: is)) := (pgs_cons h1 h2 hs).imp fun v σ H Q q => by
  obtain ⟨H0, Z, fps, σl, xs, σl', sr, r, e, q⟩ := q
  cases xs with
  | nil => cases e
  | cons x xs =>
    generalize hfp : ([] : List Addr) = fp at r
    cases r with
    | cons h hs =>
      obtain ⟨e1, e2⟩ := List.append_eq_nil_iff.mp hfp.symm
      subst e1 e2
      refine ⟨_, _, rfl, H0, Z, fps, σl, x, _, sr, h, rfl, fun σ1 fps1 sr1 wa => ?_⟩
      exact ⟨H0, Z, fps1, _, xs, σl', sr1, hs, e, fun σ2 fps2 sr2 wa2 => q σ2 fps2 sr2 fun vs hv => (wa2 vs fun j hj => hv j (List.mem_cons_of_mem _ hj)).trans (wa vs fun j hj => hv j (by rw [List.mem_singleton.mp hj]; exact List.mem_cons_self))⟩
theorem putAll_len : ∀ {is : List Nat} {xs : List D} {σ σ' : Sl}, putAll σ is xs = .ok σ' → is.length = xs.length
  | [], [], _, _, _ => rfl
  | [], _ :: _, _, _, h => by cases h
  | _ :: _, [], _, _, h => by cases h
  | i :: is, x :: xs, σ, σ', h => by rw [List.length_cons, List.length_cons, putAll_len (is := is) (xs := xs) h]
theorem sg_many {kk : Nat} (G : Gof g X) (hc : X.calm = true) (h : PGs X es (tGs g is)) (hn : (assignEach es X.env).length = is.length) (hst : (assignEach es X.env).findIdx? (·.1) = none) : PG X (.Tuple es kk pos) (tG g (.many is)) := (pg_tup hc h hn hst).imp fun v σ H Q q => by
  obtain ⟨H0, Z, fps, σl, x, σl', sr, r, e, q⟩ := q
  cases x with
  | tup xs =>
    obtain ⟨a, vs, rfl, hq, rs⟩ := rep_tup r
    have e : putAll σl is xs = .ok σl' := e
    rw [G.K]
    exact ⟨a, vs, rfl, hq, by rw [← rs.length, putAll_len e], H0, Z, fps, σl, xs, σl', sr, rs, e, q⟩
  | _ => cases e
theorem bindP_err {σ : Sl} {p : Pat} {d : D} {c : Nat} {fs : List D} : bindP σ p d ≠ .err c fs := fun h => by
  have go : ∀ {is : List Nat} {xs : List D} {σ : Sl}, putAll σ is xs ≠ .err c fs := by
    intro is
    induction is with
    | nil => intro xs σ h; cases xs <;> cases h
    | cons i is ih => intro xs σ h; cases xs with
      | nil => cases h
      | cons x xs => exact ih h
  cases p with
  | one i => cases h
  | many is =>
    cases d with
    | tup xs => exact go (show putAll σ is xs = _ from h)
    | _ => cases h
theorem ss_unp {tg : Expr} {p : Pat} (he : PE X e (tI g W b fe)) (hg : PG X tg (tG g p)) (hs : swapsWithSole [tg] e pos.line X.env = pure false) (hw : swappedStores [tg] e X.env = pure none) (h1 : (assignEach [tg] X.env).map (·.2) = [assign tg X.env]) :
    PS X (.Assign [tg] e pos) (tS g W (sUnp p fe)) := (ps_asg he hg hs hw h1).imp fun E σ H q => by
  obtain ⟨H0, Z0, Z, fps, σl, ss, o⟩ := q
  refine ⟨H0, Z, fps, σl, ss.sr, (OutS.rS ss o).imp fun d o v H' Z' fp pp => ?_⟩
  obtain ⟨hc, o⟩ := OutS.guard o
  have ss1 := ss.step pp.same pp.zx
  obtain ⟨σl', e, o⟩ := (OutS.rS ss o).okOf fun c fs => bindP_err
  refine ⟨H0, Z', fps, σl, d, σl', ss1.sr, pp.rep.to0 hc, e, fun σ' fps' sr _ => ?_⟩
  exact o σ' H' Z' fps' ⟨sr, ss1.z0, ss1.zn⟩ (.of_zx pp.same pp.zx)

theorem ss_while {c : Expr} {body : List Stmt} (hp : PassesOwn (model X.prog X.w) X.A X.env X.xe) (hc : PT X c (tIT g W fc)) (hb : PSs X body (tS g W f)) : PS X (.While c body [] pos) (tS g W (sWhl fc f)) := (ps_while hp hc hb).imp fun E σ H q => by
  obtain ⟨H0, Z0, Z, fps, σl, ss, o⟩ := q
  obtain ⟨n, hn⟩ := whl_ex (c := fc) (f := f) (σ := σl) fun e => by rw [e] at o; exact o
  rw [← hn] at o
  refine ⟨fun m σ' H' => ∃ Zi fpi σli, SS g H0 Z0 Zi fpi σli σ' H' ∧ OutS g W H0 Z0 Zi H' E (lp fc f m σli), ⟨n, Z, fps, σl, ss, o⟩, ?_⟩
  rintro m σ1 H1 ⟨Zi, fpi, σli, ssi, oi⟩
  cases m with
  | zero => exact oi.elim
  | succ m =>
    refine ⟨H0, Zi, fpi, σli, ssi.sr, (OutS.rS ssi oi).imp fun d o => ?_⟩
    cases d with
    | bl b =>
      refine ⟨b, rfl, fun H2 Z2 s z => ?_⟩
      have ss2 := ssi.step s z
      have ev2 := Ev.of_zx s z
      cases b with
      | false => exact o σ1 H2 Z2 fpi ss2 ev2
      | true =>
        show ∃ N : L2.St → Hp → Prop, (∀ σ' H', N σ' H' → ∃ m', m' < m + 1 ∧ ∃ Zi fpi σli, SS g H0 Z0 Zi fpi σli σ' H' ∧ OutS g W H0 Z0 Zi H' E (lp fc f m' σli)) ∧ tS g W f { E with nx := N, ct := N, bk := E.nx } σ1 H2
        refine ⟨fun σ' H' => ∃ Zi fpi σli, SS g H0 Z0 Zi fpi σli σ' H' ∧ OutS g W H0 Z0 Zi H' E (lp fc f m σli), fun σ' H' h => ⟨m, Nat.lt_succ_self m, h⟩, H0, Z0, Z2, fpi, σli, ss2, ?_⟩
        have o := o.pre ev2
        simp only [if_pos] at o
        cases hf : f σli with
        | nx σl' => rw [hf] at o; exact fun σ' H' Z' fps' s e => ⟨Z', fps', σl', s, o.pre e⟩
        | ct σl' => rw [hf] at o; exact fun σ' H' Z' fps' s e => ⟨Z', fps', σl', s, o.pre e⟩
        | bk σl' => rw [hf] at o; exact o
        | rt d => rw [hf] at o; exact o
        | er c fs σl' => rw [hf] at o; exact o
        | bad => rw [hf] at o; exact o
    | _ => exact o.elim

theorem SR.zone {Z Z' : Addr → Prop} {H0 H : Hp} {fps : List (List Addr)} {σl : Sl} {σ : L2.St} (r : SR g H0 Z fps σl σ H) (le : ∀ a, Z a → Z' a) (inn : ∀ a, Z' a → H a ≠ none) (oth : ∀ a ∈ fps.flatten, ¬ Z' a) : SR g H0 Z' fps σl σ H where
  len := r.len
  lenf := r.lenf
  slot i d e := by
    obtain ⟨v, fp, e1, e2, rp⟩ := r.slot i d e
    exact ⟨v, fp, e1, e2, rp.same le (same_refl H)⟩
  gone := r.gone
  nd := r.nd
  own a ha := ⟨oth a ha, (r.own a ha).2⟩
  z := inn
  same := r.same
theorem ss_for {iter tg : Expr} {body : List Stmt} {p : Pat} {fi : Sl → R (List D)} (hp : PassesOwn (model X.prog X.w) X.A X.env X.xe) (hc : X.calm = true) (hi : PI X tg iter (tIW g W true fi)) (hg : PG X tg (tG g p)) (hb : PSs X body (tS g W f))
    (hs : ∀ x, foldedSetIterable iter X.env x = pure x) : PS X (.For tg iter body [] pos) (tS g W (sFor p fi f)) := (ps_for hp hc hi hg hb hs).imp fun E σ H q => by
  obtain ⟨H0, Z0, Z, fps, σl, ss, o⟩ := q
  refine ⟨H0, Z, fps, σl, ss.sr, (OutS.rS ss o).imp fun xs o J H1 Z1 fp s1 z1 wk hin hfp => ?_⟩
  have ss1 := ss.step s1 z1
  have hfp := hfp rfl
  have ssb : SS g H0 Z0 (fun a => Z1 a ∨ a ∈ fp) fps σl σ H1 := by
    refine ⟨ss1.sr.zone (fun a z => .inl z) (fun a z => ?_) fun a ha z => ?_, fun a z => .inl (ss1.z0 a z), fun a z => ?_⟩
    · rcases z with z | m
      · exact ss1.sr.z a z
      · exact hin a m
    · rcases z with z | m
      · exact (ss1.sr.own a ha).1 z
      · exact (ss.sr.own a ha).2.2 (hfp a m).1
    · rcases z with z | m
      · exact ss1.zn a z
      · exact .inr (same_none ss.sr.same (hfp a m).1)
  have evb : Ev Z (fun a => Z1 a ∨ a ∈ fp) H H1 := ⟨fun a z => .inl (z1.le a z), .of_same s1⟩
  refine ⟨fun i m σ' H' => ∃ Zi fpi σli, SS g H0 Z0 Zi fpi σli σ' H' ∧ Ev (fun a => Z1 a ∨ a ∈ fp) Zi H1 H' ∧ i + m = xs.length ∧ OutS g W H0 Z0 Zi H' E (fr p f (xs.drop i) σli),
    ⟨xs.length, _, fps, σl, ssb, .refl, by omega, o.pre evb⟩, fun i m σ2 H2 hw => ?_⟩
  obtain ⟨Zi, fpi, σli, ssi, evi, em, oi⟩ := hw
  have kpi : Kp Z1 fp H1 H2 := ⟨evi.kp.tup, evi.kp.frz, fun a o h => evi.kp.z a o (.inl h), fun a o h => evi.kp.z a o (.inr h), evi.kp.xd⟩
  by_cases hi : i < xs.length
  · refine .inr ⟨wk.go H2 i kpi hi, fun σ3 H3 => ∃ Z3 fps3 σl3, SS g H0 Z0 Z3 fps3 σl3 σ3 H3 ∧ Ev (fun a => Z1 a ∨ a ∈ fp) Z3 H1 H3 ∧ OutS g W H0 Z0 Z3 H3 E (fr p f (xs.drop (i + 1)) σl3), fun σ3 H3 hN => ?_, fun x' H3 y => ?_⟩
    · obtain ⟨Z3, fps3, σl3, ss3, ev3, o3⟩ := hN
      exact ⟨m - 1, by omega, Z3, fps3, σl3, ss3, ev3, by omega, o3⟩
    · obtain ⟨s2, rp⟩ := wk.yld H2 H3 i x' xs[i] kpi (List.getElem?_eq_getElem hi) y
      have z2 : Zx Zi Zi H2 H3 := .stay ssi.sr.z s2
      have ss3 := ssi.step s2 z2
      have ev3 := Ev.of_zx s2 z2
      rw [List.drop_eq_getElem_cons hi] at oi
      have oi : OutS g W H0 Z0 Zi H2 E (rS (bindP σli p xs[i]) σli fun σ1 => match f σ1 with
        | .nx σ' => fr p f (xs.drop (i + 1)) σ'
        | .ct σ' => fr p f (xs.drop (i + 1)) σ'
        | .bk σ' => .nx σ'
        | r => r) := oi
      obtain ⟨σl1, e1, oi⟩ := (OutS.rS ssi oi).okOf fun c fs => bindP_err
      refine ⟨H0, Zi, fpi, σli, xs[i], σl1, ss3.sr, rp.keep (fun a z => evi.le a (.inl z)) (.of_same (same_refl _)), e1, fun σ4 fps4 sr4 _ => ?_⟩
      refine ⟨H0, Z0, Zi, fps4, σl1, ⟨sr4, ss3.z0, ss3.zn⟩, ?_⟩
      have oi := oi.pre ev3
      have ev4 := evi.trans ev3
      cases hf : f σl1 with
      | nx σl' => rw [hf] at oi; exact fun σ' H' Z' fps' s e => ⟨Z', fps', σl', s, ev4.trans e, oi.pre e⟩
      | ct σl' => rw [hf] at oi; exact fun σ' H' Z' fps' s e => ⟨Z', fps', σl', s, ev4.trans e, oi.pre e⟩
      | bk σl' => rw [hf] at oi; exact oi
      | rt d => rw [hf] at oi; exact oi
      | er c fs σl' => rw [hf] at oi; exact oi
      | bad => rw [hf] at oi; exact oi
  · have ei : i = xs.length := by omega
    subst ei
    rw [List.drop_length] at oi
    exact .inl ⟨wk.stop H2 kpi, oi σ2 H2 Zi fpi ssi .refl⟩

theorem lstOf_err {r : R D} {c : Nat} {fs : List D} (h : r ≠ .err c fs) : r.bind lstOf ≠ .err c fs := fun e => by
  cases r with
  | ok d =>
    cases d with
    | lst o xs => cases o <;> cases e
    | _ => cases e
  | err c' fs' => exact h (by cases e; rfl)
  | bad => cases e
theorem lstOf_ok {r : R D} {xs : List D} (h : r.bind lstOf = .ok xs) : r = .ok (.lst true xs) := by
  cases r with
  | ok d =>
    cases d with
    | lst o ys => cases o <;> cases h; rfl
    | _ => cases h
  | err c' fs' => cases h
  | bad => cases h
theorem ss_app {x : Str} {p apos cpos : Pos} (G : Gof g X) (hN : X.N[i]? = some x) (hv : Vis X.env.scope x) (hd : (x == ("__debug__" : Str)) = false) (hcd : (x == ("__classdict__" : Str)) = false) (he : PE X e (tI g W true fe))
    (hst : starEach [e] X.env = (false, eval e X.env) :: starEach [] X.env)
    (hbase : attributeBase (.Name x p) "append" X.env (eval (.Name x p) X.env) = eval (.Name x p) X.env)
    (hfew : ((backTo cpos (starEach [e] X.env)).all (fun x => !x.1) && (backToKw cpos (keywordEach [] X.env)).all (fun x => x.1.isSome)
      && decide ([e].length + ([] : List Keyword).length + (if ([] : List Keyword).isEmpty then 0 else 1) < 30)) = true)
    (hline : (apos.endLine == cpos.line) = true) (hplain : (backTo cpos (starEach [] X.env)).any (·.1) = false)
    (hs : swapsWith (.Call (.Attribute (.Name x p) "append" apos) [e] [] cpos) none pos.line X.env = pure false) :
    PS X (.Expr (.Call (.Attribute (.Name x p) "append" apos) [e] [] cpos) pos) (tS g W (sApp i fe)) :=
  (ps_expr (pe_bm PySem.F.plainAttrs_list PySem.F.slot_list_append PySem.F.type_list_append mt_append (pe_var hN hv hd hcd) (pa_cons he pa_nil hst) hbase hfew hline hst hplain) hs).imp fun E σ H q => by
  obtain ⟨H0, Z0, Z, fps, σl, ss, o⟩ := q
  obtain ⟨xs, e0, o⟩ := (OutS.rS ss o).okOf fun c fs => lstOf_err getS_err
  obtain ⟨v, fp, e1, e2, rp⟩ := ss.sr.slot i _ (getS_ok (lstOf_ok e0))
  obtain ⟨l, vs, fs, rfl, hl, rs, rfl⟩ := rep_own rp
  refine ⟨.ref l, e1, .inl ⟨rfl, vs, .inl (.inl hl)⟩, H0, Z, fps, σl, ss.sr, (OutS.rS ss o).imp fun y o v1 H1 Z1 fy p1 => ?_⟩
  obtain ⟨hz, o⟩ := OutS.guard o
  have hl1 : H1 l = some (.lst vs) := p1.same _ _ hl
  have ss1 := ss.step p1.same p1.zx
  have own := fun a ha => ss1.sr.own a (mem_at e2 a ha)
  have nd := nd_at ss.sr.nd e2
  obtain ⟨ny, oy⟩ := p1.own rfl
  refine ⟨l, vs, v1, rfl, rfl, hl1, by rw [← rs.length]; exact hz, ?_⟩
  have lo := own l List.mem_cons_self
  have fy_old : ∀ a ∈ fy, a ∉ fps.flatten := fun a ha q => (ss.sr.own a q).2.2 (oy a ha).1
  have lfy : l ∉ fy := fun q => fy_old l q (mem_at e2 l List.mem_cons_self)
  have lfs : l ∉ fs := (List.nodup_cons.mp nd).1
  have ow : Owd g.P g.w l (H1 l) := .inl ⟨vs, hl1⟩
  have rep2 : Rep g Z1 (upd H1 l (.lst (vs ++ [v1]))) (.lst true (xs ++ [y])) (.ref l) (l :: (fs ++ (fy ++ []))) :=
    .lst upd_same (((rs.same p1.zx.le p1.same).keep (fun _ z => z) (kp_upd ow lo.1 lfs)).append (.cons (p1.rep.keep (fun _ z => z) (kp_upd ow lo.1 lfy)) .nil)) (.inl ⟨rfl, rfl⟩)
  have ap := mem_apart ss.sr.nd e2
  have r2 := ss1.sr.put (i := i) (same_updO ss1.sr.same lo.2.1) (fun _ z => z) (fun a z => upd_some (ss1.sr.z a z)) (kp_upd ow lo.1 (ap l List.mem_cons_self)) (fun a ha => (ss1.sr.own a (mem_set0 ha)).1) rep2
    (by
      rw [List.append_nil]
      refine List.nodup_cons.mpr ⟨fun q => ?_, List.nodup_append.mpr ⟨(List.nodup_cons.mp nd).2, ny, fun a ha b hb e => ?_⟩⟩
      · rcases List.mem_append.mp q with q | q
        · exact lfs q
        · exact lfy q
      · exact fy_old b hb (mem_at e2 b (List.mem_cons_of_mem _ (by rw [← e]; exact ha))))
    (fun a ha => by
      rw [List.append_nil] at ha
      rcases List.mem_cons.mp ha with rfl | ha
      · exact ⟨ap a List.mem_cons_self, lo.1, lo.2.1⟩
      · rcases List.mem_append.mp ha with ha | ha
        · have q := List.mem_cons_of_mem l ha
          exact ⟨ap a q, (own a q).1, (own a q).2.1⟩
        · exact ⟨fun q => fy_old a ha (mem_set0 q), (oy a ha).2, same_none ss.sr.same (oy a ha).1⟩)
  rw [set_self e1] at r2
  exact o σ _ Z1 _ ⟨r2, ss1.z0, ss1.zn⟩ (.trans (.of_zx p1.same p1.zx) ⟨fun _ z => z, kp_upd ow lo.1 (fun h => nomatch h)⟩)
end
end DI
/-! DI, comprehensions -/
namespace DI
open PySem PySem.Spec PyProof.Rows L2
abbrev WF : L2.WX := fun _ _ _ _ => False
def noErr {α : Type} : R α → R α
  | .ok a => .ok a
  | _ => .bad
def cBody (vs : List Nat) (p : Pat) (fc fe : Sl → R D) (σ : Sl) (x : D) : R (Option D) :=
  noErr ((bindP (wipeL σ vs) p x).bind fun σ1 => (fc σ1).bind fun c => (boolOf c).bind fun b => if b = true then (fe σ1).bind fun y => .ok (some y) else .ok none)
def eComp (vs : List Nat) (p : Pat) (fi : Sl → R (List D)) (fc fe : Sl → R D) : Sl → R D := fun σ =>
  (fi σ).bind fun xs => (compR (cBody vs p fc fe σ) xs).bind fun ys => if ys.length ≤ sizeLine then .ok (.lst true ys) else .bad
theorem compR_noerr {f : D → R (Option D)} (hf : ∀ x c fs, f x ≠ .err c fs) : ∀ (xs : List D) c fs, compR f xs ≠ .err c fs
  | [], _, _, h => by cases h
  | x :: xs, c, fs, h => by
    rw [compR] at h
    cases hx : f x with
    | ok o =>
      rw [hx] at h
      cases hr : compR f xs with
      | ok ys => rw [hr] at h; cases h
      | err c' fs' => exact compR_noerr hf xs c' fs' hr
      | bad => rw [hr] at h; cases h
    | err c' fs' => exact hf x c' fs' hx
    | bad => rw [hx] at h; cases h
theorem noErr_noerr {α : Type} {r : R α} {c : Nat} {fs : List D} : noErr r ≠ .err c fs := fun h => by cases r <;> cases h
theorem noErr_ok {α : Type} {r : R α} {a : α} (h : noErr r = .ok a) : r = .ok a := by cases r <;> cases h; rfl
theorem R.bind_ok_inv {α β : Type} {r : R α} {k : α → R β} {b : β} (h : r.bind k = .ok b) : ∃ a, r = .ok a ∧ k a = .ok b := by
  cases r with
  | ok a => exact ⟨a, rfl, h⟩
  | err c fs => cases h
  | bad => cases h
section
variable {g : Gv} {Z Z' : Addr → Prop} {H0 H H' : Hp} {fps : List (List Addr)} {σl : Sl} {σ : L2.St}
theorem SR.drop2 (r : SR g H0 Z fps σl σ H) (i : Nat) : SR g H0 Z (fps.set i []) (σl.set i none) (σ.set i none) H := by
  have r1 := r.drop i r.same (fun _ z => z) r.z (.of_same (same_refl H)) fun a ha => (r.own a (mem_set0 ha)).1
  refine { r1 with len := by rw [r1.len, List.length_set], lenf := by rw [r1.lenf, List.length_set], slot := fun j d e => ?_ }
  obtain ⟨v, fp, e1, e2, rp⟩ := r1.slot j d e
  refine ⟨v, fp, ?_, e2, rp⟩
  by_cases h : i = j
  · subst h
    have hl : i < σl.length := by have := lt_of_get e; rwa [List.length_set] at this
    rw [List.getElem?_set_self hl] at e; cases e
  · rw [List.getElem?_set_ne h]; exact e1
theorem SR.wiped (r : SR g H0 Z fps σl σ H) : ∀ vs : List Nat, ∃ fps', SR g H0 Z fps' (wipeL σl vs) (wipe σ vs) H ∧ ∀ a ∈ fps'.flatten, a ∈ fps.flatten
  | [] => ⟨fps, r, fun _ h => h⟩
  | v :: vs => by
    obtain ⟨f1, r1, h1⟩ := r.wiped vs
    exact ⟨f1.set v [], r1.drop2 v, fun a ha => h1 a (mem_set0 ha)⟩
theorem SR.frame (r : SR g H0 Z fps σl σ H) (sm : Same H0 H') (inn : ∀ a, Z a → H' a ≠ none) (kp : Kp Z fps.flatten H H') : SR g H0 Z fps σl σ H' where
  len := r.len
  lenf := r.lenf
  slot i d e := by
    obtain ⟨v, fp, e1, e2, rp⟩ := r.slot i d e
    exact ⟨v, fp, e1, e2, rp.keep (fun _ z => z) (kp.sub fun a ha => mem_at e2 a ha)⟩
  gone := r.gone
  nd := r.nd
  own a ha := ⟨(r.own a ha).1, (r.own a ha).2.1, by
    cases e : H a with
    | none => exact absurd e (r.own a ha).2.2
    | some o => rw [kp.own a o ha e]; exact Option.some_ne_none _⟩
  z := inn
  same := sm
end
section
variable {X : Cx} {g : Gv} {W : L2.WX}
theorem sts_nil : PTs X [] (tIT g W fun _ => .ok (.bl true)) := ⟨fun pins s σ H Q I q => pts_nil.run pins s σ H Q I (by
  obtain ⟨H0, Z, fps, σl, sr, o⟩ := q
  obtain ⟨b, e, q⟩ := o
  cases e
  exact q H Z (same_refl H) (.refl sr.z))⟩
theorem sts_one {c : Expr} {f : Sl → R D} (h : PT X c (tIT g W f)) : PTs X [c] (tIT g W f) := pts_one h
theorem comp_of {wi : Sl → R (List D)} {p : Pat} {fc fe : Sl → R D} {vs : List Nat} {b : Bool} {σ : L2.St} {H : Hp} {Q : VK} (hp : ∀ j ∈ psl p, j ∈ vs) (q : tI g W true (eComp vs p wi fc fe) σ H Q) :
    tLc (tIW g W b wi) (tG g p) (tIT g WF fc) (tI g WF true fe) vs σ H Q := by
  obtain ⟨H0, Z, fps, σl, sr, o⟩ := q
  refine ⟨H0, Z, fps, σl, sr, o.bind.imp fun xs o J H1 Z1 fp s1 z1 wk hin hfp Dd nD => ?_⟩
  obtain ⟨ys, ey, o⟩ := o.bind.okOf fun c fs => compR_noerr (fun x c fs => noErr_noerr) xs c fs
  obtain ⟨hz, o⟩ := Out.guard o
  have sr1 := sr.step s1 z1
  obtain ⟨fw, srw, hfw⟩ := sr1.wiped vs
  have sD := same_upd (o := .lst []) nD
  have hDfw : Dd ∉ fw.flatten := fun h => (sr1.own Dd (hfw Dd h)).2.2 nD
  have hDz : ¬ Z1 Dd := fun z => sr1.z Dd z nD
  have zD : Zx Z1 Z1 H1 (upd H1 Dd (.lst [])) := .stay sr1.z sD
  refine ⟨fun i m H' => i + m = xs.length ∧ ∃ Zi acc avs af zs, SR g H0 Zi fw (wipeL σl vs) (wipe σ vs) H' ∧ Same H1 H' ∧ Zx Z1 Zi H1 H' ∧ H' Dd = some (.lst avs) ∧ ¬ Zi Dd ∧ Reps g Zi H' acc avs af ∧ af.Nodup ∧ (∀ a ∈ af, H1 a = none ∧ ¬ Zi a ∧ a ≠ Dd) ∧
      compR (cBody vs p fc fe σl) (xs.drop i) = .ok zs ∧ acc ++ zs = ys, ⟨xs.length, by omega, Z1, [], [], [], ys, srw.step sD zD, sD, zD, upd_same, hDz, .nil, List.nodup_nil, (fun a h => nomatch h), ey, rfl⟩, ?_⟩
  rintro i m H2 ⟨em, Zi, acc, avs, af, zs, sri, s2, z2, hD2, hDi, ra, na, oa, ez, eys⟩
  have kp2 : Kp Z1 fp H1 H2 := .of_same s2
  by_cases hi : i < xs.length
  · refine .inr ⟨wk.go H2 i kp2 hi, fun H' => ∃ Zi acc avs af zs, SR g H0 Zi fw (wipeL σl vs) (wipe σ vs) H' ∧ Same H1 H' ∧ Zx Z1 Zi H1 H' ∧ H' Dd = some (.lst avs) ∧ ¬ Zi Dd ∧ Reps g Zi H' acc avs af ∧ af.Nodup ∧ (∀ a ∈ af, H1 a = none ∧ ¬ Zi a ∧ a ≠ Dd) ∧
      compR (cBody vs p fc fe σl) (xs.drop (i + 1)) = .ok zs ∧ acc ++ zs = ys, fun H' h => ⟨m - 1, by omega, by omega, h⟩, fun x' H3 y => ?_⟩
    obtain ⟨s3, rp⟩ := wk.yld H2 H3 i x' xs[i] kp2 (List.getElem?_eq_getElem hi) y
    have z3 : Zx Zi Zi H2 H3 := .stay sri.z s3
    rw [List.drop_eq_getElem_cons hi, compR] at ez
    obtain ⟨ob, eb, ez⟩ := R.bind_ok_inv ez
    obtain ⟨zs', er, ez⟩ := R.bind_ok_inv ez
    obtain ⟨σ1, e1, eb⟩ := R.bind_ok_inv (noErr_ok eb)
    obtain ⟨cd, e2, eb⟩ := R.bind_ok_inv eb
    obtain ⟨cb, e3, eb⟩ := R.bind_ok_inv eb
    refine ⟨H0, Zi, fw, _, xs[i], σ1, sri.step s3 z3, rp.keep (fun a z => z2.le a z) (.of_same (same_refl _)), e1, fun σ2 fps2 sr2 wa => ⟨?_, ?_⟩⟩
    · exact (wa vs hp).trans wipe_wipe
    · refine ⟨H0, Zi, fps2, σ1, sr2, ?_⟩
      rw [e2]
      have ecd : cd = .bl cb := by
        cases cd with
        | bl b => cases e3; rfl
        | _ => cases e3
      subst ecd
      refine ⟨cb, rfl, fun H4 Z4 s4 z4 => ?_⟩
      have s24 := same_trans s3 s4
      have z24 : Zx Zi Z4 H2 H4 := z3.trans s3 z4
      cases cb with
      | false =>
        have eb : R.ok none = R.ok ob := eb
        cases eb
        have ez : R.ok zs' = R.ok zs := ez
        cases ez
        have nz : ∀ a, H2 a ≠ none → ¬ Zi a → ¬ Z4 a := fun a h1 h2 h3 => by
          rcases z24.new a h3 with q | q
          · exact h2 q
          · exact h1 q
        exact ⟨Z4, acc, avs, af, _, sri.step s24 z24, same_trans s2 s24, z2.trans s2 z24, s24 _ _ hD2, nz Dd (by rw [hD2]; exact Option.some_ne_none _) hDi, ra.same z24.le s24, na, fun a ha => ⟨(oa a ha).1, nz a (Reps.there ra a ha) (oa a ha).2.1, (oa a ha).2.2⟩, er, eys⟩
      | true =>
        obtain ⟨yd, e4, eb⟩ := R.bind_ok_inv (show ((fe σ1).bind fun y => R.ok (some y)) = R.ok ob from eb)
        cases eb
        have ez : R.ok (yd :: zs') = R.ok zs := ez
        cases ez
        refine ⟨H0, Z4, fps2, σ1, sr2.step s4 z4, ?_⟩
        rw [e4]
        intro yv H5 Z5 fy p5
        have s25 := same_trans s24 p5.same
        have z25 : Zx Zi Z5 H2 H5 := z24.trans s24 p5.zx
        have hD5 := s25 _ _ hD2
        have nz : ∀ a, H2 a ≠ none → ¬ Zi a → ¬ Z5 a := fun a h1 h2 h3 => by
          rcases z25.new a h3 with q | q
          · exact h2 q
          · exact h1 q
        have hDz5 := nz Dd (by rw [hD2]; exact Option.some_ne_none _) hDi
        obtain ⟨ny, oy⟩ := p5.own rfl
        have hl := ra.length
        have hly : acc.length < ys.length := by rw [← eys, List.length_append, List.length_cons]; omega
        have ow : Owd g.P g.w Dd (H5 Dd) := .inl ⟨avs, hD5⟩
        have Dfy : Dd ∉ fy := fun q => by
          have := (oy Dd q).1
          rw [s24 _ _ hD2] at this; cases this
        have Daf : Dd ∉ af := fun q => (oa Dd q).2.2 rfl
        have k5 : ∀ fp, Dd ∉ fp → Kp Z5 fp H5 (upd H5 Dd (.lst (avs ++ [yv]))) := fun fp h => kp_upd ow hDz5 h
        have sri5 := sri.step s25 z25
        have s15 := same_trans s2 s25
        have z15 := z2.trans s2 z25
        refine ⟨avs, hD5, by rw [← hl]; omega, Z5, acc ++ [yd], avs ++ [yv], af ++ (fy ++ []), zs', sri5.frame (same_updO sri5.same (same_none sr1.same nD)) (fun a z => upd_some (sri5.z a z)) (k5 _ hDfw), same_updO s15 nD, ⟨z15.le, z15.new, fun a z => upd_some (z15.inn a z)⟩, upd_same, hDz5,
          ((ra.same z25.le s25).keep (fun _ z => z) (k5 _ Daf)).append (.cons (p5.rep.keep (fun _ z => z) (k5 _ Dfy)) .nil), ?_, ?_, er, ?_⟩
        · rw [List.append_nil]
          refine List.nodup_append.mpr ⟨na, ny, fun a ha b hb e => ?_⟩
          subst e
          exact Reps.there ra a ha (same_none s24 (oy a hb).1)
        · intro a ha
          rw [List.append_nil] at ha
          rcases List.mem_append.mp ha with ha | ha
          · exact ⟨(oa a ha).1, nz a (Reps.there ra a ha) (oa a ha).2.1, (oa a ha).2.2⟩
          · exact ⟨same_none (same_trans s2 s24) (oy a ha).1, (oy a ha).2, fun e => Dfy (by rw [← e]; exact ha)⟩
        · rw [List.append_assoc]; exact eys
  · have ei : i = xs.length := by omega
    subst ei
    rw [List.drop_length] at ez
    cases ez
    rw [List.append_nil] at eys
    subst eys
    refine .inl ⟨wk.stop H2 kp2, ?_⟩
    refine o (.ref Dd) H2 Zi (Dd :: af) ⟨same_trans s1 s2, z1.trans s1 z2, .lst hD2 ra (.inl ⟨rfl, rfl⟩), fun _ => ⟨List.nodup_cons.mpr ⟨fun q => (oa Dd q).2.2 rfl, na⟩, fun a ha => ?_⟩⟩
    rcases List.mem_cons.mp ha with rfl | ha
    · exact ⟨same_none s1 nD, hDi⟩
    · exact ⟨same_none s1 (oa a ha).1, (oa a ha).2.1⟩
/-- [elt for target in iter if ..] -/
theorem se_comp {elt tg iter : Expr} {ifs : List Expr} {scope : Scope} {own : List (Str × Nat)} {pos : Pos} {wi : Sl → R (List D)} {p : Pat} {fc fe : Sl → R D} {b : Bool} (hc : X.calm = true) (hN : X.N.Nodup) (ok : blkC X.N X.env.scope scope own = true) (hp : ∀ j ∈ psl p, j ∈ own.map (·.2)) (hi : PI X tg iter (tIW g W b wi))
    (hg : ∀ (s : Shared) (H : Hp) (C : Addr) (cl : List (Str × Addr)) (fp : List Addr), PG (X.blk s H scope (compEnvC scope cl C X.env) fp) tg (tG g p)) (ht : ∀ (s : Shared) (H : Hp) (C : Addr) (cl : List (Str × Addr)) (fp : List Addr), PTs (X.blk s H scope (compEnvC scope cl C X.env) fp) ifs (tIT g WF fc))
    (he : ∀ (s : Shared) (H : Hp) (C : Addr) (cl : List (Str × Addr)) (fp : List Addr), PE (X.blk s H scope (compEnvC scope cl C X.env) fp) elt (tI g WF true fe)) (hs : ∀ x, foldedSetIterable iter X.env x = pure x) :
    PE X (.ListComp elt [⟨tg, iter, ifs, 0⟩] scope pos) (tI g W true (eComp (own.map (·.2)) p wi fc fe)) := (pe_lc hc hN hi (blkOk_by ok) hg ht he hs).imp fun _ _ _ q => comp_of hp q
/-- name = [..] on one line -/
theorem ss_setLc {i : Nat} {y : Str} {py : Pos} {elt tg iter : Expr} {ifs : List Expr} {scope : Scope} {own : List (Str × Nat)} {pos spos : Pos} {wi : Sl → R (List D)} {p : Pat} {fc fe : Sl → R D} {b : Bool} (hc : X.calm = true) (hN : X.N.Nodup) (hy : X.N[i]? = some y) (hyl : X.env.scope.names.lookup y = some .local)
    (hsw : swapsWith (.ListComp elt [⟨tg, iter, ifs, 0⟩] scope pos) (some (.Name y py)) spos.line X.env = pure true) (ok : blkC X.N X.env.scope scope own = true) (hp : ∀ j ∈ psl p, j ∈ own.map (·.2)) (hi : PI X tg iter (tIW g W b wi))
    (hg : ∀ (s : Shared) (H : Hp) (C : Addr) (cl : List (Str × Addr)) (fp : List Addr), PG (X.blk s H scope (compEnvC scope cl C X.env) fp) tg (tG g p)) (ht : ∀ (s : Shared) (H : Hp) (C : Addr) (cl : List (Str × Addr)) (fp : List Addr), PTs (X.blk s H scope (compEnvC scope cl C X.env) fp) ifs (tIT g WF fc))
    (he : ∀ (s : Shared) (H : Hp) (C : Addr) (cl : List (Str × Addr)) (fp : List Addr), PE (X.blk s H scope (compEnvC scope cl C X.env) fp) elt (tI g WF true fe)) (hs : ∀ x, foldedSetIterable iter X.env x = pure x) :
    PS X (.Assign [.Name y py] (.ListComp elt [⟨tg, iter, ifs, 0⟩] scope pos) spos) (tS g W (sSet i (eComp (own.map (·.2)) p wi fc fe))) := (ps_setLc hc hN hy hyl hsw hi (blkOk_by ok) hg ht he hs).imp fun E σ H q => by
  obtain ⟨H0, Z0, Z, fps, σl, ss, o⟩ := q
  exact comp_of hp ⟨H0, Z, fps, σl, ss.sr, (OutS.rS ss o).imp fun d o v H' Z' fp p => o _ H' Z' _ (ss.bind i p) (.of_zx p.same p.zx)⟩
end
end DI
/-! DI, dicts written, defs -/
namespace DI
open PySem PySem.Spec PyProof.Rows L2
section
variable {g : Gv} {Z Z' : Addr → Prop} {H H' : Hp}
theorem nk_inj {a b : Key} (h : nk a = nk b) : a = b := by
  cases a <;> cases b <;> simp [nk] at h <;> rw [h]
theorem reps_mapv {α : Type} {ks : List (NestedKey × D)} {k : NestedKey} {d : D} {v : V} (rd : Rep g Z H d v []) : ∀ {xs : List α} {kx : α → NestedKey} {vx : α → V} {up : α → α}, (∀ a, kx (up a) = kx a) → (∀ a, vx (up a) = if kx a = k then v else vx a) → xs.map kx = ks.map (·.1) → Reps g Z H (ks.map (·.2)) (xs.map vx) [] →
    Reps g Z H ((ks.map fun p => if p.1 = k then (p.1, d) else p).map (·.2)) ((xs.map up).map vx) [] := by
  induction ks with
  | nil => intro xs kx vx up _ _ e _; cases xs with
    | nil => exact .nil
    | cons x xs => cases e
  | cons p r ih => intro xs kx vx up h1 h2 e rs; cases xs with
    | nil => cases e
    | cons x xs =>
      rw [List.map_cons, List.map_cons] at e rs
      have e1 : kx x = p.1 := (List.cons.inj e).1
      have e2 := (List.cons.inj e).2
      generalize hf : ([] : List Addr) = f at rs
      cases rs with
      | cons h hs =>
        obtain ⟨ea, eb⟩ := List.append_eq_nil_iff.mp hf.symm
        subst ea eb
        rw [List.map_cons, List.map_cons, List.map_cons, List.map_cons]
        refine .cons (f := []) (fs := []) ?_ (ih h1 h2 e2 hs)
        rw [h2, e1]
        by_cases hk : p.1 = k
        · rw [if_pos hk, if_pos hk]; exact rd
        · rw [if_neg hk, if_neg hk]; exact h
theorem keys_mapv {ks : List (NestedKey × D)} {k : NestedKey} {d : D} : (ks.map fun p => if p.1 = k then (p.1, d) else p).map (·.1) = ks.map (·.1) := by
  rw [List.map_map]
  congr 1
  funext p
  show (if p.1 = k then (p.1, d) else p).1 = p.1
  by_cases h : p.1 = k
  · rw [if_pos h]
  · rw [if_neg h]
theorem any_keys {α : Type} {ks : List (NestedKey × D)} {k : NestedKey} {xs : List α} {kx : α → NestedKey} (e : xs.map kx = ks.map (·.1)) : (ks.any fun p => decide (p.1 = k)) = xs.any fun a => decide (kx a = k) := by
  have h1 : (ks.any fun p => decide (p.1 = k)) = (ks.map (·.1)).any fun q => decide (q = k) := by rw [List.any_map]; rfl
  have h2 : (xs.any fun a => decide (kx a = k)) = (xs.map kx).any fun q => decide (q = k) := by rw [List.any_map]; rfl
  rw [h1, h2, e]
/-- a table with a value put, beside its data -/
theorem dput_K {kv : List (Key × V)} {kvs : List (NestedKey × D)} {q : Key} {d : D} {v : V} (e : (kv.map fun p => nk p.1) = kvs.map (·.1)) (rs : Reps g Z H (kvs.map (·.2)) (kv.map (·.2)) []) (rd : Rep g Z H d v []) :
    ((putK kv q v).map fun p => nk p.1) = (dput kvs (nk q) d).map (·.1) ∧ Reps g Z H ((dput kvs (nk q) d).map (·.2)) ((putK kv q v).map (·.2)) [] := by
  have ea : (kvs.any fun p => decide (p.1 = nk q)) = kv.any fun p => decide (p.1 = q) := by
    rw [any_keys e]
    congr 1
    funext p
    by_cases h : p.1 = q
    · rw [h]; simp
    · have h' : ¬ nk p.1 = nk q := fun z => h (nk_inj z)
      simp [h, h']
  unfold dput putK
  rw [ea]
  by_cases ha : (kv.any fun p => decide (p.1 = q)) = true
  · rw [if_pos ha, if_pos ha]
    refine ⟨?_, ?_⟩
    · rw [keys_mapv, ← e, List.map_map]
      congr 1
      funext p
      show nk (if p.1 = q then (p.1, v) else p).1 = nk p.1
      by_cases h : p.1 = q
      · rw [if_pos h]
      · rw [if_neg h]
    · refine reps_mapv rd (kx := fun (p : Key × V) => nk p.1) (vx := fun (p : Key × V) => p.2) (fun p => ?_) (fun p => ?_) e rs
      · by_cases h : p.1 = q
        · rw [if_pos h]
        · rw [if_neg h]
      · by_cases h : p.1 = q
        · rw [if_pos h, if_pos (by rw [h])]
        · rw [if_neg h, if_neg (fun z => h (nk_inj z))]
  · rw [if_neg ha, if_neg ha]
    refine ⟨?_, ?_⟩
    · rw [List.map_append, List.map_append, e]; rfl
    · rw [List.map_append, List.map_append]
      exact rs.append (f1 := []) (f2 := []) (.cons (f := []) (fs := []) rd .nil)
theorem dput_N {xs : List (NestedKey × Addr × V)} {kvs : List (NestedKey × D)} {k : NestedKey} {b : Addr} {d : D} {v : V} (e : xs.map (·.1) = kvs.map (·.1)) (rs : Reps g Z H (kvs.map (·.2)) (xs.map (·.2.2)) []) (rd : Rep g Z H d v []) :
    (putN xs k b v).map (·.1) = (dput kvs k d).map (·.1) ∧ Reps g Z H ((dput kvs k d).map (·.2)) ((putN xs k b v).map (·.2.2)) [] := by
  have ea : (kvs.any fun p => decide (p.1 = k)) = xs.any fun p => decide (p.1 = k) := any_keys e
  unfold dput putN
  rw [ea]
  by_cases ha : (xs.any fun p => decide (p.1 = k)) = true
  · rw [if_pos ha, if_pos ha]
    refine ⟨?_, ?_⟩
    · rw [keys_mapv, ← e, List.map_map]
      congr 1
      funext p
      show (if p.1 = k then (p.1, p.2.1, v) else p).1 = p.1
      by_cases h : p.1 = k
      · rw [if_pos h]
      · rw [if_neg h]
    · refine reps_mapv rd (kx := fun (p : NestedKey × Addr × V) => p.1) (vx := fun (p : NestedKey × Addr × V) => p.2.2) (fun p => ?_) (fun p => ?_) e rs
      · by_cases h : p.1 = k
        · rw [if_pos h]
        · rw [if_neg h]
      · by_cases h : p.1 = k
        · rw [if_pos h, if_pos h]
        · rw [if_neg h, if_neg h]
  · rw [if_neg ha, if_neg ha]
    refine ⟨?_, ?_⟩
    · rw [List.map_append, List.map_append, e]; rfl
    · rw [List.map_append, List.map_append]
      exact rs.append (f1 := []) (f2 := []) (.cons (f := []) (fs := []) rd .nil)
theorem dput_len (kvs : List (NestedKey × D)) (k : NestedKey) (d : D) : (dput kvs k d).length ≤ kvs.length + 1 := by
  unfold dput
  by_cases h : (kvs.any fun p => decide (p.1 = k)) = true
  · rw [if_pos h, List.length_map]; omega
  · rw [if_neg h, List.length_append]; exact Nat.le_refl _
theorem putN_len (xs : List (NestedKey × Addr × V)) (k : NestedKey) (b : Addr) (v : V) : (putN xs k b v).length ≤ xs.length + 1 := by
  unfold putN
  by_cases h : (xs.any fun p => decide (p.1 = k)) = true
  · rw [if_pos h, List.length_map]; omega
  · rw [if_neg h, List.length_append]; exact Nat.le_refl _
theorem putN_ne (xs : List (NestedKey × Addr × V)) (k : NestedKey) (b : Addr) (v : V) : putN xs k b v ≠ [] := by
  unfold putN
  by_cases h : (xs.any fun p => decide (p.1 = k)) = true
  · rw [if_pos h]
    intro z
    cases xs with
    | nil => simp at h
    | cons => cases z
  · rw [if_neg h]; simp
theorem putN_mem {xs : List (NestedKey × Addr × V)} {k : NestedKey} {b : Addr} {v : V} {P : NestedKey × Addr → Prop} (h : ∀ p ∈ xs, P (p.1, p.2.1)) (hk : P (k, b)) : ∀ p ∈ putN xs k b v, P (p.1, p.2.1) := by
  intro p hp
  unfold putN at hp
  by_cases ha : (xs.any fun p => decide (p.1 = k)) = true
  · rw [if_pos ha] at hp
    obtain ⟨q, hq, rfl⟩ := List.mem_map.mp hp
    by_cases e : q.1 = k
    · rw [if_pos e]; exact h q hq
    · rw [if_neg e]; exact h q hq
  · rw [if_neg ha] at hp
    rcases List.mem_append.mp hp with hp | hp
    · exact h p hp
    · rw [List.mem_singleton.mp hp]; exact hk
theorem putN_nodup {xs : List (NestedKey × Addr × V)} {k : NestedKey} {b : Addr} {v : V} (h : (xs.map (·.1)).Nodup) : ((putN xs k b v).map (·.1)).Nodup := by
  unfold putN
  by_cases ha : (xs.any fun p => decide (p.1 = k)) = true
  · rw [if_pos ha, List.map_map]
    have : (xs.map ((fun p : NestedKey × Addr × V => p.1) ∘ fun p => if p.1 = k then (p.1, p.2.1, v) else p)) = xs.map (·.1) := by
      congr 1
      funext p
      show (if p.1 = k then (p.1, p.2.1, v) else p).1 = p.1
      by_cases h : p.1 = k
      · rw [if_pos h]
      · rw [if_neg h]
    rw [this]; exact h
  · rw [if_neg ha, List.map_append]
    refine List.nodup_append.mpr ⟨h, by simp, fun a hx c hc e => ?_⟩
    have hc : c = k := List.mem_singleton.mp hc
    subst e hc
    obtain ⟨p, hp, e⟩ := List.mem_map.mp hx
    exact ha (List.any_eq_true.mpr ⟨p, hp, decide_eq_true e⟩)
end

section
variable {X : Cx} {g : Gv} {W : L2.WX}
/-- d[k] = v upon data: d owned -/
def rPutD (g : Gv) : TSet := fun o i v H Q => ∃ Z x d kvs k fo fx a, o = .ref a ∧ (∀ a, Z a → H a ≠ none) ∧ ¬ Z a ∧ Rep g Z H (.dct true kvs) (.ref a) fo ∧ Rep g Z H x i fx ∧ Rep g Z H d v [] ∧ keyIn x kvs = .ok k ∧ kvs.length < sizeLine ∧
  ∀ u, Owd g.P g.w a (H a) → Rep g Z (upd H a u) (.dct true (dput kvs k d)) (.ref a) [a] → Q (upd H a u)
theorem set_D (G : Gof g X) (hu : X.A.units + 70 < cLine) : PSet X (rPutD g) := by
  intro pins s σ H o i v ov iv u Q I ro ri rv h
  obtain ⟨Z, x, d, kvs, k, fo, fx, a, rfl, hz, nz, rd, rx, rdv, hk, hlen, q⟩ := h
  cases ro
  rcases (keyIn_ok hk).2 with ⟨hl, hx, ha⟩ | ⟨ht, hd8, ha⟩
  · obtain ⟨a', kv, qq, o, fp, ea, hH, e1, rfl, ek, rvs, _⟩ := dv_leaf I (g := g) (Z := Z) (d := .ref a) ⟨⟨fx, rx⟩, ⟨true, fo, rd⟩, hk⟩ hl hx ha
    cases ea
    subst e1
    have hlk : kv.length < sizeLine := by
      have := congrArg List.length ek
      simp only [List.length_map] at this
      omega
    have ow : Owd g.P g.w a (H a) := .inr (.inl ⟨kv, hH⟩)
    refine d_setItem (y := kV qq) (v := v) (by omega) I (DPut.k (k := qq) hH hlk) ri rv fun s' I' => ⟨_, I', q _ ow ?_⟩
    have kp := kp_upd (Z := Z) (fp := []) (u := .dK (putK kv qq v)) ow nz (fun h => nomatch h)
    obtain ⟨p1, p2⟩ := dput_K (q := qq) ek (rvs.keep (fun _ z => z) kp) (rdv.keep (fun _ z => z) kp)
    exact .dK upd_same p1 p2 own_new
  · have hkk := (keyIn_ok hk).1
    obtain ⟨b, rfl⟩ := tup_rep rx hkk ht
    obtain ⟨a', xs, ys, ea, nv, mu⟩ := nv_of G I rd ha
    cases ea
    cases ri
    have ow : Owd g.P g.w a (H a) := by
      cases rd with
      | dK h e hs w => exact .inr (.inl ⟨_, h⟩)
      | dN h e ne hk hs w => exact .inr (.inr ⟨_, h⟩)
    have krx : KRep g.K H k (.ref b) := rx.krep hkk
    have hkey : (nestedKind X.prog X.w).is s.heap k b := ⟨KRep.is (v := .ref b) (u := .ref b) I (by rw [G.K]; exact krx) rfl, hd8⟩
    have hlx : xs.length < sizeLine := by
      have := congrArg List.length nv.keys
      simp only [List.length_map] at this
      omega
    refine wpAny_setItem_heap (knd := nestedKind X.prog X.w) (hsz := by rw [← nv.pair.length]; exact nv.len) (show X.A.units + 1 + 8 < cLine by omega) hkey (by rw [G.P, G.w]; exact nv.dict) fun h' dd' hs => ?_
    obtain ⟨ob, es, ep, h1, h2, h3, h4, h5, h6⟩ := dd'
    have kp := kp_upd (Z := Z) (fp := []) (u := rawN g.P g.w a (putN xs k b v)) ow nz (fun h => nomatch h)
    obtain ⟨p1, p2⟩ := dput_N (k := k) (b := b) nv.keys (nv.vals.keep (fun _ z => z) kp) (rdv.keep (fun _ z => z) kp)
    refine ⟨_, d_write (ob := rawN g.P g.w a (putN xs k b v)) I mu hs ⟨ob, h1⟩ ?_, q _ ow ?_⟩
    · have hn : ((putN xs k b v).map (·.1)).Nodup := by
        have := nv.pair.put k (b := b) rv
        rw [← PN.keys this]; exact h6
      refine ⟨⟨by have := putN_len xs k b v; omega, nv.nosys, hn, storedH ys k b u, nv.pair.put k rv, ob, es, ep, h1, h2, h3, by rw [← G.P, ← G.w]; exact h4⟩, ⟨ob, h1⟩, fun g1 g2 φ kk => ?_⟩
      obtain ⟨l1, l2, l3, y, l4, o1, es1, ep1, e1, e2, e3, e4⟩ := φ
      exact ⟨l1, l2, l3, y, l4, o1, es1, ep1, kk _ e1, e2, e3, e4⟩
    · refine .dN upd_same p1 (putN_ne _ _ _ _) (putN_mem (P := fun z => KRep g.K _ z.1 (.ref z.2) ∧ z.1.depth ≤ 8) (fun p hp => ⟨(nv.krep p hp).1.keep kp.tup, (nv.krep p hp).2⟩) ⟨krx.keep kp.tup, hd8⟩) p2 own_new
def dctOf : D → R (List (NestedKey × D))
  | .dct true xs => .ok xs
  | _ => .bad
def lstClean : D → R (List D)
  | .lst true xs => if cleanL xs = true then .ok xs else .bad
  | _ => .bad
/-- name[k] = e -/
def sPutK (i : Nat) (fk fe : Sl → R D) : SF := fun σ => rS (fe σ) σ fun y => rS ((getS σ i).bind dctOf) σ fun kvs => rS (fk σ) σ fun x => rS (keyIn x kvs) σ fun k =>
  if clean y = true ∧ kvs.length < sizeLine then .nx (σ.set i (some (.dct true (dput kvs k y)))) else .bad
theorem rep_ownD {Z : Addr → Prop} {H : Hp} {xs : List (NestedKey × D)} {v : V} {fp : List Addr} (r : Rep g Z H (.dct true xs) v fp) : ∃ l, v = .ref l ∧ fp = [l] := by
  cases r with
  | dK h e hs w =>
    rcases w with ⟨_, e⟩ | ⟨e, _⟩
    · exact ⟨_, rfl, e⟩
    · cases e
  | dN h e ne hk hs w =>
    rcases w with ⟨_, e⟩ | ⟨e, _⟩
    · exact ⟨_, rfl, e⟩
    · cases e
theorem dctOf_err {r : R D} {c : Nat} {fs : List D} (h : r ≠ .err c fs) : r.bind dctOf ≠ .err c fs := fun e => by
  cases r with
  | ok d =>
    cases d with
    | dct o xs => cases o <;> cases e
    | _ => cases e
  | err c' fs' => exact h (by cases e; rfl)
  | bad => cases e
theorem dctOf_ok {r : R D} {xs : List (NestedKey × D)} (h : r.bind dctOf = .ok xs) : r = .ok (.dct true xs) := by
  cases r with
  | ok d =>
    cases d with
    | dct o ys => cases o <;> cases h; rfl
    | _ => cases h
  | err c' fs' => cases h
  | bad => cases h
variable {e k : Expr} {fe fk : Sl → R D} {i : Nat} {x : Str} {p pos spos : Pos} {b b' : Bool}
theorem ss_putK (G : Gof g X) (hu : X.A.units + 70 < cLine) (hN : X.N[i]? = some x) (hv : Vis X.env.scope x) (hd : (x == ("__debug__" : Str)) = false) (hcd : (x == ("__classdict__" : Str)) = false) (he : PE X e (tI g W b fe)) (hk : PE X k (tI g W b' fk))
    (ha : ∀ v, assign (.Subscript (.Name x p) k pos) X.env v = (do
      let ov ← holding [v] (eval (.Name x p) X.env)
      let iv ← holding [v, ov] (eval k X.env)
      standAt pos
      holding [v, ov, iv] (setItem ov iv v)
      release [v, ov, iv] []))
    (hs : swapsWithSole [.Subscript (.Name x p) k pos] e spos.line X.env = pure false) (hw : swappedStores [.Subscript (.Name x p) k pos] e X.env = pure none) (h1 : (assignEach [.Subscript (.Name x p) k pos] X.env).map (·.2) = [assign (.Subscript (.Name x p) k pos) X.env]) :
    PS X (.Assign [.Subscript (.Name x p) k pos] e spos) (tS g W (sPutK i fk fe)) := (ps_asg he (pg_sub (pe_var hN hv hd hcd) hk (set_D G hu) ha) hs hw h1).imp fun E σ H q => by
  obtain ⟨H0, Z0, Z, fps, σl, ss, o⟩ := q
  refine ⟨H0, Z, fps, σl, ss.sr, (OutS.rS ss o).imp fun y o vy H1 Z1 fy p1 => ?_⟩
  have ss1 := ss.step p1.same p1.zx
  have o := o.pre (.of_zx p1.same p1.zx)
  obtain ⟨kvs, e0, o⟩ := (OutS.rS ss1 o).okOf fun c fs => dctOf_err getS_err
  obtain ⟨v, fp, e1, e2, rp⟩ := ss1.sr.slot i _ (getS_ok (dctOf_ok e0))
  obtain ⟨l, rfl, rfl⟩ := rep_ownD rp
  refine ⟨.ref l, e1, H0, Z1, fps, σl, ss1.sr, (OutS.rS ss1 o).imp fun kd o vk H2 Z2 fk' p2 => ?_⟩
  have ss2 := ss1.step p2.same p2.zx
  have o := o.pre (.of_zx p2.same p2.zx)
  obtain ⟨kk, ekk, o⟩ := (OutS.rS ss2 o).okOf keyIn_err
  obtain ⟨⟨hc, hl⟩, o⟩ := OutS.guard o
  have own := ss2.sr.own l (mem_at e2 l List.mem_cons_self)
  have ap := mem_apart ss.sr.nd e2 l List.mem_cons_self
  refine ⟨Z2, kd, y, kvs, kk, [l], fk', l, rfl, ss2.sr.z, own.1, rp.same p2.zx.le p2.same, p2.rep, (p1.rep.to0 hc).same p2.zx.le p2.same, ekk, hl, fun u ow rep2 => ?_⟩
  have r2 := ss2.sr.put (i := i) (same_updO ss2.sr.same own.2.1) (fun _ z => z) (fun a z => upd_some (ss2.sr.z a z)) (kp_upd ow own.1 ap) (fun a ha => (ss2.sr.own a (mem_set0 ha)).1) rep2 (by simp)
    (fun a ha => by rw [List.mem_singleton.mp ha]; exact ⟨ap, own.1, own.2.1⟩)
  rw [set_self e1] at r2
  exact o σ _ Z2 _ ⟨r2, ss2.z0, ss2.zn⟩ ⟨fun _ z => z, kp_upd ow own.1 (fun h => nomatch h)⟩
/-- {k: v}, k a whole number or a text -/
def dispD (k v : D) : R D :=
  match key k with
  | some q => if leafD k = true ∧ clean v = true then .ok (.dct true [(q, v)]) else .bad
  | none => .bad
theorem se_disp1 (hk : PE X k (tI g W b fk)) (he : PE X e (tI g W b' fe)) : PE X (.Dict [some k] [e] pos) (tI g W true fun σ => (fk σ).bind fun x => (fe σ).bind fun y => dispD x y) := (pe_disp (pps_cons hk he pps_nil) rfl rfl (by simp) (by simp)).imp fun σ H Q q => by
  obtain ⟨H0, Z, fps, σl, sr, o⟩ := q
  intro l nl
  have s0 := same_upd (o := .dK []) nl
  have z0 : Zx Z Z H (upd H l (.dK [])) := .stay sr.z s0
  refine ⟨H0, Z, fps, σl, sr.step s0 z0, o.bind.step s0 z0 fun x o vx H1 Z1 fx p1 => ?_⟩
  have sr1 := (sr.step s0 z0).step p1.same p1.zx
  refine ⟨H0, Z1, fps, σl, sr1, o.bind.step (same_trans s0 p1.same) (z0.trans s0 p1.zx) fun y o vy H2 Z2 fy p2 => ?_⟩
  have s2 := same_trans (same_trans s0 p1.same) p2.same
  have z2 := (z0.trans s0 p1.zx).trans (same_trans s0 p1.same) p2.zx
  have hl2 : H2 l = some (.dK []) := p2.same _ _ (p1.same _ _ upd_same)
  refine ⟨hl2, ?_⟩
  have o : Out g W Z σ H (dispD x y) _ := o
  unfold dispD at o
  cases hq : key x with
  | none => rw [hq] at o; exact o.elim
  | some q =>
    rw [hq] at o
    obtain ⟨⟨hlf, hc⟩, o⟩ := Out.guard o
    obtain ⟨qq, rfl, rfl⟩ := leaf_rep p1.rep hq hlf
    refine ⟨[(qq, vy)], rfl, by simp, ?_⟩
    have nz : ¬ Z2 l := fun z => by
      rcases z2.new l z with q | q
      · exact sr.z l q nl
      · exact p2.zx.inn l z (by
          rcases p2.zx.new l z with w | w
          · rcases p1.zx.new l w with w' | w'
            · exact absurd nl (sr.z l w')
            · rw [upd_same] at w'; cases w'
          · rw [p1.same _ _ upd_same] at w; cases w)
    have ow : Owd g.P g.w l (H2 l) := .inr (.inl ⟨[], hl2⟩)
    refine o _ _ Z2 [l] ⟨same_updO s2 nl, ⟨z2.le, z2.new, fun a z => upd_some (z2.inn a z)⟩, ?_, fun _ => ⟨by simp, fun a ha => by rw [List.mem_singleton.mp ha]; exact ⟨nl, nz⟩⟩⟩
    exact .dK (kv := [(qq, vy)]) upd_same rfl (.cons (f := []) (fs := []) ((p2.rep.to0 hc).keep (fun _ z => z) (kp_upd ow nz (fun h => nomatch h))) .nil) own_new
end

/-! ### defs -/
def startL (n : Nat) (ds : List D) : Sl := ds.map some ++ List.replicate (n - ds.length) none
def resR : RS → R D
  | .rt d => .ok d
  | .nx _ => .ok .non
  | .er c fs _ => .err c fs
  | _ => .bad
def runF (n : Nat) (f : SF) (ds : List D) : R D := resR (f (startL n ds))
theorem reps_nil_get {g : Gv} {Z : Addr → Prop} {H : Hp} {xs : List D} {vs : List V} (r : Reps g Z H xs vs []) {i : Nat} {d : D} (e : xs[i]? = some d) : ∃ v, vs[i]? = some v ∧ Rep g Z H d v [] := by
  obtain ⟨u, f, e1, rr, hf, _⟩ := r.get i d e
  have ef : f = [] := List.eq_nil_iff_forall_not_mem.mpr fun a ha => nomatch hf a ha
  subst ef
  exact ⟨u, e1, rr⟩
theorem start_sr {g : Gv} {Z : Addr → Prop} {H : Hp} {ds : List D} {vs : List V} (N : List Str) (hz : ∀ a, Z a → H a ≠ none) (rs : Reps g Z H ds vs []) : SR g H Z (List.replicate (L2.start N vs).length []) (startL N.length ds) (L2.start N vs) H where
  len := by unfold startL L2.start; rw [List.length_append, List.length_append, List.length_map, List.length_map, List.length_replicate, List.length_replicate, rs.length]
  lenf := List.length_replicate
  slot i d e := by
    unfold startL at e
    have hi : i < ds.length := by
      refine Nat.lt_of_not_le fun h => ?_
      rw [List.getElem?_append_right (by rw [List.length_map]; exact h), List.getElem?_replicate] at e
      split at e <;> cases e
    rw [List.getElem?_append_left (by rw [List.length_map]; exact hi), List.getElem?_map, List.getElem?_eq_getElem hi] at e
    cases e
    obtain ⟨v, e1, rv⟩ := reps_nil_get rs (List.getElem?_eq_getElem hi)
    have hi2 : i < vs.length := by rw [← rs.length]; exact hi
    have e2 : (L2.start N vs)[i]? = some (some v) := by
      unfold L2.start
      rw [List.getElem?_append_left (by rw [List.length_map]; exact hi2), List.getElem?_map, e1]; rfl
    exact ⟨v, [], e2, by rw [List.getElem?_replicate, if_pos (lt_of_get e2)], rv⟩
  gone i e := by
    have hi := lt_of_get e
    have hl : (startL N.length ds).length = (L2.start N vs).length := by unfold startL L2.start; rw [List.length_append, List.length_append, List.length_map, List.length_map, List.length_replicate, List.length_replicate, rs.length]
    rw [List.getElem?_replicate, if_pos (by rw [← hl]; exact hi)]
  nd := by rw [List.flatten_replicate_nil]; exact List.nodup_nil
  own a ha := by rw [List.flatten_replicate_nil] at ha; exact nomatch ha
  z := hz
  same := same_refl H
section
variable {P : Program} {w : World} {K : PySem.W.Frag} {mg : Str → Option Value} {base : Heap}
/-- a def keeps its promise -/
theorem di_fn {x qual : Str} {st : Stmt} {f : Addr} {fd : FuncData} {N ps : List Str} {k : Nat} (g : Gv) (F : Fun K x qual st f fd) (S : FnScope N ps (defScope st)) (n : Nat) (hn : n = ps.length) (m : Nat) (hm : m = N.length) (b : SF)
    (hb : ∀ (cdv : Value) (A : Around) (outer : List Env) (s : Shared) (H : Hp) (E : XK), Room k (A.deeper (envOfC qual (defScope st) s.heap.objs.size f cdv)) →
      Takes (cxOf (L2.CX P w) P w K mg base N qual (defScope st) f cdv A outer s H E) (fun cls d _ H => E cls d H) →
      PassesOwn (model P w) (cxOf (L2.CX P w) P w K mg base N qual (defScope st) f cdv A outer s H E).A (cxOf (L2.CX P w) P w K mg base N qual (defScope st) f cdv A outer s H E).env (cxOf (L2.CX P w) P w K mg base N qual (defScope st) f cdv A outer s H E).xe →
      PSs (cxOf (L2.CX P w) P w K mg base N qual (defScope st) f cdv A outer s H E) (defBody st) (tS g (fun cls d _ H => E cls d H) b)) : FnOk P w K mg base (L2.CX P w) (k + 1) f fd ps (spI g n (runF m b)) := by
  subst hn hm
  refine F.okX S (fun vs H Q E h => ?_) fun cdv A outer s H vs Q E hr h => ?_
  · obtain ⟨Z, ds, hz, rs, hl, _⟩ := h
    rw [← rs.length, hl]
  · obtain ⟨Z, ds, hz, rs, hl, o⟩ := h
    refine ⟨_, hb cdv A outer s H E hr (takes_of rfl rfl rfl rfl) (passes_of rfl), H, Z, Z, _, startL N.length ds, ⟨start_sr N hz rs, fun _ z => z, fun _ z => .inl z⟩, ?_⟩
    unfold runF at o
    cases hb : b (startL N.length ds) with
    | nx σl =>
      rw [hb] at o
      exact fun σ' H' Z' fps' ss e => o .non H' Z' [] ⟨ss.sr.same, ⟨ss.z0, ss.zn, ss.sr.z⟩, .non, fun _ => ⟨List.nodup_nil, fun _ h => nomatch h⟩⟩
    | rt d => rw [hb] at o; exact fun v H' Z' fp p => o v H' Z' fp p
    | er c fs σl =>
      rw [hb] at o
      exact fun σ' H' Z' fps' cls d ss e ex => o H' Z' cls d ss.sr.same ⟨ss.z0, ss.zn, ss.sr.z⟩ ex
    | bk σl => rw [hb] at o; exact o.elim
    | ct σl => rw [hb] at o; exact o.elim
    | bad => rw [hb] at o; exact o.elim
end
end DI
/-! DI, short forms -/
namespace DI
open PySem PySem.Spec PyProof.Rows L2
/-! ### the functions of expressions -/
def eV (i : Nat) : Sl → R D := fun σ => getS σ i
def eK (d : D) : Sl → R D := fun _ => .ok d
def eO (f : Sl → R D) : Sl → R D := fun σ => (f σ).bind fun d => if clean d = true then .ok d else .bad
def eNeg (f : Sl → R D) : Sl → R D := fun σ => (f σ).bind fun x => (intOf x).bind fun i => .ok (.int (-i))
def eNot (f : Sl → R D) : Sl → R D := fun σ => (f σ).bind fun x => (boolOf x).bind fun i => .ok (.bl (!i))
noncomputable def eB (o : Bop) (f k : Sl → R D) : Sl → R D := fun σ => (f σ).bind fun x => (k σ).bind fun y => binD o x y
def eC (o : Cop) (f k : Sl → R D) : Sl → R D := fun σ => (f σ).bind fun x => (k σ).bind fun y => blR (cmpD o x y)
def eCC (o o' : Cop) (f k l : Sl → R D) : Sl → R D := fun σ => (f σ).bind fun x => (k σ).bind fun y => (cmpD o x y).bind fun r => if r = true then (l σ).bind fun z => (cmpD o' y z).bind fun r => .ok (.bl r) else .ok (.bl false)
def eAnd (f k : Sl → R D) : Sl → R D := fun σ => (f σ).bind fun x => (boolOf x).bind fun r => if r = true then (k σ).bind fun y => (boolOf y).bind fun r => .ok (.bl r) else .ok (.bl false)
def eOr (f k : Sl → R D) : Sl → R D := fun σ => (f σ).bind fun x => (boolOf x).bind fun r => if r = true then .ok (.bl true) else (k σ).bind fun y => (boolOf y).bind fun r => .ok (.bl r)
def eIf (c f k : Sl → R D) : Sl → R D := fun σ => (c σ).bind fun x => (boolOf x).bind fun r => if r = true then f σ else k σ
def eIx (f k : Sl → R D) : Sl → R D := fun σ => (f σ).bind fun x => (k σ).bind fun y => idxD x y
def aN : Sl → R D := fun _ => .ok (.tup [])
def aC (f k : Sl → R D) : Sl → R D := fun σ => (f σ).bind fun x => (k σ).bind fun r => (tupOf r).bind fun xs => .ok (.tup (x :: xs))
def eTup (f : Sl → R D) : Sl → R D := fun σ => (f σ).bind fun r => (tupOf r).bind fun xs => if xs.length ≤ sizeLine then .ok (.tup xs) else .bad
def eLst (f : Sl → R D) : Sl → R D := fun σ => (f σ).bind fun r => (tupOf r).bind fun xs => if xs.length ≤ sizeLine then .ok (.lst true xs) else .bad
def eD0 : Sl → R D := fun _ => .ok (.dct true [])
def eD1 (f k : Sl → R D) : Sl → R D := fun σ => (f σ).bind fun x => (k σ).bind fun y => dispD x y
def eSl (f : Sl → R D) (nb : Bool) (k : Sl → R D) (nc : Bool) (l : Sl → R D) : Sl → R D := fun σ => (f σ).bind fun x => (k σ).bind fun l' => (partD (if nb = true then none else some l')).bind fun l' => (l σ).bind fun h => (partD (if nc = true then none else some h)).bind fun h => slD x l' h
def eBi (b : Bi) (f : Sl → R D) : Sl → R D := fun σ => (f σ).bind fun r => (tupOf r).bind fun ds => biD b ds
def eF (h : List D → R D) (f : Sl → R D) : Sl → R D := fun σ => (f σ).bind fun r => (tupOf r).bind fun ds => (h (frzL ds)).bind fun d => if (cleanL ds || noFrz d) = true then .ok d else .bad
def eMt (m : Mt) (f k : Sl → R D) : Sl → R D := fun σ => (f σ).bind fun x => if recvOk m x = true then (k σ).bind fun r => (tupOf r).bind fun ds => mtD m x ds else .bad
def iSeq' (f : Sl → R D) : Sl → R (List D) := fun σ => (f σ).bind itemsD
def iEn (f : Sl → R D) : Sl → R (List D) := fun σ => (f σ).bind fun r => (tupOf r).bind enumD
noncomputable def iR1 (f : Sl → R D) : Sl → R (List D) := fun σ => (f σ).bind fun r => (tupOf r).bind rng1D
noncomputable def iR2 (f : Sl → R D) : Sl → R (List D) := fun σ => (f σ).bind fun r => (tupOf r).bind rng2D
def iZ (f : Sl → R D) : Sl → R (List D) := fun σ => (f σ).bind fun r => (tupOf r).bind zipD
def eT : Sl → R D := fun _ => .ok (.bl true)

section
variable {X : Cx} {g : Gv} {W : L2.WX} {a b c e tg : Expr} {es : List Expr} {f k l fc fe : Sl → R D} {x y z : Bool} {pos p : Pos} {n : Str}
theorem z_v (i : Nat) (hN : X.N[i]? = some n := by rfl) (hv : Vis X.env.scope n := by first | exact Or.inl rfl | exact Or.inr (Or.inl rfl) | exact Or.inr (Or.inr rfl)) (hd : (n == ("__debug__" : Str)) = false := by decide) (hcd : (n == ("__classdict__" : Str)) = false := by decide) :
    PE X (.Name n pos) (tI g W false (eV i)) := se_var hN hv hd hcd
theorem z_o (h : PE X e (tI g W x f)) : PE X e (tI g W true (eO f)) := h.imp fun σ H Q q => by
  obtain ⟨H0, Z, fps, σl, sr, o⟩ := q
  refine ⟨H0, Z, fps, σl, sr, o.bind.imp fun d o v H' Z' fp p => ?_⟩
  obtain ⟨hc, o⟩ := Out.guard o
  exact o v H' Z' [] ⟨p.same, p.zx, p.rep.to0 hc, fun _ => ⟨List.nodup_nil, fun _ h => nomatch h⟩⟩
theorem z_i {i j} : PE X (.Constant (.int i) j pos) (tI g W true (eK (.int i))) := se_con pe_int fun _ _ => .int _
theorem z_s {i j} : PE X (.Constant (.str i) j pos) (tI g W true (eK (.str i))) := se_con pe_str fun _ _ => .str _
theorem z_b {i j} : PE X (.Constant (.bool i) j pos) (tI g W true (eK (.bl i))) := se_con pe_bl fun _ _ => .bl _
theorem z_non {j} : PE X (.Constant .none j pos) (tI g W true (eK .non)) := se_con pe_non fun _ _ => .non
/-- a global text, a whole number -/
theorem z_gs {s : Str} {t : Tok} (hm : X.mg n = some (.str s t)) (hg : Gl X n := by rfl) (hd : (n == ("__debug__" : Str)) = false := by decide) : PE X (.Name n pos) (tI g W true (eK (.str s))) := se_con (pe_glob (v := .str s) hg hm ⟨t, rfl⟩ hd) fun _ _ => .str _
theorem z_gi {s : Int} {t : Tok} (hm : X.mg n = some (.int s t)) (hg : Gl X n := by rfl) (hd : (n == ("__debug__" : Str)) = false := by decide) : PE X (.Name n pos) (tI g W true (eK (.int s))) := se_con (pe_glob (v := .int s) hg hm ⟨t, rfl⟩ hd) fun _ _ => .int _
theorem z_neg (h : PE X a (tI g W x f)) : PE X (.UnaryOp .USub a pos) (tI g W true (eNeg f)) := se_neg h
theorem z_not (h : PE X a (tI g W x f)) : PE X (.UnaryOp .Not a pos) (tI g W true (eNot f)) := se_not h
theorem z_add (G : Gof g X) (h : PE X a (tI g W x f)) (h' : PE X b (tI g W y k)) : PE X (.BinOp a .Add b pos) (tI g W true (eB .add f k)) := se_bin opr_add (by rw [G.K]; exact opd_add) h h'
theorem z_sub (h : PE X a (tI g W x f)) (h' : PE X b (tI g W y k)) : PE X (.BinOp a .Sub b pos) (tI g W true (eB .sub f k)) := se_bin op_sub opd_sub h h'
theorem z_mul (h : PE X a (tI g W x f)) (h' : PE X b (tI g W y k)) : PE X (.BinOp a .Mult b pos) (tI g W true (eB .mul f k)) := se_bin opr_mul opd_mul h h'
theorem z_fdiv (h : PE X a (tI g W x f)) (h' : PE X b (tI g W y k)) : PE X (.BinOp a .FloorDiv b pos) (tI g W true (eB .fdiv f k)) := se_bin op_fdivW opd_fdiv h h'
theorem z_mod (h : PE X a (tI g W x f)) (h' : PE X b (tI g W y k)) : PE X (.BinOp a .Mod b pos) (tI g W true (eB .mod f k)) := se_bin op_mod opd_mod h h'
theorem z_pow (h : PE X a (tI g W x f)) (h' : PE X b (tI g W y k)) : PE X (.BinOp a .Pow b pos) (tI g W true (eB .pow f k)) := se_bin op_pow opd_pow h h'
theorem z_lt (h : PE X a (tI g W x f)) (h' : PE X b (tI g W y k)) : PE X (.Compare a [.Lt] [b] pos) (tI g W true (eC .lt f k)) := se_cmp op_lt opd_lt h h' (nobehind b (by decide) (by decide))
theorem z_le (h : PE X a (tI g W x f)) (h' : PE X b (tI g W y k)) : PE X (.Compare a [.LtE] [b] pos) (tI g W true (eC .le f k)) := se_cmp op_le opd_le h h' (nobehind b (by decide) (by decide))
theorem z_gt (h : PE X a (tI g W x f)) (h' : PE X b (tI g W y k)) : PE X (.Compare a [.Gt] [b] pos) (tI g W true (eC .gt f k)) := se_cmp op_gt opd_gt h h' (nobehind b (by decide) (by decide))
theorem z_ge (h : PE X a (tI g W x f)) (h' : PE X b (tI g W y k)) : PE X (.Compare a [.GtE] [b] pos) (tI g W true (eC .ge f k)) := se_cmp op_ge opd_ge h h' (nobehind b (by decide) (by decide))
theorem z_eq (hu : X.A.units + 70 < cLine) (G : Gof g X) (h : PE X a (tI g W x f)) (h' : PE X b (tI g W y k)) : PE X (.Compare a [.Eq] [b] pos) (tI g W true (eC .eq f k)) := se_cmp (op_eqD (by omega)) (opd_eq G) h h' (nobehind b (by decide) (by decide))
theorem z_ne (hu : X.A.units + 70 < cLine) (G : Gof g X) (h : PE X a (tI g W x f)) (h' : PE X b (tI g W y k)) : PE X (.Compare a [.NotEq] [b] pos) (tI g W true (eC .ne f k)) := se_cmp (op_neD (by omega)) (opd_ne G) h h' (nobehind b (by decide) (by decide))
theorem z_isn (h : PE X a (tI g W x f)) (h' : PE X b (tI g W y k)) : PE X (.Compare a [.Is] [b] pos) (tI g W true (eC .isN f k)) := se_cmp op_isN opd_isN h h' (nobehind b (by decide) (by decide))
theorem z_ntn (h : PE X a (tI g W x f)) (h' : PE X b (tI g W y k)) : PE X (.Compare a [.IsNot] [b] pos) (tI g W true (eC .notN f k)) := se_cmp op_notN opd_notN h h' (nobehind b (by decide) (by decide))
theorem z_in (hu : X.A.units + 70 < cLine) (G : Gof g X) (h : PE X a (tI g W x f)) (h' : PE X b (tI g W y k)) (hm : behindInMarks .In b = false := by rfl) : PE X (.Compare a [.In] [b] pos) (tI g W true (eC .mem f k)) := se_cmp (opr_mem hu G) (opd_mem G) h h' hm
theorem z_nin (hu : X.A.units + 70 < cLine) (G : Gof g X) (h : PE X a (tI g W x f)) (h' : PE X b (tI g W y k)) (hm : behindInMarks .NotIn b = false := by rfl) : PE X (.Compare a [.NotIn] [b] pos) (tI g W true (eC .nmem f k)) := se_cmp (opr_nmem hu G) (opd_nmem G) h h' hm
theorem z_lele (h : PE X a (tI g W x f)) (h' : PE X b (tI g W y k)) (h3 : PE X c (tI g W z l)) (hm : lastMarks [.LtE, .LtE] [b, c] = false := by rfl) : PE X (.Compare a [.LtE, .LtE] [b, c] pos) (tI g W true (eCC .le .le f k l)) := se_chn op_le op_le opd_le opd_le h h' h3 hm
theorem z_lelt (h : PE X a (tI g W x f)) (h' : PE X b (tI g W y k)) (h3 : PE X c (tI g W z l)) (hm : lastMarks [.LtE, .Lt] [b, c] = false := by rfl) : PE X (.Compare a [.LtE, .Lt] [b, c] pos) (tI g W true (eCC .le .lt f k l)) := se_chn op_le op_lt opd_le opd_lt h h' h3 hm
theorem z_ltle (h : PE X a (tI g W x f)) (h' : PE X b (tI g W y k)) (h3 : PE X c (tI g W z l)) (hm : lastMarks [.Lt, .LtE] [b, c] = false := by rfl) : PE X (.Compare a [.Lt, .LtE] [b, c] pos) (tI g W true (eCC .lt .le f k l)) := se_chn op_lt op_le opd_lt opd_le h h' h3 hm
theorem z_ltlt (h : PE X a (tI g W x f)) (h' : PE X b (tI g W y k)) (h3 : PE X c (tI g W z l)) (hm : lastMarks [.Lt, .Lt] [b, c] = false := by rfl) : PE X (.Compare a [.Lt, .Lt] [b, c] pos) (tI g W true (eCC .lt .lt f k l)) := se_chn op_lt op_lt opd_lt opd_lt h h' h3 hm
theorem z_gegt (h : PE X a (tI g W x f)) (h' : PE X b (tI g W y k)) (h3 : PE X c (tI g W z l)) (hm : lastMarks [.GtE, .Gt] [b, c] = false := by rfl) : PE X (.Compare a [.GtE, .Gt] [b, c] pos) (tI g W true (eCC .ge .gt f k l)) := se_chn op_ge op_gt opd_ge opd_gt h h' h3 hm
theorem z_gtge (h : PE X a (tI g W x f)) (h' : PE X b (tI g W y k)) (h3 : PE X c (tI g W z l)) (hm : lastMarks [.Gt, .GtE] [b, c] = false := by rfl) : PE X (.Compare a [.Gt, .GtE] [b, c] pos) (tI g W true (eCC .gt .ge f k l)) := se_chn op_gt op_ge opd_gt opd_ge h h' h3 hm
theorem z_and {rest : List Expr} (h : PE X a (tI g W x f)) (h' : PE X (.BoolOp .And (b :: rest) pos) (tI g W y k)) : PE X (.BoolOp .And (a :: b :: rest) pos) (tI g W false (eAnd f k)) := se_and h h'
theorem z_or {rest : List Expr} (h : PE X a (tI g W x f)) (h' : PE X (.BoolOp .Or (b :: rest) pos) (tI g W y k)) : PE X (.BoolOp .Or (a :: b :: rest) pos) (tI g W false (eOr f k)) := se_or h h'
theorem z_one {op} (h : PE X a (tI g W x f)) : PE X (.BoolOp op [a] pos) (tI g W x f) := pe_one h
theorem z_if (hc : PT X c (tIT g W fc)) (h : PE X a (tI g W x f)) (h' : PE X b (tI g W y k)) : PE X (.IfExp c a b pos) (tI g W (x && y) (eIf fc f k)) := se_ite hc h h'
theorem z_ix (hu : X.A.units + 70 < cLine) (G : Gof g X) (h : PE X a (tI g W x f)) (h' : PE X b (tI g W y k)) (hs : PlainIx b := by intro _ _; rfl) : PE X (.Subscript a b pos) (tI g W false (eIx f k)) := se_ix (ixr_all hu G) (opd_idx G) h h' hs
theorem z_sl {lo hi : Option Expr} {p2 : Pos} {nb nc : Bool} (G : Gof g X) (h : PE X a (tI g W x f)) (h' : PO X lo (tPO g W k nb)) (h3 : PO X hi (tPO g W l nc)) : PE X (.Subscript a (.Slice lo hi none p2) pos) (tI g W true (eSl f nb k nc l)) := se_sl G h h' h3
theorem z_pe (h : PE X a (tI g W x f)) : PO X (some a) (tPO g W f false) := po_e h
theorem z_pn : PO X none (tPO g W (eK .non) true) := po_n
theorem z_aN : PA X [] (tIA g W true aN) := sa_nil
theorem z_aC (h : PE X a (tI g W x f)) (h' : PA X es (tIA g W y k)) (hs : starEach (a :: es) X.env = (false, eval a X.env) :: starEach es X.env := by exact starE (by rfl)) : PA X (a :: es) (tIA g W false (aC f k)) := sa_cons h h' hs
theorem z_aO (h : PE X a (tI g W true f)) (h' : PA X es (tIA g W true k)) (hs : starEach (a :: es) X.env = (false, eval a X.env) :: starEach es X.env := by exact starE (by rfl)) : PA X (a :: es) (tIA g W true (aC f k)) := sa_ocons (r := false) (fun _ => rfl) h h' hs
theorem z_tup {j : Nat} (h : PA X es (tIA g W true f)) : PE X (.Tuple es j pos) (tI g W true (eTup f)) := se_tup h
theorem z_lst (h : PA X es (tIA g W true f)) : PE X (.List es pos) (tI g W true (eLst f)) := se_lst h
theorem z_d0 : PE X (.Dict [] [] pos) (tI g W true eD0) := se_dict0
theorem z_d1 (h : PE X a (tI g W x f)) (h' : PE X b (tI g W y k)) : PE X (.Dict [some a] [b] pos) (tI g W true (eD1 f k)) := se_disp1 h h'
/-! ### calls of built-ins -/
theorem z_len (G : Gof g X) (ha : PA X (e :: es) (tIA g W x f)) (hm : X.mg "len" = none) (hg : Gl X "len" := by rfl) (he : starEach (e :: es) X.env = (false, eval e X.env) :: starEach es X.env := by exact starE (by rfl)) (hpl : (backTo pos (starEach es X.env)).any (·.1) = false := by rfl) :
    PE X (.Call (.Name "len" p) (e :: es) [] pos) (tI g W true (eBi .len f)) := se_callB cr_lenD (opc_len G) hg hm PySem.boot_len ha (by decide) (by decide) he hpl
theorem z_tuple (G : Gof g X) (ha : PA X (e :: es) (tIA g W x f)) (hm : X.mg "tuple" = none) (hg : Gl X "tuple" := by rfl) (he : starEach (e :: es) X.env = (false, eval e X.env) :: starEach es X.env := by exact starE (by rfl)) (hpl : (backTo pos (starEach es X.env)).any (·.1) = false := by rfl) :
    PE X (.Call (.Name "tuple" p) (e :: es) [] pos) (tI g W true (eBi .tuple f)) := se_callTy call_tuple_of (opc_tuple G) hg hm (by decide +kernel) ha (by decide) (by decide) he hpl
theorem z_list (G : Gof g X) (ha : PA X (e :: es) (tIA g W x f)) (hm : X.mg "list" = none) (hg : Gl X "list" := by rfl) (he : starEach (e :: es) X.env = (false, eval e X.env) :: starEach es X.env := by exact starE (by rfl)) (hpl : (backTo pos (starEach es X.env)).any (·.1) = false := by rfl) :
    PE X (.Call (.Name "list" p) (e :: es) [] pos) (tI g W true (eBi .list f)) := se_callTy call_list_of (opc_list G) hg hm (by decide +kernel) ha (by decide) (by decide) he hpl
theorem z_int (ha : PA X (e :: es) (tIA g W x f)) (hm : X.mg "int" = none) (hg : Gl X "int" := by rfl) (he : starEach (e :: es) X.env = (false, eval e X.env) :: starEach es X.env := by exact starE (by rfl)) (hpl : (backTo pos (starEach es X.env)).any (·.1) = false := by rfl) :
    PE X (.Call (.Name "int" p) (e :: es) [] pos) (tI g W true (eBi .int f)) := se_callTy cr_intD opc_int hg hm (by decide +kernel) ha (by decide) (by decide) he hpl
theorem z_str (ha : PA X (e :: es) (tIA g W x f)) (hm : X.mg "str" = none) (hg : Gl X "str" := by rfl) (he : starEach (e :: es) X.env = (false, eval e X.env) :: starEach es X.env := by exact starE (by rfl)) (hpl : (backTo pos (starEach es X.env)).any (·.1) = false := by rfl) :
    PE X (.Call (.Name "str" p) (e :: es) [] pos) (tI g W true (eBi .str f)) := se_callTy call_str_int opc_str hg hm (by decide +kernel) ha (by decide) (by decide) he hpl
theorem z_abs (ha : PA X (e :: es) (tIA g W x f)) (hm : X.mg "abs" = none) (hg : Gl X "abs" := by rfl) (he : starEach (e :: es) X.env = (false, eval e X.env) :: starEach es X.env := by exact starE (by rfl)) (hpl : (backTo pos (starEach es X.env)).any (·.1) = false := by rfl) :
    PE X (.Call (.Name "abs" p) (e :: es) [] pos) (tI g W true (eBi .abs f)) := se_callB call_abs opc_abs hg hm (by decide +kernel) ha (by decide) (by decide) he hpl
theorem z_min (hc : X.calm = true) (ha : PA X (e :: es) (tIA g W x f)) (hm : X.mg "min" = none) (hg : Gl X "min" := by rfl) (he : starEach (e :: es) X.env = (false, eval e X.env) :: starEach es X.env := by exact starE (by rfl)) (hpl : (backTo pos (starEach es X.env)).any (·.1) = false := by rfl) :
    PE X (.Call (.Name "min" p) (e :: es) [] pos) (tI g W true (eBi .min f)) := se_callB (call_min2 hc) opc_min hg hm (by decide +kernel) ha (by decide) (by decide) he hpl
theorem z_max (hc : X.calm = true) (ha : PA X (e :: es) (tIA g W x f)) (hm : X.mg "max" = none) (hg : Gl X "max" := by rfl) (he : starEach (e :: es) X.env = (false, eval e X.env) :: starEach es X.env := by exact starE (by rfl)) (hpl : (backTo pos (starEach es X.env)).any (·.1) = false := by rfl) :
    PE X (.Call (.Name "max" p) (e :: es) [] pos) (tI g W true (eBi .max f)) := se_callB (call_max2 hc) opc_max hg hm (by decide +kernel) ha (by decide) (by decide) he hpl
theorem z_sum (hc : X.calm = true) (G : Gof g X) (ha : PA X (e :: es) (tIA g W x f)) (hm : X.mg "sum" = none) (hg : Gl X "sum" := by rfl) (he : starEach (e :: es) X.env = (false, eval e X.env) :: starEach es X.env := by exact starE (by rfl)) (hpl : (backTo pos (starEach es X.env)).any (·.1) = false := by rfl) :
    PE X (.Call (.Name "sum" p) (e :: es) [] pos) (tI g W true (eBi .sum f)) := se_callB (cr_sum hc) (opc_sum G) hg hm (by decide +kernel) ha (by decide) (by decide) he hpl
theorem z_all (hc : X.calm = true) (G : Gof g X) (ha : PA X (e :: es) (tIA g W x f)) (hm : X.mg "all" = none) (hg : Gl X "all" := by rfl) (he : starEach (e :: es) X.env = (false, eval e X.env) :: starEach es X.env := by exact starE (by rfl)) (hpl : (backTo pos (starEach es X.env)).any (·.1) = false := by rfl) :
    PE X (.Call (.Name "all" p) (e :: es) [] pos) (tI g W true (eBi .all f)) := se_callB (cr_all hc) (opc_all G) hg hm (by decide +kernel) ha (by decide) (by decide) he hpl
def eIsi (t : Ty) (f : Sl → R D) : Sl → R D := fun σ => (f σ).bind fun d => blR (isTy t d)
theorem z_isi (G : Gof g X) (t : Ty) {p3 : Pos} (ha : PE X e (tI g W x f)) (hm : X.mg "isinstance" = none) (hm2 : X.mg n = none) (hb : bootBuiltins n = some (.type t.nm) := by decide +kernel) (hg : Gl X "isinstance" := by rfl) (hg2 : Gl X n := by rfl)
    (hn : n ≠ "__name__" := by decide) (hd : (n == ("__debug__" : Str)) = false := by decide)
    (he : starEach [e, .Name n p3] X.env = (false, eval e X.env) :: starEach [.Name n p3] X.env := by exact starE (by rfl)) (hpl : (backTo pos (starEach [.Name n p3] X.env)).any (·.1) = false := by rfl) :
    PE X (.Call (.Name "isinstance" p) [e, .Name n p3] [] pos) (tI g W true (eIsi t f)) :=
  (pe_callB call_isi hg hm (by decide +kernel) (pa_cons ha (pa_cons (pe_bltn hg2 hm2 hb (v := .ty t.nm) rfl hn hd) pa_nil) he) (by decide) (by decide) he hpl).imp fun σ H Q q => by
    obtain ⟨H0, Z, fps, σl, sr, o⟩ := q
    refine ⟨H0, Z, fps, σl, sr, o.bind.imp fun d o v H' Z' fp p => ?_⟩
    have rs : Reps g Z' H' [d] [v] (fp ++ []) := .cons p.rep .nil
    refine opc_isi (W := W) (t := t) G Z' σ H' [d] [v] _ Q p.zx.inn rs ?_
    exact o.step p.same p.zx fun d q v H2 Z2 fp2 p2 => q v H2 Z2 fp2 (p2.pre p.same p.zx)
/-! ### methods -/
theorem z_join (G : Gof g X) (he : PE X a (tI g W x f)) (ha : PA X (e :: es) (tIA g W y k)) {ap : Pos}
    (hbase : attributeBase a "join" X.env (eval a X.env) = eval a X.env := by rfl)
    (hfew : ((backTo pos (starEach (e :: es) X.env)).all (fun x => !x.1) && (backToKw pos (keywordEach [] X.env)).all (fun x => x.1.isSome)
      && decide ((e :: es).length + ([] : List Keyword).length + (if ([] : List Keyword).isEmpty then 0 else 1) < 30)) = true := by rfl)
    (hline : (ap.endLine == pos.line) = true := by rfl) (hs : starEach (e :: es) X.env = (false, eval e X.env) :: starEach es X.env := by exact starE (by rfl)) (hplain : (backTo pos (starEach es X.env)).any (·.1) = false := by rfl) :
    PE X (.Call (.Attribute a "join" ap) (e :: es) [] pos) (tI g W true (eMt .join f k)) := se_mt PySem.F.plainAttrs_str PySem.F.slot_str_join PySem.F.type_str_join (mtr_join G) (fun Z H d v f h r => by
      cases d <;> first | (obtain ⟨rfl, _⟩ := rep_str r; exact tyAt_str) | cases h) he ha hbase hfew hline hs hplain
theorem z_split (he : PE X a (tI g W x f)) (ha : PA X (e :: es) (tIA g W y k)) {ap : Pos}
    (hbase : attributeBase a "split" X.env (eval a X.env) = eval a X.env := by rfl)
    (hfew : ((backTo pos (starEach (e :: es) X.env)).all (fun x => !x.1) && (backToKw pos (keywordEach [] X.env)).all (fun x => x.1.isSome)
      && decide ((e :: es).length + ([] : List Keyword).length + (if ([] : List Keyword).isEmpty then 0 else 1) < 30)) = true := by rfl)
    (hline : (ap.endLine == pos.line) = true := by rfl) (hs : starEach (e :: es) X.env = (false, eval e X.env) :: starEach es X.env := by exact starE (by rfl)) (hplain : (backTo pos (starEach es X.env)).any (·.1) = false := by rfl) :
    PE X (.Call (.Attribute a "split" ap) (e :: es) [] pos) (tI g W true (eMt .split f k)) := se_mt PySem.F.plainAttrs_str PySem.F.slot_str_split PySem.F.type_str_split mtr_split (fun Z H d v f h r => by
      cases d <;> first | (obtain ⟨rfl, _⟩ := rep_str r; exact tyAt_str) | cases h) he ha hbase hfew hline hs hplain
theorem z_find (he : PE X a (tI g W x f)) (ha : PA X (e :: es) (tIA g W y k)) {ap : Pos}
    (hbase : attributeBase a "find" X.env (eval a X.env) = eval a X.env := by rfl)
    (hfew : ((backTo pos (starEach (e :: es) X.env)).all (fun x => !x.1) && (backToKw pos (keywordEach [] X.env)).all (fun x => x.1.isSome)
      && decide ((e :: es).length + ([] : List Keyword).length + (if ([] : List Keyword).isEmpty then 0 else 1) < 30)) = true := by rfl)
    (hline : (ap.endLine == pos.line) = true := by rfl) (hs : starEach (e :: es) X.env = (false, eval e X.env) :: starEach es X.env := by exact starE (by rfl)) (hplain : (backTo pos (starEach es X.env)).any (·.1) = false := by rfl) :
    PE X (.Call (.Attribute a "find" ap) (e :: es) [] pos) (tI g W true (eMt .find f k)) := se_mt PySem.F.plainAttrs_str PySem.F.slot_str_find PySem.F.type_str_find mtr_find (fun Z H d v f h r => by
      cases d <;> first | (obtain ⟨rfl, _⟩ := rep_str r; exact tyAt_str) | cases h) he ha hbase hfew hline hs hplain
theorem z_sindex (he : PE X a (tI g W x f)) (ha : PA X (e :: es) (tIA g W y k)) {ap : Pos}
    (hbase : attributeBase a "index" X.env (eval a X.env) = eval a X.env := by rfl)
    (hfew : ((backTo pos (starEach (e :: es) X.env)).all (fun x => !x.1) && (backToKw pos (keywordEach [] X.env)).all (fun x => x.1.isSome)
      && decide ((e :: es).length + ([] : List Keyword).length + (if ([] : List Keyword).isEmpty then 0 else 1) < 30)) = true := by rfl)
    (hline : (ap.endLine == pos.line) = true := by rfl) (hs : starEach (e :: es) X.env = (false, eval e X.env) :: starEach es X.env := by exact starE (by rfl)) (hplain : (backTo pos (starEach es X.env)).any (·.1) = false := by rfl) :
    PE X (.Call (.Attribute a "index" ap) (e :: es) [] pos) (tI g W true (eMt .strIndex f k)) := se_mt PySem.F.plainAttrs_str PySem.F.slot_str_index PySem.F.type_str_index mtr_strIndex (fun Z H d v f h r => by
      cases d <;> first | (obtain ⟨rfl, _⟩ := rep_str r; exact tyAt_str) | cases h) he ha hbase hfew hline hs hplain
theorem tyAt_l (G : Gof g X) {Z : Addr → Prop} {H : Hp} {d : D} {v : V} {f : List Addr} (h : recvOk .lstIndex d = true) (r : Rep g Z H d v f) : TyAt X "list" v H := by
  cases r with
  | lst q hs w => exact fun pins σ s v I r => tyV_is I r (.inl ⟨rfl, _, .of q⟩)
  | lstR q hs => exact fun pins σ s v I r => tyV_is I r (.inl ⟨rfl, _, by rw [G.K]; exact q.sqL⟩)
  | _ => cases h
theorem z_lindex (hu : X.A.units + 70 < cLine) (G : Gof g X) (he : PE X a (tI g W x f)) (ha : PA X (e :: es) (tIA g W y k)) {ap : Pos}
    (hbase : attributeBase a "index" X.env (eval a X.env) = eval a X.env := by rfl)
    (hfew : ((backTo pos (starEach (e :: es) X.env)).all (fun x => !x.1) && (backToKw pos (keywordEach [] X.env)).all (fun x => x.1.isSome)
      && decide ((e :: es).length + ([] : List Keyword).length + (if ([] : List Keyword).isEmpty then 0 else 1) < 30)) = true := by rfl)
    (hline : (ap.endLine == pos.line) = true := by rfl) (hs : starEach (e :: es) X.env = (false, eval e X.env) :: starEach es X.env := by exact starE (by rfl)) (hplain : (backTo pos (starEach es X.env)).any (·.1) = false := by rfl) :
    PE X (.Call (.Attribute a "index" ap) (e :: es) [] pos) (tI g W true (eMt .lstIndex f k)) := se_mt PySem.F.plainAttrs_list PySem.F.slot_list_index PySem.F.type_list_index (mtr_lstIndex G hu) (fun Z H d v f h r => tyAt_l G h r) he ha hbase hfew hline hs hplain
theorem z_get1 (hu : X.A.units + 70 < cLine) (G : Gof g X) (he : PE X a (tI g W x f)) (ha : PA X (e :: es) (tIA g W y k)) {ap : Pos}
    (hbase : attributeBase a "get" X.env (eval a X.env) = eval a X.env := by rfl)
    (hfew : ((backTo pos (starEach (e :: es) X.env)).all (fun x => !x.1) && (backToKw pos (keywordEach [] X.env)).all (fun x => x.1.isSome)
      && decide ((e :: es).length + ([] : List Keyword).length + (if ([] : List Keyword).isEmpty then 0 else 1) < 30)) = true := by rfl)
    (hline : (ap.endLine == pos.line) = true := by rfl) (hs : starEach (e :: es) X.env = (false, eval e X.env) :: starEach es X.env := by exact starE (by rfl)) (hplain : (backTo pos (starEach es X.env)).any (·.1) = false := by rfl) :
    PE X (.Call (.Attribute a "get" ap) (e :: es) [] pos) (tI g W true (eMt .get1 f k)) := se_mt PySem.F.plainAttrs_dict PySem.F.slot_dict_get PySem.F.type_dict_get (mtr_get1 G hu) (fun Z H d v f h r => by
      cases d <;> first | exact tyAt_dct r | cases h) he ha hbase hfew hline hs hplain
/-! ### calls of defs, walks, tests -/
theorem z_call {j m : Nat} {fn : Addr} {fd : FuncData} {ps : List Str} {h : List D → R D} (F : FnOk X.prog X.w X.K X.mg X.base (L2.CX X.prog X.w) j fn fd ps (spI g m h)) (hr : Room j X.A) (hm : X.mg n = some (.ref fn))
    (hk : PySem.W.keepIn X.K (.ref fn) = true) (hb : Binds X.K fd ps []) (tk : Takes X W) (ha : PA X (e :: es) (tIA g W x f)) (hlen : ∀ σ ds, f σ = .ok (.tup ds) → ds.length = m) (hg : Gl X n := by rfl) (hdb : (n == ("__debug__" : Str)) = false := by decide) (he : starEach (e :: es) X.env = (false, eval e X.env) :: starEach es X.env := by exact starE (by rfl)) (hpl : (backTo pos (starEach es X.env)).any (·.1) = false := by rfl) :
    PE X (.Call (.Name n p) (e :: es) [] pos) (tI g W true (eF h f)) := se_call F hr hg hm hk hb tk ha hlen hdb he hpl
theorem len_aN : ∀ (σ : Sl) (ds : List D), aN σ = .ok (.tup ds) → ds.length = 0 := fun σ ds h => by cases h; rfl
theorem len_aC {m : Nat} (h : ∀ (σ : Sl) (ds : List D), k σ = .ok (.tup ds) → ds.length = m) : ∀ (σ : Sl) (ds : List D), aC f k σ = .ok (.tup ds) → ds.length = m + 1 := fun σ ds q => by
  unfold aC at q
  obtain ⟨x, e1, q⟩ := R.bind_ok_inv q
  obtain ⟨r, e2, q⟩ := R.bind_ok_inv q
  obtain ⟨xs, e3, q⟩ := R.bind_ok_inv q
  cases q
  cases r with
  | tup ys => cases e3; rw [List.length_cons, h σ _ e2]
  | _ => cases e3
theorem i_seq (G : Gof g X) (h : PE X e (tI g W x f)) : PI X tg e (tIW g W x (iSeq' f)) := si_seq G h
theorem i_en (G : Gof g X) {elts : List Expr} {kk : Nat} {tpos : Pos} (ha : PA X [e] (tIA g W x f)) (hm : X.mg "enumerate" = none) (hg : Gl X "enumerate" := by rfl) (hs : starEach [e] X.env = [(false, eval e X.env)] := by exact starE (by rfl)) :
    PI X (.Tuple elts kk tpos) (.Call (.Name "enumerate" p) [e] [] pos) (tIW g W x (iEn f)) := si_enum G hg hm ha hs
theorem i_r1 (ha : PA X [e] (tIA g W x f)) (hm : X.mg "range" = none) (hg : Gl X "range" := by rfl) (hs : starEach [e] X.env = [(false, eval e X.env)] := by exact starE (by rfl)) : PI X tg (.Call (.Name "range" p) [e] [] pos) (tIW g W true (iR1 f)) := si_rng1 hg hm ha hs
theorem i_r2 (ha : PA X [e, a] (tIA g W x f)) (hm : X.mg "range" = none) (hg : Gl X "range" := by rfl) (hs2 : starEach [a] X.env = [(false, eval a X.env)] := by exact starE (by rfl)) (hs : starEach [e, a] X.env = (false, eval e X.env) :: starEach [a] X.env := by exact starE (by rfl)) : PI X tg (.Call (.Name "range" p) [e, a] [] pos) (tIW g W true (iR2 f)) := si_rng2 hg hm ha (by rw [hs, hs2]) hs2
theorem i_z (G : Gof g X) {elts : List Expr} {kk : Nat} {tpos : Pos} (ha : PA X [e, a] (tIA g W x f)) (hm : X.mg "zip" = none) (hg : Gl X "zip" := by rfl) (hs : starEach [e, a] X.env = (false, eval e X.env) :: starEach [a] X.env := by exact starE (by rfl)) (hpl : (backTo pos (starEach [a] X.env)).any (·.1) = false := by rfl) :
    PI X (.Tuple elts kk tpos) (.Call (.Name "zip" p) [e, a] [] pos) (tIW g W x (iZ f)) := si_zip G hg hm ha hs hpl
theorem y_e (h : PE X e (tI g W x f)) (hw : ∀ whole, isTrue e X.env whole = (do let v ← whole; standAt e.pos; holding [v] (truthy v)) := by intro _; rfl) : PT X e (tIT g W f) := (pt_val h hw).imp fun _ _ _ q => tIT_tB q
theorem y_lt (h : PE X a (tI g W x f)) (h' : PE X b (tI g W y k)) : PT X (.Compare a [.Lt] [b] pos) (tIT g W (eC .lt f k)) := st_cmp op_lt opd_lt h h' (nobehind b (by decide) (by decide))
theorem y_le (h : PE X a (tI g W x f)) (h' : PE X b (tI g W y k)) : PT X (.Compare a [.LtE] [b] pos) (tIT g W (eC .le f k)) := st_cmp op_le opd_le h h' (nobehind b (by decide) (by decide))
theorem y_gt (h : PE X a (tI g W x f)) (h' : PE X b (tI g W y k)) : PT X (.Compare a [.Gt] [b] pos) (tIT g W (eC .gt f k)) := st_cmp op_gt opd_gt h h' (nobehind b (by decide) (by decide))
theorem y_ge (h : PE X a (tI g W x f)) (h' : PE X b (tI g W y k)) : PT X (.Compare a [.GtE] [b] pos) (tIT g W (eC .ge f k)) := st_cmp op_ge opd_ge h h' (nobehind b (by decide) (by decide))
theorem y_eq (hu : X.A.units + 70 < cLine) (G : Gof g X) (h : PE X a (tI g W x f)) (h' : PE X b (tI g W y k)) : PT X (.Compare a [.Eq] [b] pos) (tIT g W (eC .eq f k)) := st_cmp (op_eqD (by omega)) (opd_eq G) h h' (nobehind b (by decide) (by decide))
theorem y_ne (hu : X.A.units + 70 < cLine) (G : Gof g X) (h : PE X a (tI g W x f)) (h' : PE X b (tI g W y k)) : PT X (.Compare a [.NotEq] [b] pos) (tIT g W (eC .ne f k)) := st_cmp (op_neD (by omega)) (opd_ne G) h h' (nobehind b (by decide) (by decide))
theorem y_isn (h : PE X a (tI g W x f)) (h' : PE X b (tI g W y k)) : PT X (.Compare a [.Is] [b] pos) (tIT g W (eC .isN f k)) := st_cmp op_isN opd_isN h h' (nobehind b (by decide) (by decide))
theorem y_ntn (h : PE X a (tI g W x f)) (h' : PE X b (tI g W y k)) : PT X (.Compare a [.IsNot] [b] pos) (tIT g W (eC .notN f k)) := st_cmp op_notN opd_notN h h' (nobehind b (by decide) (by decide))
theorem y_in (hu : X.A.units + 70 < cLine) (G : Gof g X) (h : PE X a (tI g W x f)) (h' : PE X b (tI g W y k)) (hm : behindInMarks .In b = false := by rfl) : PT X (.Compare a [.In] [b] pos) (tIT g W (eC .mem f k)) := st_cmp (opr_mem hu G) (opd_mem G) h h' hm
theorem y_nin (hu : X.A.units + 70 < cLine) (G : Gof g X) (h : PE X a (tI g W x f)) (h' : PE X b (tI g W y k)) (hm : behindInMarks .NotIn b = false := by rfl) : PT X (.Compare a [.NotIn] [b] pos) (tIT g W (eC .nmem f k)) := st_cmp (opr_nmem hu G) (opd_nmem G) h h' hm
theorem y_lele (h : PE X a (tI g W x f)) (h' : PE X b (tI g W y k)) (h3 : PE X c (tI g W z l)) (hm : lastMarks [.LtE, .LtE] [b, c] = false := by rfl) : PT X (.Compare a [.LtE, .LtE] [b, c] pos) (tIT g W (eCC .le .le f k l)) := st_chn op_le op_le opd_le opd_le h h' h3 hm
theorem y_lelt (h : PE X a (tI g W x f)) (h' : PE X b (tI g W y k)) (h3 : PE X c (tI g W z l)) (hm : lastMarks [.LtE, .Lt] [b, c] = false := by rfl) : PT X (.Compare a [.LtE, .Lt] [b, c] pos) (tIT g W (eCC .le .lt f k l)) := st_chn op_le op_lt opd_le opd_lt h h' h3 hm
theorem y_ltle (h : PE X a (tI g W x f)) (h' : PE X b (tI g W y k)) (h3 : PE X c (tI g W z l)) (hm : lastMarks [.Lt, .LtE] [b, c] = false := by rfl) : PT X (.Compare a [.Lt, .LtE] [b, c] pos) (tIT g W (eCC .lt .le f k l)) := st_chn op_lt op_le opd_lt opd_le h h' h3 hm
theorem y_ltlt (h : PE X a (tI g W x f)) (h' : PE X b (tI g W y k)) (h3 : PE X c (tI g W z l)) (hm : lastMarks [.Lt, .Lt] [b, c] = false := by rfl) : PT X (.Compare a [.Lt, .Lt] [b, c] pos) (tIT g W (eCC .lt .lt f k l)) := st_chn op_lt op_lt opd_lt opd_lt h h' h3 hm
theorem y_gegt (h : PE X a (tI g W x f)) (h' : PE X b (tI g W y k)) (h3 : PE X c (tI g W z l)) (hm : lastMarks [.GtE, .Gt] [b, c] = false := by rfl) : PT X (.Compare a [.GtE, .Gt] [b, c] pos) (tIT g W (eCC .ge .gt f k l)) := st_chn op_ge op_gt opd_ge opd_gt h h' h3 hm
theorem y_gtge (h : PE X a (tI g W x f)) (h' : PE X b (tI g W y k)) (h3 : PE X c (tI g W z l)) (hm : lastMarks [.Gt, .GtE] [b, c] = false := by rfl) : PT X (.Compare a [.Gt, .GtE] [b, c] pos) (tIT g W (eCC .gt .ge f k l)) := st_chn op_gt op_ge opd_gt opd_ge h h' h3 hm
theorem y_not (h : PT X a (tIT g W f)) : PT X (.UnaryOp .Not a pos) (tIT g W (eNot f)) := st_not h
theorem w_and1 (h : PT X a (tIT g W f)) : PW X (.BoolOp .And [a] pos) (tIT g W f) := pw_and1 h
theorem w_or1 (h : PT X a (tIT g W f)) : PW X (.BoolOp .Or [a] pos) (tIT g W f) := pw_or1 h
theorem w_and {rest : List Expr} (h : PT X a (tIT g W f)) (h' : PW X (.BoolOp .And (b :: rest) pos) (tIT g W k)) : PW X (.BoolOp .And (a :: b :: rest) pos) (tIT g W (eAnd f k)) := sw_and h h'
theorem w_or {rest : List Expr} (h : PT X a (tIT g W f)) (h' : PW X (.BoolOp .Or (b :: rest) pos) (tIT g W k)) : PW X (.BoolOp .Or (a :: b :: rest) pos) (tIT g W (eOr f k)) := sw_or h h'
theorem y_w (h : PW X a (tIT g W f)) : PT X a (tIT g W f) := h.pt
end
end DI
/-! DI, short forms of statements, defs by name, the law's end -/
namespace DI
open PySem PySem.Spec PyProof.Rows L2
section
variable {X : Cx} {g : Gv} {W : L2.WX} {a b c e tg : Expr} {es : List Expr} {f k l fc fe : Sl → R D} {sf sk : SF} {x y z : Bool} {pos p spos : Pos} {n : Str} {sts sts' : List Stmt}
theorem t_set (i : Nat) (nd : X.N.Nodup) (he : PE X e (tI g W true fe)) (hi : X.N[i]? = some n := by rfl) (hx : Loc X.env.scope n := by first | exact Or.inl rfl | exact Or.inr rfl) (hs : swapsWith e (some (.Name n p)) pos.line X.env = pure false := by rfl)
    (hf : X.fn n = true ∨ X.env.scope.names.lookup n = some .local := by first | exact Or.inl rfl | exact Or.inr rfl) : PS X (.Assign [.Name n p] e pos) (tS g W (sSet i fe)) := ss_set nd hi hx he hs hf
theorem g_one (i : Nat) (nd : X.N.Nodup) (hi : X.N[i]? = some n := by rfl) (hx : Loc X.env.scope n := by first | exact Or.inl rfl | exact Or.inr rfl) (hf : X.fn n = true ∨ X.env.scope.names.lookup n = some .local := by first | exact Or.inl rfl | exact Or.inr rfl) : PG X (.Name n pos) (tG g (.one i)) := sg_one nd hi hx hf
theorem g_nil : PGs X [] (tGs g []) := sgs_nil
theorem g_cons {i : Nat} {is : List Nat} (h1 : PG X e (tG g (.one i))) (h2 : PGs X es (tGs g is)) (hs : (assignEach (e :: es) X.env).map (·.2) = assign e X.env :: (assignEach es X.env).map (·.2) := by rfl) : PGs X (e :: es) (tGs g (i :: is)) := sgs_cons h1 h2 hs
theorem g_many {kk : Nat} {is : List Nat} (G : Gof g X) (h : PGs X es (tGs g is)) (hc : X.calm = true := by rfl) (hn : (assignEach es X.env).length = is.length := by rfl) (hst : (assignEach es X.env).findIdx? (·.1) = none := by rfl) : PG X (.Tuple es kk pos) (tG g (.many is)) := sg_many G hc h hn hst
theorem t_unp {p : Pat} (he : PE X e (tI g W x fe)) (hg : PG X tg (tG g p)) (hs : swapsWithSole [tg] e pos.line X.env = pure false := by rfl) (hw : swappedStores [tg] e X.env = pure none := by rfl) (h1 : (assignEach [tg] X.env).map (·.2) = [assign tg X.env] := by rfl) :
    PS X (.Assign [tg] e pos) (tS g W (sUnp p fe)) := ss_unp he hg hs hw h1
theorem t_if (hc : PT X c (tIT g W fc)) (ha : PSs X sts (tS g W sf)) (hb : PSs X sts' (tS g W sk)) : PS X (.If c sts sts' pos) (tS g W (sIf fc sf sk)) := ss_if hc ha hb
theorem t_whl (hp : PassesOwn (model X.prog X.w) X.A X.env X.xe) (hc : PT X c (tIT g W fc)) (hb : PSs X sts (tS g W sf)) : PS X (.While c sts [] pos) (tS g W (sWhl fc sf)) := ss_while hp hc hb
theorem t_for {iter : Expr} {p : Pat} {fi : Sl → R (List D)} (hp : PassesOwn (model X.prog X.w) X.A X.env X.xe) (hi : PI X tg iter (tIW g W true fi)) (hg : PG X tg (tG g p)) (hb : PSs X sts (tS g W sf)) (hc : X.calm = true := by rfl)
    (hs : ∀ x, foldedSetIterable iter X.env x = pure x := by intro _; rfl) : PS X (.For tg iter sts [] pos) (tS g W (sFor p fi sf)) := ss_for hp hc hi hg hb hs
theorem t_ret (he : PE X e (tI g W true fe)) : PS X (.Return (some e) pos) (tS g W (sRet fe)) := ss_ret he
theorem t_retV (i : Nat) (hN : X.N[i]? = some n := by rfl) (hv : Vis X.env.scope n := by first | exact Or.inl rfl | exact Or.inr (Or.inl rfl) | exact Or.inr (Or.inr rfl)) (hd : (n == ("__debug__" : Str)) = false := by decide) (hcd : (n == ("__classdict__" : Str)) = false := by decide) :
    PS X (.Return (some (.Name n p)) pos) (tS g W (sRetV i)) := ss_retV hN hv hd hcd
theorem t_retN : PS X (.Return none pos) (tS g W sRetN) := ss_retN
def sBad : SF := fun _ => .bad
/-- what is never come to -/
theorem t_bad {st : Stmt} : PS X st (tS g W sBad) := ps_never.imp fun E σ H q => by
  obtain ⟨H0, Z0, Z, fps, σl, ss, o⟩ := q
  exact o
theorem t_pass : PS X (.Pass pos) (tS g W sSkip) := ss_pass
theorem t_brk : PS X (.Break pos) (tS g W sBrk) := ss_brk
theorem t_cnt : PS X (.Continue pos) (tS g W sCnt) := ss_cnt
theorem t_drop (he : PE X e (tI g W x fe)) (hs : swapsWith e none pos.line X.env = pure false := by rfl) : PS X (.Expr e pos) (tS g W (sDrop fe)) := ss_drop he hs
theorem t_app (i : Nat) (G : Gof g X) (he : PE X e (tI g W true fe)) {apos cpos : Pos} (hN : X.N[i]? = some n := by rfl) (hv : Vis X.env.scope n := by first | exact Or.inl rfl | exact Or.inr (Or.inl rfl) | exact Or.inr (Or.inr rfl)) (hd : (n == ("__debug__" : Str)) = false := by decide) (hcd : (n == ("__classdict__" : Str)) = false := by decide)
    (hst : starEach [e] X.env = (false, eval e X.env) :: starEach [] X.env := by exact starE (by rfl))
    (hbase : attributeBase (.Name n p) "append" X.env (eval (.Name n p) X.env) = eval (.Name n p) X.env := by rfl)
    (hfew : ((backTo cpos (starEach [e] X.env)).all (fun x => !x.1) && (backToKw cpos (keywordEach [] X.env)).all (fun x => x.1.isSome)
      && decide ([e].length + ([] : List Keyword).length + (if ([] : List Keyword).isEmpty then 0 else 1) < 30)) = true := by rfl)
    (hline : (apos.endLine == cpos.line) = true := by rfl) (hplain : (backTo cpos (starEach [] X.env)).any (·.1) = false := by rfl)
    (hs : swapsWith (.Call (.Attribute (.Name n p) "append" apos) [e] [] cpos) none pos.line X.env = pure false := by rfl) :
    PS X (.Expr (.Call (.Attribute (.Name n p) "append" apos) [e] [] cpos) pos) (tS g W (sApp i fe)) := ss_app G hN hv hd hcd he hst hbase hfew hline hplain hs
theorem t_putk (i : Nat) (hu : X.A.units + 70 < cLine) (G : Gof g X) (he : PE X e (tI g W x fe)) (hk : PE X a (tI g W y k)) (hN : X.N[i]? = some n := by rfl) (hv : Vis X.env.scope n := by first | exact Or.inl rfl | exact Or.inr (Or.inl rfl) | exact Or.inr (Or.inr rfl)) (hd : (n == ("__debug__" : Str)) = false := by decide) (hcd : (n == ("__classdict__" : Str)) = false := by decide)
    (ha : ∀ v, assign (.Subscript (.Name n p) a pos) X.env v = (do
      let ov ← holding [v] (eval (.Name n p) X.env)
      let iv ← holding [v, ov] (eval a X.env)
      standAt pos
      holding [v, ov, iv] (setItem ov iv v)
      release [v, ov, iv] []) := by intro _; rfl)
    (hs : swapsWithSole [.Subscript (.Name n p) a pos] e spos.line X.env = pure false := by rfl) (hw : swappedStores [.Subscript (.Name n p) a pos] e X.env = pure none := by rfl) (h1 : (assignEach [.Subscript (.Name n p) a pos] X.env).map (·.2) = [assign (.Subscript (.Name n p) a pos) X.env] := by rfl) :
    PS X (.Assign [.Subscript (.Name n p) a pos] e spos) (tS g W (sPutK i k fe)) := ss_putK G hu hN hv hd hcd he hk ha hs hw h1
theorem z_comp {elt iter : Expr} {ifs : List Expr} {scope : Scope} {wi : Sl → R (List D)} {p : Pat} (own : List (Str × Nat)) (nd : X.N.Nodup) (hi : PI X tg iter (tIW g W x wi))
    (hg : ∀ (s : Shared) (H : Hp) (C : Addr) (cl : List (Str × Addr)) (fp : List Addr), PG (X.blk s H scope (compEnvC scope cl C X.env) fp) tg (tG g p)) (ht : ∀ (s : Shared) (H : Hp) (C : Addr) (cl : List (Str × Addr)) (fp : List Addr), PTs (X.blk s H scope (compEnvC scope cl C X.env) fp) ifs (tIT g WF fc))
    (he : ∀ (s : Shared) (H : Hp) (C : Addr) (cl : List (Str × Addr)) (fp : List Addr), PE (X.blk s H scope (compEnvC scope cl C X.env) fp) elt (tI g WF true fe))
    (ok : blkC X.N X.env.scope scope own = true := by first | rfl | kernel_rfl) (hp : ∀ j ∈ psl p, j ∈ own.map (·.2) := by decide) (hc : X.calm = true := by rfl) (hs : ∀ x, foldedSetIterable iter X.env x = pure x := by intro _; rfl) :
    PE X (.ListComp elt [⟨tg, iter, ifs, 0⟩] scope pos) (tI g W true (eComp (own.map (·.2)) p wi fc fe)) := se_comp hc nd ok hp hi hg ht he hs
theorem t_lc (i : Nat) {py : Pos} {elt iter : Expr} {ifs : List Expr} {scope : Scope} {wi : Sl → R (List D)} {p : Pat} (own : List (Str × Nat)) (nd : X.N.Nodup) (hi : PI X tg iter (tIW g W x wi))
    (hg : ∀ (s : Shared) (H : Hp) (C : Addr) (cl : List (Str × Addr)) (fp : List Addr), PG (X.blk s H scope (compEnvC scope cl C X.env) fp) tg (tG g p)) (ht : ∀ (s : Shared) (H : Hp) (C : Addr) (cl : List (Str × Addr)) (fp : List Addr), PTs (X.blk s H scope (compEnvC scope cl C X.env) fp) ifs (tIT g WF fc))
    (he : ∀ (s : Shared) (H : Hp) (C : Addr) (cl : List (Str × Addr)) (fp : List Addr), PE (X.blk s H scope (compEnvC scope cl C X.env) fp) elt (tI g WF true fe))
    (hy : X.N[i]? = some n := by rfl) (hyl : X.env.scope.names.lookup n = some .local := by rfl)
    (hsw : swapsWith (.ListComp elt [⟨tg, iter, ifs, 0⟩] scope pos) (some (.Name n py)) spos.line X.env = pure true := by exact sw_true rfl rfl rfl rfl)
    (ok : blkC X.N X.env.scope scope own = true := by first | rfl | kernel_rfl) (hp : ∀ j ∈ psl p, j ∈ own.map (·.2) := by decide) (hc : X.calm = true := by rfl) (hs : ∀ x, foldedSetIterable iter X.env x = pure x := by intro _; rfl) :
    PS X (.Assign [.Name n py] (.ListComp elt [⟨tg, iter, ifs, 0⟩] scope pos) spos) (tS g W (sSet i (eComp (own.map (·.2)) p wi fc fe))) := ss_setLc hc nd hy hyl hsw ok hp hi hg ht he hs
end
theorem hu70 {A : Around} {k : Nat} (hr : Room k A) : A.units + 70 < cLine := Nat.lt_of_le_of_lt (by omega) hr.un

/-! ### defs by name -/
def DefOk (P : Program) (w : World) (K : PySem.W.Frag) (mg : Str → Option Value) (base : Heap) (g : Gv) (k : Nat) (n : Str) (ps : List Str) (m : Nat) (h : List D → R D) : Prop :=
  ∃ f fd, mg n = some (.ref f) ∧ PySem.W.keepIn K (.ref f) = true ∧ Binds K fd ps [] ∧ FnOk P w K mg base (L2.CX P w) k f fd ps (spI g m h)
def TxD (K : PySem.W.Frag) (mg : Str → Option Value) (n : Str) (st : Stmt) (ps : List Str) : Prop := ∃ f fd, Fun K n n st f fd ∧ mg n = some (.ref f) ∧ Binds K fd ps []
theorem z_call' {X : Cx} {g : Gv} {W : L2.WX} {e : Expr} {es : List Expr} {f : Sl → R D} {x : Bool} {pos p : Pos} {n : Str} {j m : Nat} {ps : List Str} {h : List D → R D} (F : DefOk X.prog X.w X.K X.mg X.base g j n ps m h) (hr : Room j X.A) (tk : Takes X W) (ha : PA X (e :: es) (tIA g W x f)) (hlen : ∀ σ ds, f σ = .ok (.tup ds) → ds.length = m)
    (hg : Gl X n := by rfl) (hdb : (n == ("__debug__" : Str)) = false := by decide) (he : starEach (e :: es) X.env = (false, eval e X.env) :: starEach es X.env := by exact starE (by rfl)) (hpl : (backTo pos (starEach es X.env)).any (·.1) = false := by rfl) :
    PE X (.Call (.Name n p) (e :: es) [] pos) (tI g W true (eF h f)) := by
  obtain ⟨fn, fd, hm, hk, hb, F⟩ := F
  exact se_call F hr hg hm hk hb tk ha hlen hdb he hpl
section
variable {P : Program} {w : World} {K : PySem.W.Frag} {mg : Str → Option Value} {base : Heap}
theorem di_def {n : Str} {st : Stmt} {N ps : List Str} {k : Nat} (g : Gv) (T : TxD K mg n st ps) (S : FnScope N ps (defScope st)) (r : Nat) (hn : r = ps.length) (m : Nat) (hm : m = N.length) (b : SF)
    (hb : ∀ (f : Addr) (cdv : Value) (A : Around) (outer : List Env) (s : Shared) (H : Hp) (E : XK), Room k (A.deeper (envOfC n (defScope st) s.heap.objs.size f cdv)) →
      Takes (cxOf (L2.CX P w) P w K mg base N n (defScope st) f cdv A outer s H E) (fun cls d _ H => E cls d H) →
      PassesOwn (model P w) (cxOf (L2.CX P w) P w K mg base N n (defScope st) f cdv A outer s H E).A (cxOf (L2.CX P w) P w K mg base N n (defScope st) f cdv A outer s H E).env (cxOf (L2.CX P w) P w K mg base N n (defScope st) f cdv A outer s H E).xe →
      PSs (cxOf (L2.CX P w) P w K mg base N n (defScope st) f cdv A outer s H E) (defBody st) (tS g (fun cls d _ H => E cls d H) b)) : DefOk P w K mg base g (k + 1) n ps r (runF m b) := by
  obtain ⟨f, fd, F, hg, hbd⟩ := T
  exact ⟨f, fd, hg, F.kp, hbd, di_fn g F S r hn m hm b (hb f)⟩
theorem txd_mk {n : Str} {st : Stmt} {ps : List Str} {h : Heap} {f : Addr} {oc : Value} {od an : Option Addr} {osl : Array (Option Value)} {kV doc pm cdv ct : Value} (X : K.In h) (G : h.Ns mainGlobals mg) (a : PySem.W.nsIn K mainGlobals n = some (some (.ref f)))
    (l : K.lookup f = some ⟨oc, od, .func (PySem.W.fnOf n n (defArgs st) (defBody st) (defScope st) .none kV doc pm an cdv ct), osl⟩) (c : PySem.W.codeIn K cdv n = true) (k : PySem.W.keepIn K (.ref f) = true)
    (hb : ∀ (kV doc pm : Value) (an : Option Addr) (cdv ct : Value) (us : List Value), us.length = ps.length → bindArgs (PySem.W.fnOf n n (defArgs st) (defBody st) (defScope st) .none kV doc pm an cdv ct) ⟨us, []⟩ = pure (ps.zip us)) : TxD K mg n st ps :=
  ⟨f, _, fun_mk l c k, PySem.W.mg_of X G a, (fun_mk l c k).binds hb⟩
/-- the law's promise, of its script -/
theorem sp_script {g : Gv} {h : List D → R D} {H : Hp} {a : Addr} {ns : List Int} (hS : SqL g.K H a (ns.map V.int)) (hO : Only H) (hh : h [.lst false (ns.map D.int)] = .ok (.bl true)) :
    spI g 1 h [.ref a] H (fun v _ => v = .bl true) fun _ _ _ => False := by
  refine ⟨fun _ => False, [.lst false (ns.map D.int)], fun _ z => z.elim, ?_, rfl, ?_⟩
  · have rs : Reps g (fun _ => False) H (ns.map D.int) (ns.map V.int) [] := by
      clear hS hh
      induction ns with
      | nil => exact .nil
      | cons n r ih => exact .cons (f := []) (fs := []) (.int n) ih
    refine .cons (f := []) (fs := []) (.lstR ?_ rs) .nil
    rcases hS with (q | q) | q
    · rcases hO a with e | ⟨o, xs, e⟩
      · rw [e] at q; cases q
      · rw [e] at q; cases q
    · exact .inl q
    · exact .inr q
  · rw [hh]
    intro v H' Z' fp p
    exact (rep_bl p.rep).1
end
theorem cx_none {P : Program} {w : World} {H : Hp} {s : Shared} {e : Value} {s' : Shared} (h : L2.CX P w [] H s (fun _ _ _ => False) e s') : False := by
  obtain ⟨_, _, _, _, _, _, _, _, _, _, _, _, z⟩ := h
  exact z
end DI
/-! DI, refusals: their classes, raise -/
namespace DI
open PySem PySem.Spec PyProof.Rows L2
/-- what the written part says of an exception's class (over ValueError, own classes between) -/
def oexIn (K : PySem.W.Frag) (C : Addr) : Bool := match K.lookup C with
  | some ⟨.type "type", _, .cls cd, sl⟩ => (match cd.mro, sl.toList with
    | .ref C' :: bm, [_, _, _, _, some (.builtin n), _] => C' == C && n == "ValueError.__new__" && !cd.hasDel && cd.hasDict && PySem.HandSPX.refsVE bm
    | _, _ => false)
  | _ => false
theorem oex_of {K : PySem.W.Frag} {C : Addr} (q : oexIn K C = true) : ∃ nm q N bs bm sn sub ab col dd k0 k1 k2 k3 k5, K.lookup C = some (excClassObj nm q C N bs bm true sn sub ab col dd k0 k1 k2 k3 k5 "ValueError.__new__") ∧ PySem.HandSPX.refsVE bm = true := by
  unfold oexIn at q
  split at q
  · rename_i dd cd sl ho
    split at q
    · rename_i C' bm k0 k1 k2 k3 n k5 hm hs
      simp only [Bool.and_eq_true, beq_iff_eq, Bool.not_eq_true'] at q
      obtain ⟨⟨⟨⟨rfl, rfl⟩, hdel⟩, hd⟩, ht⟩ := q
      obtain ⟨nm, bs, mro, ns, qn, hdct, sn, sub, ab, col, del⟩ := cd
      dsimp only at hm hdel hd
      subst hm hdel hd
      have hsl : sl = #[k0, k1, k2, k3, some (.builtin "ValueError.__new__"), k5] := by
        obtain ⟨l⟩ := sl
        simp only at hs
        rw [hs]
      subst hsl
      exact ⟨nm, qn, ns, bs, bm, sn, sub, ab, col, dd, k0, k1, k2, k3, k5, ho, ht⟩
    · cases q
  · cases q
/-- the class of a refusal: at C, its fields (the last stored first); its __init__'s text st, where it has one -/
structure XcT (K : PySem.W.Frag) (mg : Str → Option Value) (n : Str) (C : Addr) : Prop where
  T : OexC K C
  mgC : mg n = some (.ref C)
theorem xct_mk {K : PySem.W.Frag} {mg : Str → Option Value} {n : Str} {C : Addr} (h1 : oexIn K C = true) (h2 : PySem.W.findIn K (.ref C) "__setattr__" = some (some (.builtin "object.__setattr__"))) (h3 : PySem.W.subIn K (.ref C) (.type "BaseException") = some true)
    (h4 : PySem.W.typeIn K (.ref C) = some (.type "type")) (h5 : PySem.W.keepIn K (.ref C) = true) (h6 : mg n = some (.ref C)) : XcT K mg n C := ⟨⟨oex_of h1, h2, h3, h4, h5⟩, h6⟩
/-- the base class, whose __init__ is ValueError's -/
structure XbT (K : PySem.W.Frag) (mg : Str → Option Value) (n : Str) : Prop where
  ex : ∃ (C : Addr) (mc : Value), mg n = some (.ref C) ∧ PySem.W.specialIn K (.ref C) "__getattribute__" = some (some (.builtin "type.__getattribute__")) ∧ PySem.W.readsIn K C mc = true ∧ PySem.W.findCls K (.ref C) mc "__init__" = some (.val (.builtin "ValueError.__init__"))
section
variable {X : Cx} {o e : Expr} {es : List Expr} {to te : TE} {ta : TA} {f : Str} {p p' p1 p2 pos : Pos} {n : Str}
/-- Base.__init__(self, ..) -/
theorem pe_weinit {pl : Sem Bool} (B : XbT X.K X.mg n) (ha : PA X (e :: es) ta) (hg : Gl X n := by rfl) (hdb : (n == ("__debug__" : Str)) = false := by decide)
    (hc : eval (.Call (.Attribute (.Name n p1) "__init__" p2) (e :: es) [] pos) X.env = (do
      let ov ← eval (.Name n p1) X.env
      standAt p2.atName
      let (f, first) ← holding [ov] (getMethod ov "__init__" pl)
      callWith pos f first (backTo pos (starEach (e :: es) X.env)) (backToKw pos (keywordEach [] X.env))) := by rfl)
    (he : starEach (e :: es) X.env = (false, eval e X.env) :: starEach es X.env := by rfl) (hpl : (backTo pos (starEach es X.env)).any (·.1) = false := by rfl) :
    PE X (.Call (.Attribute (.Name n p1) "__init__" p2) (e :: es) [] pos) (tVeI X.K ta) := by
  obtain ⟨C, mc, hm, gS, hr, vV⟩ := B.ex
  refine ⟨fun pins s σ H Q I h => ?_⟩
  refine PySem.W.methodCall_KW (ld_glob I hg hm ?_ hdb) hc
  refine PySem.W.method_cls I.kIn gS (PySem.W.cls_value I.kIn hr vV rfl ?_)
  show wpAny _ _ (callWith pos (Value.builtin "ValueError.__init__") [] (backTo pos (starEach (e :: es) X.env)) []) _ _ _
  refine PyProof.Rows.callWith_method1 (thn (ha.run pos pins _ σ H _ (I.tok _) h) fun us s1 ⟨vs, H1, I1, r1, a, C, ws, ev, hl, T, ea, q⟩ => ?_) he hpl
  subst ev
  cases r1 with
  | @cons _ u0 _ ur ra rw' =>
    obtain rfl : u0 = Value.ref a := ra
    have hlen : ur.length ≤ sizeLine := by
      rw [← Paired.length rw', sizeLine_eq]
      omega
    exact oinit_ok T I1 ea hlen fun s' J => ⟨.non, H1, J, rfl, q⟩
end
/-- what an exception's __init__ leaves: ns its fields, the last one first -/
def spX (K : PySem.W.Frag) (C : Addr) (m : Nat) (ns : List Str) : Sp := fun vs H Q _ => ∃ (a : Addr) (ws : List V), vs = .ref a :: ws ∧ ws.length = m ∧ H a = some (exo a C none) ∧
  ∀ d H', H d = none → d ≠ a → H' a = some (exo a C (some d)) → H' d = some (exd d (ns.zip ws.reverse)) → (∀ b o, H b = some o → b ≠ a → H' b = some o) → Q .non H'
section
variable {P : Program} {w : World} {K : PySem.W.Frag} {mg : Str → Option Value} {base : Heap}
theorem ok_xinit1 {C f : Addr} {fd : FuncData} {qual fl msg : Str} {st : Stmt} (Fn : Fun K "__init__" qual st f fd) (S : FnScope ["self", fl] ["self", fl] (defScope st)) (T : OexC K C) (hno : PySem.W.findIn K (.ref C) fl = some none)
    (hb : ∀ (cdv : Value) (A : Around) (outer : List Env) (s : Shared) (H : Hp) (E : XK), PSs (cxOf (L2.CX P w) P w K mg base ["self", fl] qual (defScope st) f cdv A outer s H E) (defBody st) (tSeq (tDrop (tVeI K (tCons (tVar 0) (tCons (tC (.str msg)) tNil)))) (tOst K fl (tVar 0) (tVar 1)))) :
    FnOk P w K mg base (L2.CX P w) 1 f fd ["self", fl] (spX K C 1 [fl]) := by
  refine Fn.okX S (fun vs H Q E h => ?_) fun cdv A outer s H vs Q E hr h => ⟨_, hb cdv A outer s H E, ?_⟩
  · obtain ⟨a, ws, rfl, l, _⟩ := h
    simp [l]
  · obtain ⟨a, ws, rfl, l, ha, k⟩ := h
    match ws, l, k with
    | [x], _, k =>
      refine ⟨_, rfl, a, C, [.str msg], rfl, by show 1 ≤ 1000; omega, T, ha, ?_⟩
      refine ⟨_, rfl, _, rfl, a, C, rfl, T, hno, .inl ⟨ha, fun d hd ne => ?_⟩⟩
      refine k d _ hd ne upd_same ?_ fun b o e hb => ?_
      · rw [upd_ne ne, upd_same]; rfl
      · rw [upd_ne hb, upd_ne (ne_of_none e hd)]; exact e
theorem ok_xinit2 {C f : Addr} {fd : FuncData} {qual f1 f2 msg : Str} {st : Stmt} (Fn : Fun K "__init__" qual st f fd) (S : FnScope ["self", f1, f2] ["self", f1, f2] (defScope st)) (T : OexC K C) (hno1 : PySem.W.findIn K (.ref C) f1 = some none) (hno2 : PySem.W.findIn K (.ref C) f2 = some none)
    (hb : ∀ (cdv : Value) (A : Around) (outer : List Env) (s : Shared) (H : Hp) (E : XK), PSs (cxOf (L2.CX P w) P w K mg base ["self", f1, f2] qual (defScope st) f cdv A outer s H E) (defBody st) (tSeq (tDrop (tVeI K (tCons (tVar 0) (tCons (tC (.str msg)) tNil)))) (tSeq (tOst K f1 (tVar 0) (tVar 1)) (tOst K f2 (tVar 0) (tVar 2))))) :
    FnOk P w K mg base (L2.CX P w) 1 f fd ["self", f1, f2] (spX K C 2 [f2, f1]) := by
  refine Fn.okX S (fun vs H Q E h => ?_) fun cdv A outer s H vs Q E hr h => ⟨_, hb cdv A outer s H E, ?_⟩
  · obtain ⟨a, ws, rfl, l, _⟩ := h
    simp [l]
  · obtain ⟨a, ws, rfl, l, ha, k⟩ := h
    match ws, l, k with
    | [x, y], _, k =>
      refine ⟨_, rfl, a, C, [.str msg], rfl, by show 1 ≤ 1000; omega, T, ha, ?_⟩
      refine ⟨_, rfl, _, rfl, a, C, rfl, T, hno1, .inl ⟨ha, fun d hd ne => ?_⟩⟩
      refine ⟨_, rfl, _, rfl, a, C, rfl, T, hno2, .inr ⟨d, [(f1, x)], upd_same, by rw [upd_ne ne, upd_same], by show 1 ≤ 900; omega, ?_⟩⟩
      refine k d _ hd ne ?_ upd_same fun b o e hb => ?_
      · rw [upd_ne (Ne.symm ne), upd_same]
      · rw [upd_ne (ne_of_none e hd), upd_ne hb, upd_ne (ne_of_none e hd)]; exact e
end
/-! ### raise -/
def sRaise (c : Nat) (f : Sl → R D) : SF := fun σ => rS (f σ) σ fun d => match d with
  | .tup ds => if (cleanL ds && noFrzL ds) = true then .er c ds.reverse σ else .bad
  | _ => .bad
def sRaise0 (c : Nat) : SF := fun σ => .er c [] σ
theorem Reps.rev {g : Gv} {Z : Addr → Prop} {H : Hp} : ∀ {ds : List D} {vs : List V}, Reps g Z H ds vs [] → Reps g Z H ds.reverse vs.reverse [] := by
  have app : ∀ {ds es : List D} {vs us : List V}, Reps g Z H ds vs [] → Reps g Z H es us [] → Reps g Z H (ds ++ es) (vs ++ us) [] := by
    intro ds
    induction ds with
    | nil =>
      intro es vs us h h2
      generalize hf : ([] : List Addr) = fp at h
      cases h
      exact h2
    | cons d ds ih =>
      intro es vs us h h2
      generalize hf : ([] : List Addr) = fp at h
      cases h with
      | cons a b =>
        obtain ⟨e1, e2⟩ := List.append_eq_nil_iff.mp hf.symm
        subst e1
        subst e2
        exact .cons (f := []) (fs := []) a (ih b h2)
  intro ds
  induction ds with
  | nil =>
    intro vs h
    generalize hf : ([] : List Addr) = fp at h
    cases h
    exact .nil
  | cons d ds ih =>
    intro vs h
    generalize hf : ([] : List Addr) = fp at h
    cases h with
    | cons a b =>
      obtain ⟨e1, e2⟩ := List.append_eq_nil_iff.mp hf.symm
      subst e1
      subst e2
      rw [List.reverse_cons, List.reverse_cons]
      exact app (ih b) (.cons (f := []) (fs := []) a .nil)
theorem Reps.len {g : Gv} {Z : Addr → Prop} {H : Hp} : ∀ {ds : List D} {vs : List V} {fp : List Addr}, Reps g Z H ds vs fp → vs.length = ds.length
  | _, _, _, .nil => rfl
  | _, _, _, .cons _ h => by simp [Reps.len h]
section
variable {X : Cx} {g : Gv} {W : L2.WX} {e : Expr} {es : List Expr} {f : Sl → R D} {x : Bool} {pos p pos' : Pos} {n : Str} {c : Nat}
/-- raise C(e, ..) -/
theorem ss_raise {C fI : Addr} {fd : FuncData} {ps ns : List Str} {m : Nat} (hc : X.calm = true) (tk : Takes X W) (T : XcT X.K X.mg n C) (iC : PySem.W.findIn X.K (.ref C) "__init__" = some (some (.ref fI))) (tI : PySem.W.typeIn X.K (.ref fI) = some (.type "function"))
    (F1 : FnOk X.prog X.w X.K X.mg X.base (L2.CX X.prog X.w) 1 fI fd ps (spX X.K C m ns)) (hb : Binds X.K fd ps []) (hr : Room 2 X.A) (hcl : g.cls c = some (C, ns)) (hns : ns.length = m) (hm0 : ns ≠ []) (hm1 : m ≤ 900) (hp : Passes (L2.CX X.prog X.w) X (fun _ _ _ => False))
    (ha : PA X (e :: es) (tIA g W x f)) (hlen : ∀ σ ds, f σ = .ok (.tup ds) → ds.length = m)
    (hg : Gl X n := by rfl) (hdb : (n == ("__debug__" : Str)) = false := by decide) (he : starEach (e :: es) X.env = (false, eval e X.env) :: starEach es X.env := by exact starE (by rfl)) (hpl : (backTo pos (starEach es X.env)).any (·.1) = false := by rfl) :
    PS X (.Raise (some (.Call (.Name n p) (e :: es) [] pos)) none pos') (tS g W (sRaise c f)) := by
  refine (ps_raise hc tk (pmk_oex (dvs := []) T.T iC tI F1 hr hb .nil hp hg T.mgC ha hdb he hpl)).imp fun E σ H q => ?_
  obtain ⟨H0, Z0, Z, fps, σl, ss, o⟩ := q
  refine ⟨H0, Z, fps, σl, ss.sr, ?_⟩
  have o2 := OutS.rS ss (show OutS g W H0 Z0 Z H E (rS (f σl) σl _) from o)
  cases hf : f σl with
  | bad => rw [hf] at o2; exact o2
  | err c' fs => rw [hf] at o2; exact o2
  | ok d =>
    rw [hf] at o2
    have hl := hlen σl
    cases d with
    | tup ds =>
      have hl := hl ds hf
      by_cases hk : (cleanL ds && noFrzL ds) = true
      · have o3 : OutS g W H0 Z0 Z H E (.er c ds.reverse σl) := by
          have o4 : OutS g W H0 Z0 Z H E (if (cleanL ds && noFrzL ds) = true then .er c ds.reverse σl else .bad) := o2
          rw [if_pos hk] at o4; exact o4
        simp only [Bool.and_eq_true] at hk
        refine ⟨ds, rfl, fun vs H' Z' fp p => ⟨?_, fun a na => ?_⟩⟩
        · rw [p.rep.len, hl]; omega
        · have hfp := Reps.clean p.rep hk.1
          have rp := p.rep
          rw [hfp] at rp
          refine ⟨a, vs, by simp, by rw [rp.len, hl], upd_same, fun d H2 hd nda h1 h2 h3 => ⟨rfl, d, _, h1, h2, ?_, ?_⟩⟩
          · rw [upd_ne nda] at hd; exact hd
          · have hd' : H' d = none := by rw [upd_ne nda] at hd; exact hd
            have same : Same H' (upd (del H2 a) d (.xd (ns.zip vs.reverse))) := fun b o' eb => by
              have nb : b ≠ a := ne_of_none eb na
              rw [upd_ne (ne_of_none eb hd'), del_ne nb]
              exact h3 b o' (by rw [upd_ne nb]; exact eb) nb
            have sf : Same H (upd (del H2 a) d (.xd (ns.zip vs.reverse))) := same_trans p.same same
            have zf : Zx Z Z' H (upd (del H2 a) d (.xd (ns.zip vs.reverse))) := p.zx.trans p.same (.stay p.zx.inn same)
            refine o3 σ _ Z' fps _ _ (ss.step sf zf) (.of_zx sf zf) ⟨C, ns, hcl, rfl, .inr ⟨hm0, d, vs.reverse, rfl, upd_same, by rw [List.length_reverse, rp.len, hl, hns], ?_⟩⟩
            exact Reps.rev ((rp.same (fun _ z => z) same).unzone hk.2)
      · have o4 : OutS g W H0 Z0 Z H E (if (cleanL ds && noFrzL ds) = true then .er c ds.reverse σl else .bad) := o2
        rw [if_neg hk] at o4
        exact o4.elim
    | _ => exact o2.elim
/-- raise C(".."): nothing is kept of it -/
theorem ss_raise0 {C : Addr} {bmB : List Value} {B newId initId : String} {msg : Str} {j : Nat} {p2 : Pos} (hc : X.calm = true) (tk : Takes X W) (F : ExcBaseFacts B newId initId bmB) (q : PySem.W.excIn X.K C bmB newId = true) (gC : X.mg n = some (.ref C)) (kC : PySem.W.keepIn X.K (.ref C) = true)
    (h3 : PySem.W.subIn X.K (.ref C) (.type "BaseException") = some true) (h4 : PySem.W.typeIn X.K (.ref C) = some (.type "type")) (hcl : g.cls c = some (C, [])) (hg : Gl X n := by rfl) (hdb : (n == ("__debug__" : Str)) = false := by decide) :
    PS X (.Raise (some (.Call (.Name n p) [.Constant (.str msg) j p2] [] pos)) none pos') (tS g W (sRaise0 c)) := by
  refine (ps_raise hc tk (pmk_own F q gC kC (raises_own h3 h4) hg hdb)).imp fun E σ H r => ?_
  obtain ⟨H0, Z0, Z, fps, σl, ss, o⟩ := r
  have o3 : OutS g W H0 Z0 Z H E (.er c [] σl) := o
  exact o3 σ H Z fps _ _ ss .refl ⟨C, [], hcl, rfl, .inl ⟨rfl, rfl, rfl⟩⟩
end
end DI
/-! DI, try .. except -/
namespace DI
open PySem PySem.Spec PyProof.Rows L2
/- no exception within (classes below 20 are those of exceptions) -/
mutual
def noX : D → Bool
  | .non => true | .bl _ => true | .int _ => true | .str _ => true
  | .tup xs => noXL xs
  | .lst _ xs => noXL xs
  | .dct _ kvs => noXK kvs
  | .obj c fs => decide (20 ≤ c) && noXL fs
def noXL : List D → Bool
  | [] => true
  | x :: xs => noX x && noXL xs
def noXK : List (NestedKey × D) → Bool
  | [] => true
  | (_, x) :: xs => noX x && noXK xs
end
theorem noXK_map : ∀ kvs : List (NestedKey × D), noXK kvs = noXL (kvs.map (·.2))
  | [] => rfl
  | (_, x) :: xs => by rw [noXK, List.map_cons, noXL, noXK_map xs]
abbrev Gv.at (g : Gv) (a : Addr) (c : Nat) (d : Option Addr) : Gv := ⟨g.P, g.w, g.K, g.cls, g.ins, some (a, c, d)⟩
section
variable {g : Gv} {Z Z' Z1 : Addr → Prop} {H H' H0 : Hp} {a : Addr} {c : Nat} {d0 : Option Addr}
mutual
theorem Rep.uncur (hc : c < 20) : ∀ {d : D} {v : V} {fp : List Addr}, Rep (g.at a c d0) Z H d v fp → noX d = true → Rep g Z H d v fp
  | _, _, _, .non, _ => .non
  | _, _, _, .bl b, _ => .bl b
  | _, _, _, .int i, _ => .int i
  | _, _, _, .str x, _ => .str x
  | _, _, _, .tup h hs, q => .tup h (Reps.uncur hc hs (by rw [noX] at q; exact q))
  | _, _, _, .lst h hs w, q => .lst h (Reps.uncur hc hs (by rw [noX] at q; exact q)) w
  | _, _, _, .lstR h hs, q => .lstR h (Reps.uncur hc hs (by rw [noX] at q; exact q))
  | _, _, _, .dK h e hs w, q => .dK h e (Reps.uncur hc hs (by rw [noX, noXK_map] at q; exact q)) w
  | _, _, _, .dN h e ne hk hs w, q => .dN h e ne hk (Reps.uncur hc hs (by rw [noX, noXK_map] at q; exact q)) w
  | _, _, _, .exc0 e, q => by
    cases e
    simp only [noX, Bool.and_eq_true, decide_eq_true_eq] at q
    omega
  | _, _, _, .excD e _ _ _ _, q => by
    cases e
    simp only [noX, Bool.and_eq_true, decide_eq_true_eq] at q
    omega
  | _, _, _, .ins e h z l hs, q => .ins e h z l (Reps.uncur hc hs (by rw [noX] at q; exact (Bool.and_eq_true_iff.mp q).2))
theorem Reps.uncur (hc : c < 20) : ∀ {ds : List D} {vs : List V} {fp : List Addr}, Reps (g.at a c d0) Z H ds vs fp → noXL ds = true → Reps g Z H ds vs fp
  | _, _, _, .nil, _ => .nil
  | _, _, _, .cons h hs, q => by
    rw [noXL, Bool.and_eq_true] at q
    exact .cons (Rep.uncur hc h q.1) (Reps.uncur hc hs q.2)
end
mutual
theorem Rep.addcur (hg : g.cur = none) : ∀ {d : D} {v : V} {fp : List Addr}, Rep g Z H d v fp → Rep (g.at a c d0) Z H d v fp
  | _, _, _, .non => .non
  | _, _, _, .bl b => .bl b
  | _, _, _, .int i => .int i
  | _, _, _, .str x => .str x
  | _, _, _, .tup h hs => .tup h (Reps.addcur hg hs)
  | _, _, _, .lst h hs w => .lst h (Reps.addcur hg hs) w
  | _, _, _, .lstR h hs => .lstR h (Reps.addcur hg hs)
  | _, _, _, .dK h e hs w => .dK h e (Reps.addcur hg hs) w
  | _, _, _, .dN h e ne hk hs w => .dN h e ne hk (Reps.addcur hg hs) w
  | _, _, _, .exc0 e => by rw [hg] at e; cases e
  | _, _, _, .excD e _ _ _ _ => by rw [hg] at e; cases e
  | _, _, _, .ins e h z l hs => .ins e h z l (Reps.addcur hg hs)
theorem Reps.addcur (hg : g.cur = none) : ∀ {ds : List D} {vs : List V} {fp : List Addr}, Reps g Z H ds vs fp → Reps (g.at a c d0) Z H ds vs fp
  | _, _, _, .nil => .nil
  | _, _, _, .cons h hs => .cons (Rep.addcur hg h) (Reps.addcur hg hs)
end
theorem SR.addcur (hg : g.cur = none) {fps : List (List Addr)} {σl : Sl} {σ : L2.St} (r : SR g H0 Z fps σl σ H) : SR (g.at a c d0) H0 Z fps σl σ H :=
  ⟨r.len, r.lenf, fun i d e => by
    obtain ⟨v, fp, e1, e2, rp⟩ := r.slot i d e
    exact ⟨v, fp, e1, e2, rp.addcur hg⟩, r.gone, r.nd, r.own, r.z, r.same⟩
def noXS (σ : Sl) : Bool := σ.all fun x => match x with
  | some d => noX d
  | none => true
theorem SR.uncur (hc : c < 20) {fps : List (List Addr)} {σl : Sl} {σ : L2.St} (r : SR (g.at a c d0) H0 Z fps σl σ H) (q : noXS σl = true) : SR g H0 Z fps σl σ H :=
  ⟨r.len, r.lenf, fun i d e => by
    obtain ⟨v, fp, e1, e2, rp⟩ := r.slot i d e
    have := List.all_eq_true.mp q (some d) (List.mem_of_getElem? e)
    exact ⟨v, fp, e1, e2, rp.uncur hc this⟩, r.gone, r.nd, r.own, r.z, r.same⟩
end
/-- no exception is left behind the suite -/
def cx : Option D → Option D
  | some d => if noX d = true then some d else none
  | none => none
def clearX (σ : Sl) : Sl := σ.map cx
def unbind (i : Nat) : RS → RS
  | .nx σ => .nx (clearX (σ.set i none))
  | .rt d => if noX d = true then .rt d else .bad
  | .bk σ => .bk (clearX (σ.set i none))
  | .ct σ => .ct (clearX (σ.set i none))
  | _ => .bad
def unsee : RS → RS
  | .nx σ => .nx (clearX σ)
  | .rt d => if noX d = true then .rt d else .bad
  | .bk σ => .bk (clearX σ)
  | .ct σ => .ct (clearX σ)
  | _ => .bad
def zx (σl : Sl) (fps : List (List Addr)) : List (List Addr) := List.zipWith (fun x f => if (cx x).isSome = true then f else []) σl fps
theorem zx_sub : ∀ (σl : Sl) (fps : List (List Addr)), (zx σl fps).flatten.Sublist fps.flatten
  | [], fps => by unfold zx; simp
  | _ :: _, [] => by unfold zx; simp
  | x :: σl, f :: fps => by
    have ih := zx_sub σl fps
    unfold zx at ih ⊢
    rw [List.zipWith_cons_cons, List.flatten_cons, List.flatten_cons]
    refine List.Sublist.append ?_ ih
    split
    · exact List.Sublist.refl _
    · exact List.nil_sublist _
theorem cx_some {x : Option D} {d : D} (h : cx x = some d) : x = some d ∧ noX d = true := by
  cases x with
  | none => cases h
  | some e =>
    have h : (if noX e = true then some e else none) = some d := h
    by_cases q : noX e = true
    · rw [if_pos q] at h; cases h; exact ⟨rfl, q⟩
    · rw [if_neg q] at h; cases h
theorem SR.clear {g : Gv} {Z : Addr → Prop} {H H0 : Hp} {a : Addr} {c : Nat} {d0 : Option Addr} (hc : c < 20) {fps : List (List Addr)} {σl : Sl} {σ : L2.St} (r : SR (g.at a c d0) H0 Z fps σl σ H) : SR g H0 Z (zx σl fps) (clearX σl) σ H where
  len := by unfold clearX; rw [List.length_map]; exact r.len
  lenf := by unfold zx; rw [List.length_zipWith, r.len, r.lenf, Nat.min_self]
  slot := fun i d e => by
    unfold clearX at e
    rw [List.getElem?_map] at e
    cases hx : σl[i]? with
    | none => rw [hx] at e; cases e
    | some x =>
      rw [hx] at e
      obtain ⟨rfl, q⟩ := cx_some (Option.some.inj e)
      obtain ⟨v, fp, e1, e2, rp⟩ := r.slot i d hx
      refine ⟨v, fp, e1, ?_, rp.uncur hc q⟩
      unfold zx
      rw [List.getElem?_zipWith, hx, e2]
      simp [cx, q]
  gone := fun i e => by
    unfold clearX at e
    rw [List.getElem?_map] at e
    cases hx : σl[i]? with
    | none => rw [hx] at e; cases e
    | some x =>
      rw [hx] at e
      have hl : i < fps.length := by
        rw [r.lenf, ← r.len]
        exact (List.getElem?_eq_some_iff.mp hx).1
      unfold zx
      rw [List.getElem?_zipWith, hx, List.getElem?_eq_getElem hl]
      have e2 : cx x = none := Option.some.inj e
      simp [e2]
  nd := r.nd.sublist (zx_sub σl fps)
  own := fun b hb => r.own b ((zx_sub σl fps).subset hb)
  z := r.z
  same := r.same
/-- try: body; except C as name: handler (name is slot i) -/
def sTryA (i : Nat) (k y : Nat → Bool) (b h : SF) : SF := fun σ => match b σ with
  | .er c fs σ' => if k c = true then (if y c = true then unbind i (h (σ'.set i (some (.obj c fs)))) else .bad) else .er c fs σ'
  | r => r
/-- try: body; except C: handler -/
def sTryO (k y : Nat → Bool) (b h : SF) : SF := fun σ => match b σ with
  | .er c fs σ' => if k c = true then (if y c = true then unsee (h σ') else .bad) else .er c fs σ'
  | r => r
section
variable {X : Cx} {g : Gv} {W : L2.WX} {fb fh : SF} {n x : Str} {i : Nat} {cEx : Value} {body suite : List Stmt} {b₀ : Stmt} {np pos pos' : Pos}
theorem SS.addcur {g : Gv} {H0 H : Hp} {Z0 Z : Addr → Prop} {fps : List (List Addr)} {σl : Sl} {σ : L2.St} {a : Addr} {c : Nat} {d0 : Option Addr} (hg : g.cur = none) (s : SS g H0 Z0 Z fps σl σ H) : SS (g.at a c d0) H0 Z0 Z fps σl σ H := ⟨s.sr.addcur hg, s.z0, s.zn⟩
theorem SS.uncur {g : Gv} {H0 H : Hp} {Z0 Z : Addr → Prop} {fps : List (List Addr)} {σl : Sl} {σ : L2.St} {a : Addr} {c : Nat} {d0 : Option Addr} (hc : c < 20) (s : SS (g.at a c d0) H0 Z0 Z fps σl σ H) (q : noXS σl = true) : SS g H0 Z0 Z fps σl σ H := ⟨s.sr.uncur hc q, s.z0, s.zn⟩
theorem exr_rep {a : Addr} {c : Nat} {fs : List D} {cls : Value} {d : Option Addr} {H : Hp} {Z : Addr → Prop} (hg : g.cur = none) (e : ExR g c fs cls d H) : Rep (g.at a c d) Z H (.obj c fs) (.ref a) [] := by
  obtain ⟨C, ns, h1, rfl, ⟨rfl, rfl, rfl⟩ | ⟨hn, dd, vs, rfl, h2, h3, h4⟩⟩ := e
  · exact .exc0 rfl
  · exact .excD rfl h1 h2 h3 ((h4.same (fun _ z => z.elim) (same_refl H)).addcur hg)
theorem ss_try_as (k y : Nat → Bool) (hg : g.cur = none) (h20 : ∀ c, y c = true → c < 20) (hs : X.stack = X.env :: X.outer) (hf : X.env.frame = some X.env.locals) (hN : X.N.Nodup) (hi : X.N[i]? = some n) (hln : X.env.kindOf n = some .local) (hc : Names X x cEx) (tk : Takes X W)
    (hm : ∀ c C ns, g.cls c = some (C, ns) → PySem.W.exmOne X.K (.ref C) cEx = some (k c))
    (hb : ∀ (W' : L2.WX) (pn : List (Addr × Obj)) (xe : Value → Shared → Prop), Takes (X.tr pn xe) W' → PassesOwn (model X.prog X.w) X.A X.env xe → PSs (X.tr pn xe) body (tS g W' fb))
    (hh : ∀ (a : Addr) (oe : Obj) (d : Option Addr) (pn : List (Addr × Obj)) (c : Nat) (C : Addr) (ns : List Str), g.cls c = some (C, ns) → y c = true → (ns = [] → d = none) → Zc (.ref C) d oe → (∃ vs, oe.data = .fields vs) → PSs (X.suite a ((a, oe) :: pn)) (b₀ :: suite) (tS (g.at a c d) WF fh)) :
    PS X (.Try body [.ExceptHandler (some (.Name x np)) (some n) (b₀ :: suite) pos'] [] [] pos) (tS g W (sTryA i k y fb fh)) := by
  refine (ps_try_as (tb := fun W' => tS g W' fb) (ts := fun a cls d D σ H => ∃ c C ns, g.cls c = some (C, ns) ∧ y c = true ∧ (ns = [] → d = none) ∧ cls = .ref C ∧ tS (g.at a c d) WF fh D σ H) hs hf hN hi hln hc tk hb ?_).imp fun E σ H q => ?_
  · intro a oe cls d pn hz hd
    refine ⟨fun pins s σ H Q I h => ?_⟩
    obtain ⟨c, C, ns, h1, h2, hdn, rfl, h3⟩ := h
    exact (hh a oe d pn c C ns h1 h2 hdn hz hd).run pins s σ H Q I h3
  · obtain ⟨H0, Z0, Z, fps, σl, ss, o⟩ := q
    refine ⟨H0, Z0, Z, fps, σl, ss, ?_⟩
    unfold sTryA at o
    cases hb : fb σl with
    | nx σ1 => rw [hb] at o; exact o
    | rt d => rw [hb] at o; exact o
    | bk σ1 => rw [hb] at o; exact o
    | ct σ1 => rw [hb] at o; exact o
    | bad => rw [hb] at o; exact o
    | er c fs σ1 =>
      rw [hb] at o
      simp only at o
      intro σ' H' Z' fps' cls d s1 ev ex
      obtain ⟨C, ns, h1, h2, alt⟩ := id ex
      have hdn : ns = [] → d = none := fun e => by
        rcases alt with ⟨_, _, e3⟩ | ⟨e1, _⟩
        · exact e3
        · exact absurd e e1
      refine ⟨k c, by rw [h2]; exact hm c C ns h1, fun hk a na => ?_, fun hk => ?_⟩
      · rw [if_pos hk] at o
        obtain ⟨hy, o⟩ := OutS.guard o
        refine ⟨c, C, ns, h1, hy, hdn, h2, ?_⟩
        have hc20 := h20 c hy
        have rp : Rep (g.at a c d) Z' H' (.obj c fs) (.ref a) [] := exr_rep hg ex
        have s2 : SS (g.at a c d) H0 Z0 Z' fps' σ1 σ' H' := s1.addcur hg
        refine ⟨H0, Z0, Z', _, _, ⟨s2.sr.bind0 i rp, s2.z0, s2.zn⟩, ?_⟩
        cases hh : fh (σ1.set i (some (.obj c fs))) with
        | nx σ2 =>
          rw [hh] at o
          have o : OutS g W H0 Z0 Z H E (.nx (clearX (σ2.set i none))) := o
          intro σ3 H3 Z3 fps3 s3 e3
          have s4 : SR (g.at a c d) H0 Z3 (fps3.set i []) (σ2.set i none) (σ3.set i none) H3 := s3.sr.drop2 i
          exact o _ H3 Z3 _ ⟨s4.clear hc20, s3.z0, s3.zn⟩ (ev.trans e3)
        | rt dd =>
          rw [hh] at o
          have o : OutS g W H0 Z0 Z H E (if noX dd = true then .rt dd else .bad) := o
          obtain ⟨hx, o⟩ := OutS.guard o
          intro v H3 Z3 fp p
          exact o v H3 Z3 fp ⟨p.same, p.zx, p.rep.uncur hc20 hx, p.own⟩
        | bk σ2 =>
          rw [hh] at o
          have o : OutS g W H0 Z0 Z H E (.bk (clearX (σ2.set i none))) := o
          intro σ3 H3 Z3 fps3 s3 e3
          have s4 : SR (g.at a c d) H0 Z3 (fps3.set i []) (σ2.set i none) (σ3.set i none) H3 := s3.sr.drop2 i
          exact o _ H3 Z3 _ ⟨s4.clear hc20, s3.z0, s3.zn⟩ (ev.trans e3)
        | ct σ2 =>
          rw [hh] at o
          have o : OutS g W H0 Z0 Z H E (.ct (clearX (σ2.set i none))) := o
          intro σ3 H3 Z3 fps3 s3 e3
          have s4 : SR (g.at a c d) H0 Z3 (fps3.set i []) (σ2.set i none) (σ3.set i none) H3 := s3.sr.drop2 i
          exact o _ H3 Z3 _ ⟨s4.clear hc20, s3.z0, s3.zn⟩ (ev.trans e3)
        | er c' fs' σ2 => rw [hh] at o; exact (show False from o).elim
        | bad => rw [hh] at o; exact (show False from o).elim
      · rw [if_neg (by rw [hk]; decide)] at o
        exact o σ' H' Z' fps' cls d s1 ev ex
theorem ss_try_only (k y : Nat → Bool) (hg : g.cur = none) (h20 : ∀ c, y c = true → c < 20) (hs : X.stack = X.env :: X.outer) (hf : X.env.frame = some X.env.locals) (hc : Names X x cEx) (tk : Takes X W)
    (hm : ∀ c C ns, g.cls c = some (C, ns) → PySem.W.exmOne X.K (.ref C) cEx = some (k c))
    (hb : ∀ (W' : L2.WX) (pn : List (Addr × Obj)) (xe : Value → Shared → Prop), Takes (X.tr pn xe) W' → PassesOwn (model X.prog X.w) X.A X.env xe → PSs (X.tr pn xe) body (tS g W' fb))
    (hh : ∀ (a : Addr) (oe : Obj) (d : Option Addr) (pn : List (Addr × Obj)) (c : Nat) (C : Addr) (ns : List Str), g.cls c = some (C, ns) → y c = true → (ns = [] → d = none) → Zc (.ref C) d oe → (∃ vs, oe.data = .fields vs) → PSs (X.suite a ((a, oe) :: pn)) (b₀ :: suite) (tS (g.at a c d) WF fh)) :
    PS X (.Try body [.ExceptHandler (some (.Name x np)) none (b₀ :: suite) pos'] [] [] pos) (tS g W (sTryO k y fb fh)) := by
  refine (ps_try_only (tb := fun W' => tS g W' fb) (ts := fun a cls d D σ H => ∃ c C ns, g.cls c = some (C, ns) ∧ y c = true ∧ (ns = [] → d = none) ∧ cls = .ref C ∧ tS (g.at a c d) WF fh D σ H) hs hf hc tk hb ?_).imp fun E σ H q => ?_
  · intro a oe cls d pn hz hd
    refine ⟨fun pins s σ H Q I h => ?_⟩
    obtain ⟨c, C, ns, h1, h2, hdn, rfl, h3⟩ := h
    exact (hh a oe d pn c C ns h1 h2 hdn hz hd).run pins s σ H Q I h3
  · obtain ⟨H0, Z0, Z, fps, σl, ss, o⟩ := q
    refine ⟨H0, Z0, Z, fps, σl, ss, ?_⟩
    unfold sTryO at o
    cases hb : fb σl with
    | nx σ1 => rw [hb] at o; exact o
    | rt d => rw [hb] at o; exact o
    | bk σ1 => rw [hb] at o; exact o
    | ct σ1 => rw [hb] at o; exact o
    | bad => rw [hb] at o; exact o
    | er c fs σ1 =>
      rw [hb] at o
      simp only at o
      intro σ' H' Z' fps' cls d s1 ev ex
      obtain ⟨C, ns, h1, h2, alt⟩ := id ex
      have hdn : ns = [] → d = none := fun e => by
        rcases alt with ⟨_, _, e3⟩ | ⟨e1, _⟩
        · exact e3
        · exact absurd e e1
      refine ⟨k c, by rw [h2]; exact hm c C ns h1, fun hk a na => ?_, fun hk => ?_⟩
      · rw [if_pos hk] at o
        obtain ⟨hy, o⟩ := OutS.guard o
        refine ⟨c, C, ns, h1, hy, hdn, h2, ?_⟩
        have hc20 := h20 c hy
        have s2 : SS (g.at a c d) H0 Z0 Z' fps' σ1 σ' H' := s1.addcur hg
        refine ⟨H0, Z0, Z', _, _, s2, ?_⟩
        cases hh : fh σ1 with
        | nx σ2 =>
          rw [hh] at o
          have o : OutS g W H0 Z0 Z H E (.nx (clearX σ2)) := o
          intro σ3 H3 Z3 fps3 s3 e3
          exact o _ H3 Z3 _ ⟨s3.sr.clear hc20, s3.z0, s3.zn⟩ (ev.trans e3)
        | rt dd =>
          rw [hh] at o
          have o : OutS g W H0 Z0 Z H E (if noX dd = true then .rt dd else .bad) := o
          obtain ⟨hx, o⟩ := OutS.guard o
          intro v H3 Z3 fp p
          exact o v H3 Z3 fp ⟨p.same, p.zx, p.rep.uncur hc20 hx, p.own⟩
        | bk σ2 =>
          rw [hh] at o
          have o : OutS g W H0 Z0 Z H E (.bk (clearX σ2)) := o
          intro σ3 H3 Z3 fps3 s3 e3
          exact o _ H3 Z3 _ ⟨s3.sr.clear hc20, s3.z0, s3.zn⟩ (ev.trans e3)
        | ct σ2 =>
          rw [hh] at o
          have o : OutS g W H0 Z0 Z H E (.ct (clearX σ2)) := o
          intro σ3 H3 Z3 fps3 s3 e3
          exact o _ H3 Z3 _ ⟨s3.sr.clear hc20, s3.z0, s3.zn⟩ (ev.trans e3)
        | er c' fs' σ2 => rw [hh] at o; exact (show False from o).elim
        | bad => rw [hh] at o; exact (show False from o).elim
      · rw [if_neg (by rw [hk]; decide)] at o
        exact o σ' H' Z' fps' cls d s1 ev ex
/-! ### what a suite asks of the exception -/
/-- e.f : t tells the fields of each class -/
def eXf (t : Nat → List Str) (f : Str) (e : Sl → R D) : Sl → R D := fun σ => (e σ).bind fun d => match d with
  | .obj c fs => if t c ≠ [] then ofR (((t c).zip fs).lookup f) else .bad
  | _ => .bad
/-- isinstance(e, C) -/
def eXi (k : Nat → Bool) (e : Sl → R D) : Sl → R D := fun σ => (e σ).bind fun d => match d with
  | .obj c fs => if c < 20 then .ok (.bl (k c)) else .bad
  | _ => .bad
theorem zip_look {g : Gv} {Z : Addr → Prop} {H : Hp} {f : Str} : ∀ {ns : List Str} {vs : List V} {fs : List D} {d : D}, Reps g Z H fs vs [] → (ns.zip fs).lookup f = some d → ∃ v, (ns.zip vs).lookup f = some v ∧ Rep g Z H d v []
  | [], _, _, _, _, e => by cases e
  | m :: ns, vs, fs, d, r, e => by
    generalize hf : ([] : List Addr) = fp at r
    cases r with
    | nil => cases e
    | @cons x v xs vs f1 f2 a b =>
      obtain ⟨e1, e2⟩ := List.append_eq_nil_iff.mp hf.symm
      subst e1
      subst e2
      rw [List.zip_cons_cons, List.lookup_cons] at e ⊢
      cases hq : f == m with
      | true => rw [hq] at e; cases e; exact ⟨v, rfl, a⟩
      | false => rw [hq] at e; exact zip_look b e
theorem out_obj {Z : Addr → Prop} {H : Hp} {a : Addr} {c : Nat} {d : Option Addr} {c' : Nat} {fs : List D} {v : V} {fp : List Addr} (r : Rep (g.at a c d) Z H (.obj c' fs) v fp) (hne : g.ins c' = none) : v = .ref a ∧ c' = c ∧ fp = [] ∧ ((d = none ∧ fs = []) ∨ ∃ dd C ns vs, d = some dd ∧ g.cls c = some (C, ns) ∧ H dd = some (.xd (ns.zip vs)) ∧ Reps (g.at a c d) Z H fs vs []) := by
  cases r with
  | exc0 e => cases e; exact ⟨rfl, rfl, rfl, .inl ⟨rfl, rfl⟩⟩
  | excD e e2 h l hs => cases e; exact ⟨rfl, rfl, rfl, .inr ⟨_, _, _, _, rfl, e2, h, hs⟩⟩
  | ins e h z l hs => rw [show g.ins c' = some _ from e] at hne; cases hne
theorem se_xf {a : Addr} {oe : Obj} {pn : List (Addr × Obj)} {c : Nat} {C : Addr} {d : Option Addr} {ns : List Str} {f : Str} {e : Expr} {fe : Sl → R D} {bo : Bool} {pos : Pos} (t : Nat → List Str) (hc : c < 20) (T : XfC X.K C) (hno : PySem.W.findIn X.K (.ref C) f = some none) (hz : Zc (.ref C) d oe) (hd : ∃ vs, oe.data = .fields vs)
    (hcl : g.cls c = some (C, ns)) (ht : ∀ c C ns, g.cls c = some (C, ns) → t c = ns) (hins : ∀ c, t c ≠ [] → g.ins c = none) (he : PE (X.suite a ((a, oe) :: pn)) e (tI (g.at a c d) W bo fe))
    (hb : attributeBase e f X.env (eval e X.env) = eval e X.env := by rfl) :
    PE (X.suite a ((a, oe) :: pn)) (.Attribute e f pos) (tI (g.at a c d) W true (eXf t f fe)) := (pe_xf T hno hz hd he hb).imp fun σ H Q q => by
  obtain ⟨H0, Z, fps, σl, sr, o⟩ := q
  refine ⟨H0, Z, fps, σl, sr, o.bind.imp fun x o v H' Z' fp p => ?_⟩
  cases x with
  | obj c' fs =>
    have o : Out (g.at a c d) W Z σ H (if t c' ≠ [] then ofR (((t c').zip fs).lookup f) else .bad) _ := o
    obtain ⟨hn, o⟩ := Out.guard o
    obtain ⟨x, hx, o⟩ := ofR_out o
    obtain ⟨rfl, rfl, rfl, ⟨rfl, rfl⟩ | ⟨dd, C2, ns2, vs, rfl, e2, h2, hs⟩⟩ := out_obj p.rep (hins c' hn)
    · cases h : t c' <;> rw [h] at hx <;> cases hx
    · rw [hcl] at e2
      cases e2
      rw [ht c' C ns hcl] at hx
      obtain ⟨w, hw, rw'⟩ := zip_look hs hx
      exact ⟨rfl, rfl, dd, _, w, rfl, h2, hw, o w H' Z' [] ⟨p.same, p.zx, rw', fun _ => ⟨List.nodup_nil, fun _ h => nomatch h⟩⟩⟩
  | _ => exact (show False from o).elim
/-- isinstance(e, C) of an exception without fields -/
theorem se_xi {a : Addr} {oe : Obj} {pn : List (Addr × Obj)} {c : Nat} {C : Addr} {e : Expr} {fe : Sl → R D} {bo : Bool} {pos p p3 : Pos} {n : Str} {cv : V} {cw : Value} (k : Nat → Bool) (hc : c < 20) (T : ExcC X.K C) (hz : Zc (.ref C) none oe) (hd : ∃ vs, oe.data = .fields vs) (hins : ∀ c, c < 20 → g.ins c = none)
    (he : PE (X.suite a ((a, oe) :: pn)) e (tI (g.at a c none) W bo fe)) (hm : X.mg "isinstance" = none) (hN : PE (X.suite a ((a, oe) :: pn)) (.Name n p3) (tC cv)) (hcv : ∀ u, RelV cv u → u = cw) (hk : PySem.W.kitOne X.K (.ref C) cw = some (k c)) (hg : Gl X "isinstance" := by rfl)
    (hst : starEach [e, .Name n p3] X.env = (false, eval e X.env) :: starEach [.Name n p3] X.env := by exact starE (by rfl)) (hpl : (backTo pos (starEach [.Name n p3] X.env)).any (·.1) = false := by rfl) :
    PE (X.suite a ((a, oe) :: pn)) (.Call (.Name "isinstance" p) [e, .Name n p3] [] pos) (tI (g.at a c none) W true (eXi k fe)) :=
  (pe_callB (call_isE T hz hd) (X := X.suite a ((a, oe) :: pn)) hg hm (by decide +kernel) (pa_cons he (pa_cons hN pa_nil) hst) (by decide) (by decide) hst hpl).imp fun σ H Q q => by
  obtain ⟨H0, Z, fps, σl, sr, o⟩ := q
  refine ⟨H0, Z, fps, σl, sr, o.bind.imp fun x o v H' Z' fp p => ?_⟩
  cases x with
  | obj c' fs =>
    have o1 : Out (g.at a c none) W Z σ H (if c' < 20 then R.ok (D.bl (k c')) else .bad) _ := o
    obtain ⟨hn, o2⟩ := Out.guard o1
    have o3 : ∀ (v : V) (H' : Hp) (Z' : Addr → Prop) (fp : List Addr), PostE (g.at a c none) true Z Z' H H' (D.bl (k c')) v fp → Q v H' := o2
    obtain ⟨rfl, rfl, rfl, ⟨_, rfl⟩ | ⟨dd, _, _, _, e1, _⟩⟩ := out_obj p.rep (hins c' hn)
    · exact ⟨cv, cw, _, rfl, hcv, hk, o3 (V.bl (k c')) H' Z' [] ⟨p.same, p.zx, .bl _, fun _ => ⟨List.nodup_nil, fun _ h => nomatch h⟩⟩⟩
    · cases e1
  | _ => exact (show False from o).elim
end
end DI
/-! DI, refusals in a law's text -/
namespace DI
open PySem PySem.Spec PyProof.Rows L2
/-- a refusal's class with its own __init__: ps its parameters, ns its fields, the last one first -/
structure XcA (K : PySem.W.Frag) (mg : Str → Option Value) (n qual : Str) (st : Stmt) (ps ns : List Str) (C fI : Addr) (fd : FuncData) : Prop where
  T : XcT K mg n C
  iC : PySem.W.findIn K (.ref C) "__init__" = some (some (.ref fI))
  tI : PySem.W.typeIn K (.ref fI) = some (.type "function")
  Fn : Fun K "__init__" qual st fI fd
  hb : Binds K fd ps []
  no : ∀ f ∈ ns, PySem.W.findIn K (.ref C) f = some none
  xf : XfC K C
def XcE (K : PySem.W.Frag) (mg : Str → Option Value) (cE : Nat → Option (Addr × List Str)) (n qual : Str) (st : Stmt) (ps ns : List Str) (c : Nat) : Prop := ∃ C fI fd, XcA K mg n qual st ps ns C fI fd ∧ cE c = some (C, ns)
/-- one without -/
structure Xc0 (K : PySem.W.Frag) (mg : Str → Option Value) (n : Str) (C : Addr) : Prop where
  ex : PySem.W.excIn K C [Value.type "ValueError", Value.type "Exception", Value.type "BaseException", Value.type "object"] "ValueError.__new__" = true
  mgC : mg n = some (.ref C)
  kC : PySem.W.keepIn K (.ref C) = true
  h3 : PySem.W.subIn K (.ref C) (.type "BaseException") = some true
  h4 : PySem.W.typeIn K (.ref C) = some (.type "type")
  ec : ExcC K C
def XcN (K : PySem.W.Frag) (mg : Str → Option Value) (cE : Nat → Option (Addr × List Str)) (n : Str) (c : Nat) : Prop := ∃ C, Xc0 K mg n C ∧ cE c = some (C, [])
/-- except n: which classes it takes -/
def XcM (K : PySem.W.Frag) (mg : Str → Option Value) (cE : Nat → Option (Addr × List Str)) (n : Str) (k : Nat → Bool) : Prop := ∃ C, mg n = some (.ref C) ∧ ∀ c C' ns, cE c = some (C', ns) → PySem.W.exmOne K (.ref C') (.ref C) = some (k c)
/-- isinstance(e, n) -/
def XcI (K : PySem.W.Frag) (mg : Str → Option Value) (cE : Nat → Option (Addr × List Str)) (n : Str) (k : Nat → Bool) : Prop := ∃ C, mg n = some (.ref C) ∧ ∀ c C' ns, cE c = some (C', ns) → PySem.W.kitOne K (.ref C') (.ref C) = some (k c)
def XcV (K : PySem.W.Frag) (cE : Nat → Option (Addr × List Str)) (T : String) : Prop := ∀ c C' ns, cE c = some (C', ns) → PySem.W.kitOne K (.ref C') (.type T) = some true
/-- a table of classes -/
def tabE : List (Nat × Addr × List Str) → Nat → Option (Addr × List Str)
  | [], _ => none
  | (k, p) :: r, c => if c = k then some p else tabE r c
theorem tabE_all {P : Nat → Addr → List Str → Prop} : ∀ {l : List (Nat × Addr × List Str)}, (∀ t ∈ l, P t.1 t.2.1 t.2.2) → ∀ c C ns, tabE l c = some (C, ns) → P c C ns
  | [], _, c, C, ns, h => by cases h
  | (k, p) :: r, a, c, C, ns, h => by
    rw [tabE] at h
    by_cases e : c = k
    · rw [if_pos e] at h
      cases h
      rw [e]
      exact a _ List.mem_cons_self
    · rw [if_neg e] at h
      exact tabE_all (fun t ht => a t (List.mem_cons_of_mem _ ht)) c C ns h
theorem xc_eq {cE : Nat → Option (Addr × List Str)} {c : Nat} {C C' : Addr} {ns ns' : List Str} (h : cE c = some (C, ns)) (h' : cE c = some (C', ns')) : C' = C ∧ ns' = ns := by
  have e := h.symm.trans h'
  cases e
  exact ⟨rfl, rfl⟩
def oneOfN (l : List Nat) (c : Nat) : Bool := l.contains c
theorem excC_mk {K : PySem.W.Frag} {D : Addr} (hg : PySem.W.findIn K (.ref D) "__getattribute__" = some (some (.builtin "BaseException.__getattribute__"))) (hk : PySem.W.findIn K (.ref D) "__getattr__" = some none) (hs : PySem.W.subIn K (.ref D) (.type "BaseException") = some true) (hd : PySem.W.hasDictIn K D = true)
    (ha : PySem.W.findIn K (.ref D) "__class__" = some (some (.builtin "object.__class__"))) (hn : PySem.W.specialIn K (.builtin "object.__class__") "__get__" = some (some (.builtin "getset_descriptor.__get__"))) (ht : PySem.W.takesIn K (.builtin "object.__class__") = some true) (hm : PySem.W.mroIn K D (.type "object") = some true) : ExcC K D := ⟨hg, hk, hs, hd, ha, hn, ht, hm⟩
section
variable {X : Cx} {g : Gv} {W : L2.WX} {e : Expr} {es : List Expr} {f : Sl → R D} {x : Bool} {pos p pos' : Pos} {n : Str} {c : Nat}
theorem t_raise {qual : Str} {st : Stmt} {ps ns : List Str} (m : Nat) (h : XcE X.K X.mg g.cls n qual st ps ns c) (ok : ∀ {C fI : Addr} {fd : FuncData}, XcA X.K X.mg n qual st ps ns C fI fd → FnOk X.prog X.w X.K X.mg X.base (L2.CX X.prog X.w) 1 fI fd ps (spX X.K C m ns)) (hr : Room 2 X.A) (tk : Takes X W)
    (ha : PA X (e :: es) (tIA g W x f)) (hlen : ∀ σ ds, f σ = .ok (.tup ds) → ds.length = m) (hns : ns.length = m := by rfl) (hm0 : ns ≠ [] := by decide) (hm1 : m ≤ 900 := by decide) (hc : X.calm = true := by rfl)
    (hg : Gl X n := by rfl) (hdb : (n == ("__debug__" : Str)) = false := by decide) (he : starEach (e :: es) X.env = (false, eval e X.env) :: starEach es X.env := by exact starE (by rfl)) (hpl : (backTo pos (starEach es X.env)).any (·.1) = false := by rfl) :
    PS X (.Raise (some (.Call (.Name n p) (e :: es) [] pos)) none pos') (tS g W (sRaise c f)) := by
  obtain ⟨C, fI, fd, a, hcl⟩ := h
  exact ss_raise hc tk a.T a.iC a.tI (ok a) a.hb hr hcl hns hm0 hm1 passL ha hlen hg hdb he hpl
theorem t_raise0 {msg : Str} {j : Nat} {p2 : Pos} (h : XcN X.K X.mg g.cls n c) (tk : Takes X W) (hc : X.calm = true := by rfl) (hg : Gl X n := by rfl) (hdb : (n == ("__debug__" : Str)) = false := by decide) :
    PS X (.Raise (some (.Call (.Name n p) [.Constant (.str msg) j p2] [] pos)) none pos') (tS g W (sRaise0 c)) := by
  obtain ⟨C, a, hcl⟩ := h
  exact ss_raise0 hc tk F.excBase_ValueError a.ex a.mgC a.kC a.h3 a.h4 hcl hg hdb
theorem t_try_as {fb fh : SF} {nm xn : Str} {body suite : List Stmt} {b₀ : Stmt} {np : Pos} (i : Nat) (k y : Nat → Bool) (hm : XcM X.K X.mg g.cls xn k) (h20 : ∀ c, y c = true → c < 20) (nd : X.N.Nodup) (tk : Takes X W)
    (hb : ∀ (W' : L2.WX) (pn : List (Addr × Obj)) (xe : Value → Shared → Prop), Takes (X.tr pn xe) W' → PassesOwn (model X.prog X.w) X.A X.env xe → PSs (X.tr pn xe) body (tS g W' fb))
    (hh : ∀ (a : Addr) (oe : Obj) (d : Option Addr) (pn : List (Addr × Obj)) (c : Nat) (C : Addr) (ns : List Str), g.cls c = some (C, ns) → y c = true → (ns = [] → d = none) → Zc (.ref C) d oe → (∃ vs, oe.data = .fields vs) → PSs (X.suite a ((a, oe) :: pn)) (b₀ :: suite) (tS (g.at a c d) WF fh))
    (hg : g.cur = none := by rfl) (hs : X.stack = X.env :: X.outer := by rfl) (hf : X.env.frame = some X.env.locals := by rfl) (hi : X.N[i]? = some nm := by rfl) (hln : X.env.kindOf nm = some .local := by rfl) (hgl : Gl X xn := by rfl) (hdb : (xn == ("__debug__" : Str)) = false := by decide) :
    PS X (.Try body [.ExceptHandler (some (.Name xn np)) (some nm) (b₀ :: suite) pos'] [] [] pos) (tS g W (sTryA i k y fb fh)) := by
  obtain ⟨C, hmg, hex⟩ := hm
  exact ss_try_as k y hg h20 hs hf nd hi hln ⟨hgl, hdb, .inl hmg⟩ tk hex hb hh
theorem t_try_only {fb fh : SF} {xn : Str} {body suite : List Stmt} {b₀ : Stmt} {np : Pos} (k y : Nat → Bool) (hm : XcM X.K X.mg g.cls xn k) (h20 : ∀ c, y c = true → c < 20) (tk : Takes X W)
    (hb : ∀ (W' : L2.WX) (pn : List (Addr × Obj)) (xe : Value → Shared → Prop), Takes (X.tr pn xe) W' → PassesOwn (model X.prog X.w) X.A X.env xe → PSs (X.tr pn xe) body (tS g W' fb))
    (hh : ∀ (a : Addr) (oe : Obj) (d : Option Addr) (pn : List (Addr × Obj)) (c : Nat) (C : Addr) (ns : List Str), g.cls c = some (C, ns) → y c = true → (ns = [] → d = none) → Zc (.ref C) d oe → (∃ vs, oe.data = .fields vs) → PSs (X.suite a ((a, oe) :: pn)) (b₀ :: suite) (tS (g.at a c d) WF fh))
    (hg : g.cur = none := by rfl) (hs : X.stack = X.env :: X.outer := by rfl) (hf : X.env.frame = some X.env.locals := by rfl) (hgl : Gl X xn := by rfl) (hdb : (xn == ("__debug__" : Str)) = false := by decide) :
    PS X (.Try body [.ExceptHandler (some (.Name xn np)) none (b₀ :: suite) pos'] [] [] pos) (tS g W (sTryO k y fb fh)) := by
  obtain ⟨C, hmg, hex⟩ := hm
  exact ss_try_only k y hg h20 hs hf ⟨hgl, hdb, .inl hmg⟩ tk hex hb hh
end
/-- the law's promise, with no word of the interpreter -/
def spLaw (K : PySem.W.Frag) : Sp := fun vs H Q _ => ∃ (a : Addr) (ns : List Int), vs = [.ref a] ∧ SqL K H a (ns.map V.int) ∧ Only H ∧ ns.length ≤ 63 ∧ ∀ v H', v = V.bl true → Q v H'
theorem FnOk.imp {P : Program} {w : World} {K : PySem.W.Frag} {mg : Str → Option Value} {base : Heap} {CX : CXT} {k : Nat} {f : Addr} {fd : FuncData} {ps : List Str} {sp sp' : Sp} (F : FnOk P w K mg base CX k f fd ps sp) (h : ∀ vs H Q E, sp' vs H Q E → sp vs H Q E) : FnOk P w K mg base CX k f fd ps sp' :=
  ⟨fun vs H Q E q => F.len vs H Q E (h vs H Q E q), fun A outer s H args us vs Q E r e b v q => F.run A outer s H args us vs Q E r e b v (h vs H Q E q)⟩
theorem sp_law {g : Gv} {h : List D → R D} (hh : ∀ ns : List Int, ns.length ≤ 63 → h [.lst false (ns.map D.int)] = .ok (.bl true)) : ∀ vs H Q E, spLaw g.K vs H Q E → spI g 1 h vs H Q E := by
  intro vs H Q E q
  obtain ⟨a, ns, rfl, hS, hO, hl, k⟩ := q
  refine ⟨fun _ => False, [.lst false (ns.map D.int)], fun _ z => z.elim, ?_, rfl, ?_⟩
  · have rs : Reps g (fun _ => False) H (ns.map D.int) (ns.map V.int) [] := by
      clear hS hl
      induction ns with
      | nil => exact .nil
      | cons n r ih => exact .cons (f := []) (fs := []) (.int n) ih
    refine .cons (f := []) (fs := []) (.lstR ?_ rs) .nil
    rcases hS with (q | q) | q
    · rcases hO a with e | ⟨o, xs, e⟩
      · rw [e] at q; cases q
      · rw [e] at q; cases q
    · exact .inl q
    · exact .inr q
  · rw [hh ns hl]
    intro v H' Z' fp p
    exact k v H' (rep_bl p.rep).1
end DI
/-! DI, further constructs: list(range(n)) -/
namespace DI
open PySem PySem.Spec PyProof.Rows L2
/-- list(range(n)) -/
noncomputable def eLR (f : Sl → R D) : Sl → R D := fun σ => (f σ).bind fun x => (intOf x).bind fun n => if small62 n = true ∧ n.toNat ≤ sizeLine then .ok (.lst true (rngL 0 n.toNat)) else .bad
section
variable {X : Cx} {g : Gv} {W : L2.WX} {e : Expr} {f : Sl → R D} {x : Bool} {pos p p2 pos2 : Pos}
theorem z_lrg (ha : PE X e (tI g W x f)) (hm : X.mg "list" = none) (hm2 : X.mg "range" = none) (hc : X.calm = true := by rfl) (hg : Gl X "list" := by rfl) (hg2 : Gl X "range" := by rfl) (na : starEach [e] X.env = (false, eval e X.env) :: starEach [] X.env := by exact starE (by rfl))
    (nb : starEach [.Call (.Name "range" p2) [e] [] pos2] X.env = (false, eval (.Call (.Name "range" p2) [e] [] pos2) X.env) :: starEach [] X.env := by exact starE (by rfl)) :
    PE X (.Call (.Name "list" p) [.Call (.Name "range" p2) [e] [] pos2] [] pos) (tI g W true (eLR f)) := (pe_listRg hc hg hm (prg_1 hg2 hm2 ha na) nb).imp fun σ H Q q => by
  obtain ⟨H0, Z, fps, σl, sr, o⟩ := q
  refine ⟨H0, Z, fps, σl, sr, o.bind.imp fun x o v H1 Z1 fp p => ?_⟩
  cases x with
  | int n =>
    have o1 : Out g W Z σ H (if small62 n = true ∧ n.toNat ≤ sizeLine then R.ok (D.lst true (rngL 0 n.toNat)) else .bad) _ := o
    obtain ⟨hn, o2⟩ := Out.guard o1
    have o3 : ∀ (v : V) (H' : Hp) (Z' : Addr → Prop) (fp : List Addr), PostE g true Z Z' H H' (D.lst true (rngL 0 n.toNat)) v fp → Q v H' := o2
    obtain ⟨b1, b2⟩ := small62_iff hn.1
    cases p.rep
    refine ⟨n, rfl, ⟨by omega, by omega, b1, b2, by rw [Int.sub_zero]; have := hn.2; rw [sizeLine_eq] at this; omega⟩, fun q hq => ?_⟩
    have rs : Reps g Z1 (upd H1 q (.lst (rgV 0 n))) (rngL 0 n.toNat) (rgV 0 n) [] := by
      generalize upd H1 q (.lst (rgV 0 n)) = Hq
      unfold rngL rgV
      rw [Int.sub_zero]
      generalize List.range n.toNat = l
      induction l with
      | nil => exact .nil
      | cons k l ih => exact .cons (f := []) (fs := []) (.int _) ih
    have nz : ¬ Z1 q := fun z => p.zx.inn q z hq
    refine o3 (.ref q) _ Z1 [q] ⟨same_trans p.same (same_upd hq), p.zx.trans p.same (.stay p.zx.inn (same_upd hq)), .lst upd_same rs own_new, fun _ => ⟨by simp, fun a ha => ?_⟩⟩
    rw [List.mem_singleton.mp ha]
    exact ⟨same_none p.same hq, nz⟩
  | _ => exact (show False from o).elim
end
end DI
/-! DI, further constructs: sorted of whole numbers, text[::-1] -/
namespace DI
open PySem PySem.Spec PyProof.Rows L2
def sorI (xs : List Int) : List Int := xs.mergeSort fun a b => decide (a ≤ b)
theorem sorI_uniq {xs ys : List Int} (h : ys.Perm xs) (p : ys.Pairwise (· ≤ ·)) : ys = sorI xs := by
  have q : (sorI xs).Pairwise fun a b => decide (a ≤ b) = true := List.pairwise_mergeSort (fun a b c h1 h2 => by simp at *; omega) (fun a b => by simp; omega) xs
  exact List.Perm.eq_of_pairwise (le := (· ≤ ·)) (fun a b _ _ h1 h2 => Int.le_antisymm h1 h2) p (q.imp fun h => of_decide_eq_true h) (h.trans (List.mergeSort_perm xs _).symm)
def sortD : List D → R D
  | [.lst _ ds] => match intsD ds with
    | some ns => .ok (.lst true ((sorI ns).map D.int))
    | none => .bad
  | _ => .bad
theorem intsD_eq : ∀ {ds : List D} {ns : List Int}, intsD ds = some ns → ds = ns.map D.int
  | [], ns, h => by cases h; rfl
  | .int i :: ds, ns, h => by
    have h : (intsD ds).map (i :: ·) = some ns := h
    cases e : intsD ds with
    | none => rw [e] at h; cases h
    | some ms => rw [e] at h; cases h; rw [intsD_eq e]; rfl
  | .bl _ :: _, _, h => nomatch h
  | .str _ :: _, _, h => nomatch h
  | .non :: _, _, h => nomatch h
  | .lst _ _ :: _, _, h => nomatch h
  | .tup _ :: _, _, h => nomatch h
  | .dct _ _ :: _, _, h => nomatch h
  | .obj _ _ :: _, _, h => nomatch h
theorem ints_reps {g : Gv} {Z : Addr → Prop} {H : Hp} : ∀ (ns : List Int), Reps g Z H (ns.map D.int) (ns.map V.int) []
  | [] => .nil
  | n :: ns => .cons (f := []) (fs := []) (.int _) (ints_reps ns)
def eSo (f : Sl → R D) : Sl → R D := fun σ => (f σ).bind fun r => (tupOf r).bind fun ds => sortD ds
def revS (z : Str) : Str := ⟨z.cps.toList.reverse.toArray⟩
def revD : D → R D
  | .str z => if z.length ≤ sizeLine then .ok (.str (revS z)) else .bad
  | _ => .bad
def eRv (f : Sl → R D) : Sl → R D := fun σ => (f σ).bind revD
section
variable {X : Cx} {g : Gv} {W : L2.WX} {e : Expr} {es : List Expr} {f : Sl → R D} {x : Bool} {pos p p2 pos2 : Pos}
theorem opc_sorted (G : Gof g X) : OpC g W true (rSortedI X.K) sortD := by
  intro Z σ H ds vs fp Q hz r o
  cases ds with
  | nil => exact o.elim
  | cons x r' =>
    cases r' with
    | cons y r' => cases x <;> exact o.elim
    | nil =>
      obtain ⟨v, rfl, rx⟩ := reps1 r
      cases x with
      | lst o' xs =>
        obtain ⟨a, ys, fs, rfl, hq, rs, _⟩ := rep_lst' rx
        cases e : intsD xs with
        | none =>
          have o : Out g W Z σ H (match intsD xs with | some ns => R.ok (D.lst true ((sorI ns).map D.int)) | none => .bad) _ := o
          rw [e] at o; exact o.elim
        | some ns =>
          have o : Out g W Z σ H (match intsD xs with | some ns => R.ok (D.lst true ((sorI ns).map D.int)) | none => .bad) _ := o
          rw [e] at o
          have o : ∀ v H' Z' fp, PostE g true Z Z' H H' (D.lst true ((sorI ns).map D.int)) v fp → Q v H' := o
          obtain rfl := reps_ints rs e
          refine ⟨a, ns, rfl, by rw [G.K]; exact hq, fun ns' q hp hw hq => ?_⟩
          obtain rfl := sorI_uniq hp hw
          exact o _ _ Z [q] (post_new hz hq (.lst upd_same (ints_reps _) own_new) (.inr rfl))
      | _ => exact o.elim
theorem z_sorted (G : Gof g X) (ha : PA X (e :: es) (tIA g W x f)) (hm : X.mg "sorted" = none) (hg : Gl X "sorted" := by rfl) (he : starEach (e :: es) X.env = (false, eval e X.env) :: starEach es X.env := by exact starE (by rfl)) (hpl : (backTo pos (starEach es X.env)).any (·.1) = false := by rfl) :
    PE X (.Call (.Name "sorted" p) (e :: es) [] pos) (tI g W true (eSo f)) := se_callB cr_sortedI (opc_sorted G) hg hm (by decide +kernel) ha (by decide) (by decide) he hpl
/-! text[::-1] -/
theorem rev_made (z : Str) (t u : Tok) : sliceMade z t none none (some ((-1 : Int), u)) = Made.str (revS z) := by
  unfold sliceMade slicePicked
  have h : ((((some ((-1 : Int), u)).map (·.1)).getD 1 == 1)) = false := rfl
  rw [if_neg (by rw [h]; simp)]
  show Made.str ⟨((Builtin.Str.strSliceIndices none none (-1) z.length).filterMap (z.cps[·]?)).toArray⟩ = _
  rw [picked_rev, filterMap_get _ _ (fun i hi => by
    obtain ⟨k, hk, rfl⟩ := List.mem_map.mp hi
    have hk' : k < z.length := List.mem_range.mp hk
    show z.length - 1 - k < z.length
    omega), List.map_map]
  unfold revS
  have e : List.map ((fun i => z.cps.getD i 0) ∘ fun k => z.length - 1 - k) (List.range z.length) = z.cps.toList.reverse := by
    apply List.ext_getElem
    · simp [Str.length]
    · intro i h1 h2
      have hi : i < z.cps.size := by simpa using h2
      have e2 : z.length - 1 - i < z.cps.size := by show z.cps.size - 1 - i < _; omega
      simp only [List.getElem_map, List.getElem_range, Function.comp, List.getElem_reverse, Array.getElem_toList, Array.length_toList]
      rw [Array.getD, dif_pos e2]
      rfl
  rw [e]
def tRevS (te : TE) : TE := fun σ H Q => te σ H fun x H1 => ∃ z, x = .str z ∧ z.length ≤ sizeLine ∧ Q (.str (revS z)) H1
theorem pe_revS {te : TE} {k : Nat} {p1 p2 p3 pos : Pos} (he : PE X e te) : PE X (.Subscript e (.Slice none none (some (.UnaryOp .USub (.Constant (.int 1) k p1) p2)) p3) pos) (tRevS te) := by
  refine ⟨fun pins s σ H Q I h => ?_⟩
  refine Subscript_ (thn (he.run pins s σ H _ I h) fun v s1 ⟨x, H1, I1, r1, q1⟩ => ?_)
  obtain ⟨z, ex, hz, q⟩ := q1
  subst ex
  obtain ⟨tk, rfl⟩ := r1
  have hst : PO X (some (.UnaryOp .USub (.Constant (.int 1) k p1) p2)) (tPart (tUn (rU fun i => .int (-i)) (tC (.int 1)))) := po_some (pe_un un_neg pe_int)
  refine wpAny_Slice (thn (po_none.run pins s1 σ H1 (fun o H2 => o = none ∧ H2 = H1) I1 ⟨rfl, rfl⟩) fun vl s2 ⟨l, H2, I2, pl, el, e2⟩ => ?_)
  subst el e2
  refine thn (po_none.run pins s2 σ H2 (fun o H3 => o = none ∧ H3 = H2) I2 ⟨rfl, rfl⟩) fun vu s3 ⟨u, H3, I3, pu, eu, e3⟩ => ?_
  subst eu e3
  refine thn (hst.run pins s3 σ H3 (fun o H4 => o = some (-1) ∧ H4 = H3) I3 ⟨1, rfl, -1, rfl, rfl, rfl⟩) fun vs s4 ⟨o, H4, I4, ps, eo, e4⟩ => ?_
  subst eo e4
  cases pl
  cases pu
  cases ps with
  | int _ u =>
    have I5 : L2.Inv X pins σ H4 { s4 with heap := s4.heap.push { cls := .type "slice", data := .fields #[.none, .none, .int (-1) u] } } := I4.kept (t' := s4.toks) fun b ob q => Heap.get?_push_of_some _ q
    show wpAny (model X.prog X.w) X.A (subscriptTail e (.Slice none none (some (.UnaryOp .USub (.Constant (.int 1) k p1) p2)) p3) (.str z tk) (.ref s4.heap.objs.size)) (EP X pins σ Q) X.xe { s4 with heap := s4.heap.push { cls := .type "slice", data := .fields #[.none, .none, .int (-1) u] } }
    refine tail_any (ops := [.ref s4.heap.objs.size, .str z tk]) (typeIs_str _ _ _) F.slot_str_getitem.lookup ?_ (by with_unfolding_all rfl)
    refine wpAny_getItem_str_slice (l := none) (u := none) (st := some (-1, u)) (let ⟨o, a, b, c⟩ := Heap.IsSliceOf.new s4.heap .none .none (.int (-1) u); ⟨o, a, b, c⟩) rfl ?_
    rw [rev_made]
    have hl : (revS z).length ≤ sizeLine := by
      show z.cps.toList.reverse.toArray.size ≤ _
      rw [List.size_toArray, List.length_reverse]
      exact hz
    exact ⟨hl, .str _, H4, I5.tok _, ⟨_, rfl⟩, q⟩
theorem z_rev {k : Nat} {p1 p2 p3 pos : Pos} (ha : PE X e (tI g W x f)) : PE X (.Subscript e (.Slice none none (some (.UnaryOp .USub (.Constant (.int 1) k p1) p2)) p3) pos) (tI g W true (eRv f)) := (pe_revS ha).imp fun σ H Q q => by
  obtain ⟨H0, Z, fps, σl, sr, o⟩ := q
  refine ⟨H0, Z, fps, σl, sr, o.bind.imp fun x o v H1 Z1 fp p => ?_⟩
  cases x with
  | str z =>
    obtain ⟨hz, o⟩ := Out.guard (show Out g W Z σ H (if z.length ≤ sizeLine then R.ok (D.str (revS z)) else .bad) _ from o)
    obtain ⟨rfl, _⟩ := rep_str p.rep
    exact ⟨z, rfl, hz, o _ H1 Z1 [] ((post_sc p.zx.inn (.str _)).pre p.same p.zx)⟩
  | _ => exact (show False from o).elim
end
end DI
/-! DI, further constructs: a display of two pairs of texts, d.get(k, x) -/
namespace DI
open PySem PySem.Spec PyProof.Rows L2
def eDk2 (a b c d : Str) : Sl → R D := fun _ => .ok (.dct true [(.text a, .str b), (.text c, .str d)])
section
variable {X : Cx} {g : Gv} {W : L2.WX} {e : Expr} {es : List Expr} {a : Expr} {f k : Sl → R D} {x y : Bool} {pos p1 p2 p3 p4 : Pos}
theorem z_dk2 {u b c d : Str} {i1 i2 i3 i4} (hm : mergeK [] [(.inr u, V.str b), (.inr c, V.str d)] = [(.inr u, V.str b), (.inr c, V.str d)]) : PE X (.Dict [some (.Constant (.str u) i1 p1), some (.Constant (.str c) i3 p3)] [.Constant (.str b) i2 p2, .Constant (.str d) i4 p4] pos) (tI g W true (eDk2 u b c d)) :=
  (pe_disp (pps_cons pe_str pe_str (pps_cons pe_str pe_str pps_nil)) rfl rfl (by simp) (by simp)).imp fun σ H Q q => by
    obtain ⟨H0, Z, fps, σl, sr, o⟩ := q
    intro l nl
    refine ⟨upd_same, [(.inr u, V.str b), (.inr c, V.str d)], rfl, by simp, ?_⟩
    rw [hm, upd_upd]
    exact o _ _ Z [l] (post_new sr.z nl (.dK (kv := [(.inr u, V.str b), (.inr c, V.str d)]) upd_same rfl (.cons (f := []) (fs := []) (.str _) (.cons (f := []) (fs := []) (.str _) .nil)) own_new) (.inr rfl))
theorem z_get2 (hu : X.A.units + 70 < cLine) (G : Gof g X) (he : PE X a (tI g W x f)) (ha : PA X (e :: es) (tIA g W y k)) {ap : Pos}
    (hbase : attributeBase a "get" X.env (eval a X.env) = eval a X.env := by rfl)
    (hfew : ((backTo pos (starEach (e :: es) X.env)).all (fun x => !x.1) && (backToKw pos (keywordEach [] X.env)).all (fun x => x.1.isSome)
      && decide ((e :: es).length + ([] : List Keyword).length + (if ([] : List Keyword).isEmpty then 0 else 1) < 30)) = true := by rfl)
    (hline : (ap.endLine == pos.line) = true := by rfl) (hs : starEach (e :: es) X.env = (false, eval e X.env) :: starEach es X.env := by exact starE (by rfl)) (hplain : (backTo pos (starEach es X.env)).any (·.1) = false := by rfl) :
    PE X (.Call (.Attribute a "get" ap) (e :: es) [] pos) (tI g W true (eMt .get2 f k)) := se_mt PySem.F.plainAttrs_dict PySem.F.slot_dict_get PySem.F.type_dict_get (mtr_get2 G hu) (fun Z H d v f h r => by
      cases d <;> first | exact tyAt_dct r | cases h) he ha hbase hfew hline hs hplain
end
end DI
/-! DI, further constructs: a, b, c = a list -/
namespace DI
open PySem PySem.Spec PyProof.Rows L2
def sUnpL (is : List Nat) (f : Sl → R D) : SF := fun σ => rS (f σ) σ fun d => match d with
  | .lst _ xs => if cleanL xs = true then rS (putAll σ is xs) σ .nx else .bad
  | _ => .bad
def tGL (g : Gv) (is : List Nat) : TG := fun v σ H Q => ∃ H0 Z fps σl a vs xs σl', v = .ref a ∧ SqL g.K H a vs ∧ SR g H0 Z fps σl σ H ∧ Reps g Z H xs vs [] ∧ putAll σl is xs = .ok σl' ∧ ∀ σ' fps', SR g H0 Z fps' σl' σ' H → Wa (psl (.many is)) σ σ' → Q σ' H
section
variable {X : Cx} {g : Gv} {W : L2.WX} {e tg : Expr} {es : List Expr} {fe : Sl → R D} {b : Bool} {pos : Pos} {is : List Nat}
theorem g_manyL {kk : Nat} (G : Gof g X) (h : PGs X es (tGs g is)) (hc : X.calm = true := by rfl) (hn : (assignEach es X.env).length = is.length := by rfl) (hst : (assignEach es X.env).findIdx? (·.1) = none := by rfl) : PG X (.Tuple es kk pos) (tGL g is) := (pg_unl hc h hn hst).imp fun v σ H Q q => by
  obtain ⟨H0, Z, fps, σl, a, vs, xs, σl', rfl, hq, sr, rs, e, q⟩ := q
  rw [G.K]
  exact ⟨a, vs, rfl, hq, by rw [← rs.length, putAll_len e], H0, Z, fps, σl, xs, σl', sr, rs, e, q⟩
theorem t_unpL (he : PE X e (tI g W b fe)) (hg : PG X tg (tGL g is)) (hs : swapsWithSole [tg] e pos.line X.env = pure false := by rfl) (hw : swappedStores [tg] e X.env = pure none := by rfl) (h1 : (assignEach [tg] X.env).map (·.2) = [assign tg X.env] := by rfl) :
    PS X (.Assign [tg] e pos) (tS g W (sUnpL is fe)) := (ps_asg he hg hs hw h1).imp fun E σ H q => by
  obtain ⟨H0, Z0, Z, fps, σl, ss, o⟩ := q
  refine ⟨H0, Z, fps, σl, ss.sr, (OutS.rS ss o).imp fun d o v H' Z' fp pp => ?_⟩
  have ss1 := ss.step pp.same pp.zx
  cases d with
  | lst ow xs =>
    obtain ⟨hc, o⟩ := OutS.guard (show OutS g W H0 Z0 Z H E (if cleanL xs = true then rS (putAll σl is xs) σl .nx else .bad) from o)
    obtain ⟨σl', e, o⟩ := (OutS.rS ss o).okOf fun c fs => bindP_err (p := .many is) (d := .tup xs)
    obtain ⟨a, vs, fs, rfl, hq, rs, _⟩ := rep_lst' pp.rep
    refine ⟨H0, Z', fps, σl, a, vs, xs, σl', rfl, hq, ss1.sr, rs.to0 hc, e, fun σ' fps' sr _ => ?_⟩
    exact o σ' H' Z' fps' ⟨sr, ss1.z0, ss1.zn⟩ (.of_zx pp.same pp.zx)
  | _ => exact (show False from o).elim
end
end DI
/-! DI: a dict display with a nested key -/
namespace DI
open PySem PySem.Spec PyProof.Rows L2
section
variable {prog : Program} {w : World} {K : Type} [DecidableEq K] {knd : HeapKind prog w K} {A : Around} {E : Value → Shared → Prop} {s : Shared}
theorem disp_at {ev : Env} {ks : List (Option Expr)} {ws : List Expr} {p : Pos} {prs : List (Sem Value × Sem Value)} {R : Value → Shared → Prop} (hu : knd.room A) (sh : (evalEachOpt ks ev).zip ((evalEach ws ev).map fun v => do let x ← v; standAt p; pure x) = prs.map fun q => (some q.1, q.2)) (ne : prs ≠ []) (few : prs.length ≤ 15)
    (k : wpAny (model prog w) A (evalPairs prs) (fun vs t => ∃ ps, CarriesH knd t.heap vs ps ∧ t.heap.DictOfH knd s.heap.objs.size [] ∧ ∀ h' tk, h'.DictOfH knd s.heap.objs.size (storedAllH [] ps) → Heap.SameBut s.heap.objs.size t.heap h' → R (.ref s.heap.objs.size) { t with heap := h', toks := tk }) E { s with heap := s.heap.push { cls := .type "dict", data := .dict #[] } }) : wpAny (model prog w) A (eval (.Dict ks ws p) ev) R E s := by
  have few' : prs.length ≤ 15 := few
  rw [arm_eval_Dict]; rw [sh]; rw [dictDisplay_pairs prs ne (by omega)]
  refine wpAny_bind (wpAny_standAt (wpAny_bind ?_))
  refine wpAny_subDictH (knd := knd) (Q := fun d t => wpAny (model prog w) A (pure (Value.ref d)) R E t) hu few (wpAny_mono k (fun vs t q => ?_) fun _ _ e => e)
  obtain ⟨ps, hc, hm, hq⟩ := q
  exact ⟨ps, hc, hm, fun h' tk a b => wpAny_pure (hq h' tk a b)⟩
end
section
variable {X : Cx} {g : Gv} {W : L2.WX} {e k : Expr} {fe fk : Sl → R D} {pos : Pos} {b b' : Bool}
theorem vv1 {v u : V} {ws : List (Value × Value)} (r : VV [(v, u)] ws) : ∃ a b, ws = [(a, b)] ∧ RelV v a ∧ RelV u b := by
  cases r with
  | @cons p q ps qs h t =>
    cases t
    obtain ⟨a, b⟩ := q
    exact ⟨a, b, rfl, h.1, h.2⟩
/-- {k: v}, k a tuple -/
def dispN (k v : D) : R D :=
  match key k with
  | some q => if (isTupKey q = true ∧ q.depth ≤ 8) ∧ clean v = true then .ok (.dct true [(q, v)]) else .bad
  | none => .bad
theorem se_dispN (G : Gof g X) (hu : X.A.units + 70 < cLine) (hk : PE X k (tI g W b fk)) (he : PE X e (tI g W b' fe)) : PE X (.Dict [some k] [e] pos) (tI g W true fun σ => (fk σ).bind fun x => (fe σ).bind fun y => dispN x y) := by
  refine ⟨fun pins s σ H Q I q => ?_⟩
  obtain ⟨H0, Z, fps, σl, sr, o⟩ := q
  have nl : H s.heap.objs.size = none := I.hok.fresh (Nat.le_refl _)
  have I1 := I.laid (a := s.heap.objs.size) (o := .dK []) (h' := s.heap.push { cls := .type "dict", data := .dict #[] }) (t' := s.toks) (fun _ _ q => Heap.get?_push_of_some _ q) (Nat.le_refl _) (dk_empty s.heap I.big)
  refine disp_at (knd := nestedKind X.prog X.w) (prs := pairTrees [some k] [e] X.env pos) (show X.A.units + 8 < cLine by omega) (zip_pairTrees _ _ _ _ rfl rfl) (by intro h; cases h) (show 1 ≤ 15 by decide) ?_
  generalize s.heap.objs.size = l at *
  have s0 := same_upd (o := .dK []) nl
  have z0 : Zx Z Z H (upd H l (.dK [])) := .stay sr.z s0
  refine thn ((pps_cons hk he pps_nil).run pins _ σ _ (fun ps H2 => ∃ vx vy x y q Z2 fx, ps = [(vx, vy)] ∧ H2 l = some (.dK []) ∧ key x = some q ∧ isTupKey q = true ∧ q.depth ≤ 8 ∧ Rep g Z2 H2 x vx fx ∧ Rep g Z2 H2 y vy [] ∧ ¬ Z2 l ∧
    ∀ u, Rep g Z2 (upd H2 l u) (.dct true [(q, y)]) (.ref l) [l] → Q (.ref l) (upd H2 l u)) I1 ?_) fun ws s2 ⟨ps, H2, I2, rel, vx, vy, x, y, q, Z2, fx, ep, hl2, hq, ht, hd8, rx, ry, nz, qq⟩ => ?_
  · refine ⟨H0, Z, fps, σl, sr.step s0 z0, o.bind.step s0 z0 fun x o vx H1 Z1 fx p1 => ?_⟩
    have sr1 := (sr.step s0 z0).step p1.same p1.zx
    refine ⟨H0, Z1, fps, σl, sr1, o.bind.step (same_trans s0 p1.same) (z0.trans s0 p1.zx) fun y o vy H2 Z2 fy p2 => ?_⟩
    have s2 := same_trans (same_trans s0 p1.same) p2.same
    have z2 := (z0.trans s0 p1.zx).trans (same_trans s0 p1.same) p2.zx
    have hl2 : H2 l = some (.dK []) := p2.same _ _ (p1.same _ _ upd_same)
    have o : Out g W Z σ H (dispN x y) _ := o
    unfold dispN at o
    cases hq : key x with
    | none => rw [hq] at o; exact o.elim
    | some q =>
      rw [hq] at o
      obtain ⟨⟨⟨ht, hd⟩, hc⟩, o⟩ := Out.guard o
      have nz : ¬ Z2 l := fun z => by
        rcases z2.new l z with q | q
        · exact sr.z l q nl
        · exact p2.zx.inn l z (by
            rcases p2.zx.new l z with w | w
            · rcases p1.zx.new l w with w' | w'
              · exact absurd nl (sr.z l w')
              · rw [upd_same] at w'; cases w'
            · rw [p1.same _ _ upd_same] at w; cases w)
      refine ⟨vx, vy, x, y, q, Z2, _, rfl, hl2, hq, ht, hd, p1.rep.same p2.zx.le p2.same, p2.rep.to0 hc, nz, fun u r => ?_⟩
      exact o _ _ Z2 [l] ⟨same_updO s2 nl, ⟨z2.le, z2.new, fun a z => upd_some (z2.inn a z)⟩, r, fun _ => ⟨by simp, fun a ha => by rw [List.mem_singleton.mp ha]; exact ⟨nl, nz⟩⟩⟩
  · subst ep
    obtain ⟨bq, rfl⟩ := tup_rep rx hq ht
    obtain ⟨wk, wv, rfl, h1, h2⟩ := vv1 rel
    cases (show wk = Value.ref bq from h1)
    have ow : Owd g.P g.w l (H2 l) := .inr (.inl ⟨[], hl2⟩)
    have krx : KRep g.K H2 q (.ref bq) := rx.krep hq
    have hkey : (nestedKind X.prog X.w).is s2.heap q bq := ⟨KRep.is (v := .ref bq) (u := .ref bq) I2 (by rw [G.K]; exact krx) rfl, hd8⟩
    have rd : Rep g Z2 H2 (.dct true []) (.ref l) [l] := .dK (kv := []) hl2 rfl .nil own_new
    obtain ⟨a', xs, ys, ea, nv, mu⟩ := nv_of G I2 rd (fun p hp => nomatch hp)
    cases ea
    have exs : xs = [] := by
      have := nv.keys
      simpa using this
    subst exs
    have eys : ys = [] := by
      have := nv.pair
      cases this; rfl
    subst eys
    refine ⟨[(q, bq, wv)], ⟨rfl, rfl, hkey, True.intro⟩, by rw [G.P, G.w]; exact nv.dict, fun h' tk dd' hs => ?_⟩
    obtain ⟨ob, es, ep, h1, h2', h3, h4, h5, h6⟩ := dd'
    have kp := kp_upd (Z := Z2) (fp := []) (u := rawN g.P g.w l [(q, bq, vy)]) ow nz (fun h => nomatch h)
    refine ⟨.ref l, _, d_write (ob := rawN g.P g.w l [(q, bq, vy)]) I2 mu hs ⟨ob, h1⟩ ?_, rfl, qq _ ?_⟩
    · refine ⟨⟨by rw [sizeLine_eq]; simp, nv.nosys, by simp, [(q, bq, wv)], .cons ⟨rfl, rfl, h2⟩ .nil, ob, es, ep, h1, h2', h3, by rw [← G.P, ← G.w]; exact h4⟩, ⟨ob, h1⟩, fun g1 g2 φ kk => ?_⟩
      obtain ⟨l1, l2, l3, y, l4, o1, es1, ep1, e1, e2, e3, e4⟩ := φ
      exact ⟨l1, l2, l3, y, l4, o1, es1, ep1, kk _ e1, e2, e3, e4⟩
    · exact .dN upd_same rfl (by simp) (fun p hp => by rw [List.mem_singleton.mp hp]; exact ⟨krx.keep kp.tup, hd8⟩) (.cons (f := []) (fs := []) (ry.keep (fun _ z => z) kp) .nil) own_new
def eDN1 (fk fe : Sl → R D) : Sl → R D := fun σ => (fk σ).bind fun x => (fe σ).bind fun y => dispN x y
theorem z_dN1 (hu : X.A.units + 70 < cLine) (G : Gof g X) (hk : PE X k (tI g W b fk)) (he : PE X e (tI g W b' fe)) : PE X (.Dict [some k] [e] pos) (tI g W true (eDN1 fk fe)) := se_dispN G hu hk he
/-- what is never reached -/
def eBad : Sl → R D := fun _ => .bad
theorem z_bad {bo : Bool} : PE X e (tI g W bo eBad) := ⟨fun pins s σ H Q I q => by obtain ⟨_, _, _, _, _, o⟩ := q; exact o.elim⟩
theorem y_bad : PT X e (tIT g W eBad) := ⟨fun pins s σ H Q I q => by obtain ⟨_, _, _, _, _, o⟩ := q; exact o.elim⟩
theorem ss_bad {sts : List Stmt} : PSs X sts (tS g W sBad) := ⟨fun pins s σ H Q I q => by obtain ⟨_, _, _, _, _, _, o⟩ := q; exact o.elim⟩
/-- isinstance(e, C), isinstance(e, ValueError) of a caught refusal without fields -/
theorem z_xi {a : Addr} {oe : Obj} {pn : List (Addr × Obj)} {c : Nat} {C : Addr} {ns : List Str} {x : Expr} {fx : Sl → R D} {bo : Bool} {p p3 : Pos} {n : Str} (k : Nat → Bool) (h : XcI X.K X.mg g.cls n k) (hcl : g.cls c = some (C, ns)) (hc : c < 20) (T : ExcC X.K C) (hz : Zc (.ref C) none oe) (hd : ∃ vs, oe.data = .fields vs) (hins : ∀ c, c < 20 → g.ins c = none)
    (he : PE (X.suite a ((a, oe) :: pn)) x (tI (g.at a c none) W bo fx)) (hm : X.mg "isinstance" = none) (hg : Gl X "isinstance" := by rfl) (hg2 : Gl X n := by rfl) (hdb : (n == ("__debug__" : Str)) = false := by decide)
    (hst : starEach [x, .Name n p3] X.env = (false, eval x X.env) :: starEach [.Name n p3] X.env := by exact starE (by rfl)) (hpl : (backTo pos (starEach [.Name n p3] X.env)).any (·.1) = false := by rfl) :
    PE (X.suite a ((a, oe) :: pn)) (.Call (.Name "isinstance" p) [x, .Name n p3] [] pos) (tI (g.at a c none) W true (eXi k fx)) := by
  obtain ⟨C', hmg, hk⟩ := h
  exact se_xi (cv := .ref C') (cw := .ref C') k hc T hz hd hins he hm (pe_glob (X := X.suite a ((a, oe) :: pn)) (v := .ref C') hg2 hmg rfl hdb) (fun u r => r) (hk c C ns hcl) hg hst hpl
theorem z_xv {a : Addr} {oe : Obj} {pn : List (Addr × Obj)} {c : Nat} {C : Addr} {ns : List Str} {x : Expr} {fx : Sl → R D} {bo : Bool} {p p3 : Pos} {ty : String} {n : Str} (h : XcV X.K g.cls ty) (hcl : g.cls c = some (C, ns)) (hc : c < 20) (T : ExcC X.K C) (hz : Zc (.ref C) none oe) (hd : ∃ vs, oe.data = .fields vs) (hins : ∀ c, c < 20 → g.ins c = none)
    (he : PE (X.suite a ((a, oe) :: pn)) x (tI (g.at a c none) W bo fx)) (hm : X.mg "isinstance" = none) (hm2 : X.mg n = none) (hb : bootBuiltins n = some (.type ty) := by decide +kernel) (hn : n ≠ "__name__" := by decide) (hg : Gl X "isinstance" := by rfl) (hg2 : Gl X n := by rfl) (hdb : (n == ("__debug__" : Str)) = false := by decide)
    (hst : starEach [x, .Name n p3] X.env = (false, eval x X.env) :: starEach [.Name n p3] X.env := by exact starE (by rfl)) (hpl : (backTo pos (starEach [.Name n p3] X.env)).any (·.1) = false := by rfl) :
    PE (X.suite a ((a, oe) :: pn)) (.Call (.Name "isinstance" p) [x, .Name n p3] [] pos) (tI (g.at a c none) W true (eXi (fun _ => true) fx)) :=
  se_xi (cv := .ty ty) (cw := .type ty) (fun _ => true) hc T hz hd hins he hm (pe_bltn (X := X.suite a ((a, oe) :: pn)) hg2 hm2 hb (v := .ty ty) rfl hn hdb) (fun u r => r) (h c C ns hcl) hg hst hpl
end
end DI
/-! DI: what a suite asks of an exception with fields; defs called there; list of a text; list(range(a, b)) -/
namespace DI
open PySem PySem.Spec PyProof.Rows L2
section
variable {X : Cx} {g : Gv} {W : L2.WX} {e : Expr} {es : List Expr} {f : Sl → R D} {x : Bool} {pos p p2 pos2 : Pos} {n : Str}
/-! ### list(..) of a text -/
theorem call_list_txt (hc : X.calm = true) : CallR X (.type "list") (fun xs H Q => ∃ z, xs = [V.str z] ∧ z.length ≤ sizeLine ∧ ∀ q, H q = none → Q (.ref q) (upd H q (.lst (chV z)))) := by
  intro pins s σ H xs us Q I r h
  obtain ⟨z, rfl, hl, q⟩ := h
  obtain ⟨u, rfl, rx⟩ := vals1 r
  obtain ⟨t, rfl⟩ := rx
  have hz : z.cps.size ≤ sizeLine := hl
  refine call_list_str (hn := hz) (I.ok.hd hc) z t fun h' tk acc' c' hkeep hS hacc => ?_
  have el : acc'.toList.length = acc'.size := by simp
  have ec : (chV z).length = z.cps.size := by unfold chV; simp
  refine ⟨.ref s.heap.objs.size, upd H s.heap.objs.size (.lst (chV z)), I.laid hkeep (Nat.le_refl _) (show ObjOk X.prog X.w _ _ _ (.lst (chV z)) from ⟨by rw [ec]; exact hz, acc'.toList, c', ?_, ?_⟩), rfl, q _ (I.hok.fresh (Nat.le_refl _))⟩
  · refine vals_of_at (by rw [ec, el, hacc.1]) fun j y w h1 h2 => ?_
    unfold chV at h1
    obtain ⟨c, tk2, hc1, rfl⟩ := hacc.2 j w (by rw [← Array.getElem?_toList]; exact h2)
    rw [List.getElem?_map, Array.getElem?_toList, hc1] at h1
    cases h1
    exact ⟨tk2, rfl⟩
  · rw [Array.toArray_toList]; exact hS
/-- list(x), x a text too -/
def liD : List D → R D
  | [.lst _ xs] => if cleanL xs = true then .ok (.lst true xs) else .bad
  | [.tup xs] => if cleanL xs = true then .ok (.lst true xs) else .bad
  | [.str z] => if z.length ≤ sizeLine then .ok (.lst true (z.cps.toList.map oneOf)) else .bad
  | _ => .bad
theorem opc_li (G : Gof g X) : OpC g W true (fun xs H Q => (∃ p ys, xs = [.ref p] ∧ (SqL X.K H p ys ∨ SqT X.K H p ys) ∧ ∀ l, H l = none → Q (.ref l) (upd H l (.lst ys))) ∨ ∃ z, xs = [V.str z] ∧ z.length ≤ sizeLine ∧ ∀ q, H q = none → Q (.ref q) (upd H q (.lst (chV z)))) liD := by
  intro Z σ H ds vs fp Q hz r o
  by_cases hs : ∃ z, ds = [.str z]
  · obtain ⟨z, rfl⟩ := hs
    obtain ⟨v, rfl, rx⟩ := reps1 r
    obtain ⟨hl, o⟩ := Out.guard (show Out g W Z σ H (if z.length ≤ sizeLine then R.ok (D.lst true (z.cps.toList.map oneOf)) else .bad) _ from o)
    obtain ⟨rfl, _⟩ := rep_str rx
    exact .inr ⟨z, rfl, hl, fun p hp => o _ _ Z [p] (post_new hz hp (.lst upd_same (reps_chars _) own_new) (.inr rfl))⟩
  · refine .inl (opc_list (W := W) G Z σ H ds vs fp Q hz r ?_)
    cases ds with
    | nil => exact o.elim
    | cons x r' =>
      cases r' with
      | nil =>
        cases x with
        | str z => exact absurd ⟨z, rfl⟩ hs
        | _ => exact o
      | cons y r' => cases x <;> exact o.elim
noncomputable def eLi (f : Sl → R D) : Sl → R D := fun σ => (f σ).bind fun r => (tupOf r).bind fun ds => liD ds
theorem z_li (hc : X.calm = true) (G : Gof g X) (ha : PA X (e :: es) (tIA g W x f)) (hm : X.mg "list" = none) (hg : Gl X "list" := by rfl) (he : starEach (e :: es) X.env = (false, eval e X.env) :: starEach es X.env := by exact starE (by rfl)) (hpl : (backTo pos (starEach es X.env)).any (·.1) = false := by rfl) :
    PE X (.Call (.Name "list" p) (e :: es) [] pos) (tI g W true (eLi f)) := se_callTy (call_list_of.or (call_list_txt hc)) (opc_li G) hg hm (by decide +kernel) ha (by decide) (by decide) he hpl
/-! ### list(range(a, b)) -/
noncomputable def eLR2 (f k : Sl → R D) : Sl → R D := fun σ => (f σ).bind fun x => (k σ).bind fun y => (intOf x).bind fun i => (intOf y).bind fun j => if (small62 i = true ∧ small62 j = true) ∧ (j - i).toNat ≤ sizeLine then .ok (.lst true (rngL i (j - i).toNat)) else .bad
theorem rngV_reps {Z : Addr → Prop} {H : Hp} (i j : Int) : Reps g Z H (rngL i (j - i).toNat) (rgV i j) [] := by
  unfold rngL rgV
  generalize List.range (j - i).toNat = l
  induction l with
  | nil => exact .nil
  | cons k l ih => exact .cons (f := []) (fs := []) (.int _) ih
theorem z_lrg2 {a b : Expr} {fa fb : Sl → R D} {y : Bool} (ha : PE X a (tI g W x fa)) (hb : PE X b (tI g W y fb)) (hm : X.mg "list" = none) (hm2 : X.mg "range" = none) (hc : X.calm = true := by rfl) (hg : Gl X "list" := by rfl) (hg2 : Gl X "range" := by rfl)
    (na : starEach [a, b] X.env = (false, eval a X.env) :: starEach [b] X.env := by exact starE (by rfl)) (na2 : starEach [b] X.env = (false, eval b X.env) :: starEach [] X.env := by exact starE (by rfl))
    (hpb : (backTo pos2 (starEach [b] X.env)).any (·.1) = false := by rfl) (nb : starEach [.Call (.Name "range" p2) [a, b] [] pos2] X.env = (false, eval (.Call (.Name "range" p2) [a, b] [] pos2) X.env) :: starEach [] X.env := by exact starE (by rfl)) :
    PE X (.Call (.Name "list" p) [.Call (.Name "range" p2) [a, b] [] pos2] [] pos) (tI g W true (eLR2 fa fb)) := (pe_listRg hc hg hm (prg_2 hg2 hm2 ha hb na na2 hpb) nb).imp fun σ H Q q => by
  obtain ⟨H0, Z, fps, σl, sr, o⟩ := q
  refine ⟨H0, Z, fps, σl, sr, o.bind.imp fun x o v H1 Z1 fp p => ?_⟩
  refine ⟨H0, Z1, fps, σl, sr.step p.same p.zx, o.bind.step p.same p.zx fun y o v2 H2 Z2 fp2 p2 => ?_⟩
  have s2 := same_trans p.same p2.same
  have z2 := p.zx.trans p.same p2.zx
  cases x with
  | int i =>
    cases y with
    | int j =>
      have o1 : Out g W Z σ H (if (small62 i = true ∧ small62 j = true) ∧ (j - i).toNat ≤ sizeLine then R.ok (D.lst true (rngL i (j - i).toNat)) else .bad) _ := o
      obtain ⟨hn, o2⟩ := Out.guard o1
      have o3 : ∀ (v : V) (H' : Hp) (Z' : Addr → Prop) (fp : List Addr), PostE g true Z Z' H H' (D.lst true (rngL i (j - i).toNat)) v fp → Q v H' := o2
      obtain ⟨b1, b2⟩ := small62_iff hn.1.1
      obtain ⟨b3, b4⟩ := small62_iff hn.1.2
      obtain ⟨rfl, _⟩ := rep_int p.rep
      obtain ⟨rfl, _⟩ := rep_int p2.rep
      refine ⟨i, j, rfl, rfl, ⟨b1, b2, b3, b4, by have := hn.2; rw [sizeLine_eq] at this; omega⟩, fun q hq => ?_⟩
      have nz : ¬ Z2 q := fun z => p2.zx.inn q z hq
      refine o3 (.ref q) _ Z2 [q] ⟨same_trans s2 (same_upd hq), z2.trans s2 (.stay p2.zx.inn (same_upd hq)), .lst upd_same (rngV_reps i j) own_new, fun _ => ⟨by simp, fun a ha => ?_⟩⟩
      rw [List.mem_singleton.mp ha]
      exact ⟨same_none s2 hq, nz⟩
    | _ => exact (show False from o).elim
  | _ => cases y <;> exact (show False from o).elim
end
/-! ### isinstance(e, C), isinstance(e, (C, D, ..)) of a caught refusal, with fields or without -/
def rIsX (K : PySem.W.Frag) (C a : Addr) (d : Option Addr) : List V → Hp → VK → Prop := fun xs H Q => ∃ (c : V) (b : Bool), xs = [.ref a, c] ∧ (∀ dd, d = some dd → ∃ fs, H dd = some (.xd fs)) ∧
  ((∃ cv : Value, (∀ u, RelV c u → u = cv) ∧ PySem.W.kitOne K (.ref C) cv = some b) ∨ ∃ (T : Addr) (cs : List Addr), c = .ref T ∧ H T = some (.tup (cs.map V.ref)) ∧ PySem.W.kitAny K (.ref C) (cs.map Value.ref) = some b) ∧ Q (.bl b) H
theorem vals_refs_eq : ∀ (cs : List Addr) {us : List Value}, Vals (cs.map V.ref) us → us = cs.map Value.ref
  | [], us, h => by cases h; rfl
  | c :: cs, us, h => by
    cases h with
    | cons r t => rw [vals_refs_eq cs t]; cases r; rfl
theorem call_isX {X : Cx} {a C : Addr} {d : Option Addr} {oe : Obj} {pn : List (Addr × Obj)} (T : ExcC X.K C) (hz : Zc (.ref C) d oe) (hf : ∃ vs, oe.data = .fields vs) : CallR (X.suite a ((a, oe) :: pn)) (.builtin "isinstance") (rIsX X.K C a d) := by
  intro pins s σ H xs us Q I r h
  obtain ⟨c, b, rfl, hd, hc, q⟩ := h
  obtain ⟨u0, u1, rfl, rx, rt⟩ := vals2 r
  cases rx
  obtain ⟨hget, _⟩ := I.pin (a, oe) (List.mem_append.mpr (.inl List.mem_cons_self))
  obtain ⟨vs, hv⟩ := hf
  have nc : PySem.W.notCls oe = true := by unfold PySem.W.notCls; rw [hv]
  have J : ∃ od, PySem.W.InstAt s.heap a oe C od := by
    obtain ⟨h1, h2⟩ := hz
    cases d with
    | none => exact ⟨none, hget, h1, nc, by rw [h2]; exact True.intro⟩
    | some dd =>
      obtain ⟨fs, hx⟩ := hd dd rfl
      have hx : ObjOk X.prog X.w H s.heap dd (.xd fs) := I.hok dd _ hx
      obtain ⟨mA, hns, hr⟩ := hx
      obtain ⟨od, ho, hl⟩ := lookIn_ns hns
      exact ⟨some od, hget, h1, nc, by rw [h2]; exact ho⟩
  obtain ⟨od, J⟩ := J
  have hcl : (PySem.W.clsIn X.K C).isSome = true := by
    have := T.hd
    unfold PySem.W.hasDictIn at this
    obtain ⟨cd, hc, _⟩ := PySem.W.any_some this
    rw [hc]; rfl
  have Z := PySem.W.kitx_exc (x := a) (ox := oe) (od := od) hcl T.hg T.hk T.hs T.ha T.hn T.ht T.hm
  rcases hc with ⟨cv, hcv, e⟩ | ⟨T', cs, rfl, hT, e⟩
  · have ec := hcv _ rt
    subst ec
    exact PySem.W.kia_one Z I.kIn J e (fun z => nomatch z) fun tk => ⟨.bl b, H, I.kept (t' := tk) fun _ _ z => z, rfl, q⟩
  · cases rt
    obtain ⟨_, its, vi, ho⟩ := (show ObjOk X.prog X.w H s.heap T' (.tup (cs.map V.ref)) from I.hok T' _ hT)
    obtain ⟨⟨oc, odd, oda, osl⟩, ho, hc1, n, hc2⟩ := ho
    dsimp only at hc1 hc2
    subst hc1 hc2
    have ei := vals_refs_eq cs vi
    subst ei
    exact PySem.W.kia_tup Z I.kIn J ho e (fun z => nomatch z) fun tk => ⟨.bl b, H, I.kept (t' := tk) fun _ _ z => z, rfl, q⟩
section
variable {X : Cx} {g : Gv} {W : L2.WX} {x : Expr} {fx : Sl → R D} {bo : Bool} {pos p p3 : Pos} {a : Addr} {oe : Obj} {pn : List (Addr × Obj)} {c : Nat} {d : Option Addr} {C : Addr} {ns : List Str}
theorem isx_dict {Z Z' : Addr → Prop} {H H' : Hp} {fs : List D} {v : V} {fp : List Addr} {c' : Nat} (hins : g.ins c' = none) (r : Rep (g.at a c d) Z H (.obj c' fs) v fp) : v = .ref a ∧ c' = c ∧ fp = [] ∧ ∀ dd, d = some dd → ∃ fs, H dd = some (.xd fs) := by
  obtain ⟨e1, e2, e3, ⟨rfl, rfl⟩ | ⟨dd, C2, ns2, vs, rfl, e4, h2, hs⟩⟩ := out_obj r hins
  · exact ⟨e1, e2, e3, fun dd h => nomatch h⟩
  · exact ⟨e1, e2, e3, fun dd h => by cases h; exact ⟨_, h2⟩⟩
theorem se_xX {ce : Expr} {tc : TE} (k : Nat → Bool) (hc : c < 20) (T : ExcC X.K C) (hz : Zc (.ref C) d oe) (hd : ∃ vs, oe.data = .fields vs) (hins : ∀ c, c < 20 → g.ins c = none)
    (he : PE (X.suite a ((a, oe) :: pn)) x (tI (g.at a c d) W bo fx)) (hm : X.mg "isinstance" = none) (hN : PE (X.suite a ((a, oe) :: pn)) ce tc)
    (hcv : ∀ σ H Q, (∀ v H', Same H H' → (∀ H'', Same H' H'' → ((∃ cv : Value, (∀ u, RelV v u → u = cv) ∧ PySem.W.kitOne X.K (.ref C) cv = some (k c)) ∨ ∃ (T : Addr) (cs : List Addr), v = .ref T ∧ H'' T = some (.tup (cs.map V.ref)) ∧ PySem.W.kitAny X.K (.ref C) (cs.map Value.ref) = some (k c))) → Q v H') → tc σ H Q) (hg : Gl X "isinstance" := by rfl)
    (hst : starEach [x, ce] X.env = (false, eval x X.env) :: starEach [ce] X.env := by exact starE (by rfl)) (hst2 : starEach [ce] X.env = (false, eval ce X.env) :: starEach [] X.env := by exact starE (by rfl)) (hpl : (backTo pos (starEach [ce] X.env)).any (·.1) = false := by rfl) :
    PE (X.suite a ((a, oe) :: pn)) (.Call (.Name "isinstance" p) [x, ce] [] pos) (tI (g.at a c d) W true (eXi k fx)) :=
  (pe_callB (call_isX T hz hd) (X := X.suite a ((a, oe) :: pn)) hg hm (by decide +kernel) (pa_cons he (pa_cons hN pa_nil hst2) hst) (by decide) (by decide) hst hpl).imp fun σ H Q q => by
  obtain ⟨H0, Z, fps, σl, sr, o⟩ := q
  refine ⟨H0, Z, fps, σl, sr, o.bind.imp fun y o v H1 Z1 fp q1 => ?_⟩
  cases y with
  | obj c' fs =>
    have o1 : Out (g.at a c d) W Z σ H (if c' < 20 then R.ok (D.bl (k c')) else .bad) _ := o
    obtain ⟨hn, o2⟩ := Out.guard o1
    have o3 : ∀ (v : V) (H' : Hp) (Z' : Addr → Prop) (fp : List Addr), PostE (g.at a c d) true Z Z' H H' (D.bl (k c')) v fp → Q v H' := o2
    obtain ⟨rfl, rfl, rfl, hx⟩ := isx_dict (Z' := Z1) (H' := H1) (hins c' hn) q1.rep
    refine hcv σ H1 _ fun v2 H2 s2 hk => ?_
    refine ⟨v2, k c', rfl, fun dd e => ?_, hk H2 (same_refl H2), o3 (V.bl (k c')) H2 Z1 [] ⟨same_trans q1.same s2, q1.zx.trans q1.same (.stay q1.zx.inn s2), .bl _, fun _ => ⟨List.nodup_nil, fun _ h => nomatch h⟩⟩⟩
    obtain ⟨fs, h⟩ := hx dd e
    exact ⟨fs, s2 _ _ h⟩
  | _ => exact (show False from o).elim
/-- isinstance(e, C) -/
theorem z_xX {n : Str} (k : Nat → Bool) (h : XcI X.K X.mg g.cls n k) (hcl : g.cls c = some (C, ns)) (hc : c < 20) (T : ExcC X.K C) (hz : Zc (.ref C) d oe) (hd : ∃ vs, oe.data = .fields vs) (hins : ∀ c, c < 20 → g.ins c = none)
    (he : PE (X.suite a ((a, oe) :: pn)) x (tI (g.at a c d) W bo fx)) (hm : X.mg "isinstance" = none) (hg : Gl X "isinstance" := by rfl) (hg2 : Gl X n := by rfl) (hdb : (n == ("__debug__" : Str)) = false := by decide)
    (hst : starEach [x, .Name n p3] X.env = (false, eval x X.env) :: starEach [.Name n p3] X.env := by exact starE (by rfl)) (hst2 : starEach [.Name n p3] X.env = (false, eval (.Name n p3) X.env) :: starEach [] X.env := by exact starE (by rfl)) (hpl : (backTo pos (starEach [.Name n p3] X.env)).any (·.1) = false := by rfl) :
    PE (X.suite a ((a, oe) :: pn)) (.Call (.Name "isinstance" p) [x, .Name n p3] [] pos) (tI (g.at a c d) W true (eXi k fx)) := by
  obtain ⟨C', hmg, hk⟩ := h
  refine se_xX k hc T hz hd hins he hm (pe_glob (X := X.suite a ((a, oe) :: pn)) (v := .ref C') hg2 hmg rfl hdb) (fun σ H Q q => ?_) hg hst hst2 hpl
  exact q _ H (same_refl H) fun H'' _ => .inl ⟨.ref C', fun u r => r, hk c C ns hcl⟩
theorem z_xXv {ty : String} {n : Str} (h : XcV X.K g.cls ty) (hcl : g.cls c = some (C, ns)) (hc : c < 20) (T : ExcC X.K C) (hz : Zc (.ref C) d oe) (hd : ∃ vs, oe.data = .fields vs) (hins : ∀ c, c < 20 → g.ins c = none)
    (he : PE (X.suite a ((a, oe) :: pn)) x (tI (g.at a c d) W bo fx)) (hm : X.mg "isinstance" = none) (hm2 : X.mg n = none) (hb : bootBuiltins n = some (.type ty) := by decide +kernel) (hn : n ≠ "__name__" := by decide) (hg : Gl X "isinstance" := by rfl) (hg2 : Gl X n := by rfl) (hdb : (n == ("__debug__" : Str)) = false := by decide)
    (hst : starEach [x, .Name n p3] X.env = (false, eval x X.env) :: starEach [.Name n p3] X.env := by exact starE (by rfl)) (hst2 : starEach [.Name n p3] X.env = (false, eval (.Name n p3) X.env) :: starEach [] X.env := by exact starE (by rfl)) (hpl : (backTo pos (starEach [.Name n p3] X.env)).any (·.1) = false := by rfl) :
    PE (X.suite a ((a, oe) :: pn)) (.Call (.Name "isinstance" p) [x, .Name n p3] [] pos) (tI (g.at a c d) W true (eXi (fun _ => true) fx)) := by
  refine se_xX (fun _ => true) hc T hz hd hins he hm (pe_bltn (X := X.suite a ((a, oe) :: pn)) hg2 hm2 hb (v := .ty ty) rfl hn hdb) (fun σ H Q q => ?_) hg hst hst2 hpl
  exact q _ H (same_refl H) fun H'' _ => .inl ⟨.type ty, fun u r => r, h c C ns hcl⟩
/-- names of classes -/
def tCs (cs : List Addr) : TA := fun _ H Q => Q (cs.map V.ref) H
theorem pa_cs0 : PA X [] (tCs []) := pa_nil
theorem pa_cs {n : Str} {es : List Expr} {cs : List Addr} {C : Addr} (hmg : X.mg n = some (.ref C)) (t : PA X es (tCs cs)) (hg : Gl X n := by rfl) (hdb : (n == ("__debug__" : Str)) = false := by decide) (hst : starEach (.Name n p :: es) X.env = (false, eval (.Name n p) X.env) :: starEach es X.env := by exact starE (by rfl)) : PA X (.Name n p :: es) (tCs (C :: cs)) :=
  pa_cons (pe_glob (v := .ref C) hg hmg rfl hdb) t hst
/-- isinstance(e, (C, D)) -/
def oneOf2 (k l : Nat → Bool) (c : Nat) : Bool := k c || l c
theorem z_xX2 {n m : Str} {j : Nat} {pt p4 : Pos} (k l : Nat → Bool) (h : XcI X.K X.mg g.cls n k) (h' : XcI X.K X.mg g.cls m l) (hcl : g.cls c = some (C, ns)) (hc : c < 20) (T : ExcC X.K C) (hz : Zc (.ref C) d oe) (hd : ∃ vs, oe.data = .fields vs) (hins : ∀ c, c < 20 → g.ins c = none)
    (he : PE (X.suite a ((a, oe) :: pn)) x (tI (g.at a c d) W bo fx)) (hm : X.mg "isinstance" = none) (hg : Gl X "isinstance" := by rfl) (hg2 : Gl X n := by rfl) (hg3 : Gl X m := by rfl) (hdb : (n == ("__debug__" : Str)) = false := by decide) (hdb2 : (m == ("__debug__" : Str)) = false := by decide)
    (hs1 : starEach [.Name n p3, .Name m p4] X.env = (false, eval (.Name n p3) X.env) :: starEach [.Name m p4] X.env := by exact starE (by rfl)) (hs2 : starEach [.Name m p4] X.env = (false, eval (.Name m p4) X.env) :: starEach [] X.env := by exact starE (by rfl))
    (hst : starEach [x, .Tuple [.Name n p3, .Name m p4] j pt] X.env = (false, eval x X.env) :: starEach [.Tuple [.Name n p3, .Name m p4] j pt] X.env := by exact starE (by rfl)) (hst2 : starEach [.Tuple [.Name n p3, .Name m p4] j pt] X.env = (false, eval (.Tuple [.Name n p3, .Name m p4] j pt) X.env) :: starEach [] X.env := by exact starE (by rfl)) (hpl : (backTo pos (starEach [.Tuple [.Name n p3, .Name m p4] j pt] X.env)).any (·.1) = false := by rfl) :
    PE (X.suite a ((a, oe) :: pn)) (.Call (.Name "isinstance" p) [x, .Tuple [.Name n p3, .Name m p4] j pt] [] pos) (tI (g.at a c d) W true (eXi (oneOf2 k l) fx)) := by
  obtain ⟨C1, hmg, hk⟩ := h
  obtain ⟨C2, hmg2, hk2⟩ := h'
  refine se_xX (oneOf2 k l) hc T hz hd hins he hm (pe_tup (pa_cs (X := X.suite a ((a, oe) :: pn)) hmg (pa_cs (X := X.suite a ((a, oe) :: pn)) hmg2 pa_cs0 hg3 hdb2 hs2) hg2 hdb hs1)) (fun σ H Q q => ?_) hg hst hst2 hpl
  refine ⟨by rw [sizeLine_eq]; show 2 ≤ _; decide, fun T' hT => q _ _ (same_upd hT) fun H'' s => .inr ⟨T', [C1, C2], rfl, s _ _ upd_same, ?_⟩⟩
  have e1 := hk c C ns hcl
  have e2 := hk2 c C ns hcl
  show PySem.W.kitAny X.K (.ref C) [.ref C1, .ref C2] = some (k c || l c)
  unfold PySem.W.kitAny
  rw [e1]
  cases hkc : k c with
  | true => rfl
  | false =>
    unfold PySem.W.kitAny
    rw [e2]
    cases hlc : l c with
    | true => rfl
    | false => rfl
end
/-! ### defs called in a suite (they refuse nothing) -/
structure FnS (P : Program) (w : World) (K : PySem.W.Frag) (mg : Str → Option Value) (base : Heap) (k : Nat) (f : Addr) (fd : FuncData) (ps : List Str) (sp : Sp) : Prop where
  size : ∀ vs H Q E, sp vs H Q E → vs.length = ps.length
  runs : ∀ (B : Around) (ev : List Env) (t : Shared) (G : Hp) (ar : Args) (ws : List Value) (xs : List V) (S : VK) (E : XK) (pin : Addr × Obj), L2H.RoomH k B → L2H.PinOk ev G t pin → Env0 P w K mg base B ev t G →
    BindsTo t fd ar (ps.zip ws) → Vals xs ws → sp xs G S E → codeAny (model P w) B (.call (.ref f) ar) (CR (L2.CX P w) ev P w G t S E) t
section
variable {P : Program} {w : World} {K : PySem.W.Frag} {mg : Str → Option Value} {base : Heap}
theorem fns_of {x qual : Str} {st : Stmt} {f : Addr} {fd : FuncData} {N ps : List Str} {k : Nat} {sp : Sp} (F : Fun K x qual st f fd) (S : FnScope N ps (defScope st)) (len : ∀ vs H Q E, sp vs H Q E → vs.length = ps.length)
    (hb : ∀ (cdv : Value) (A : Around) (ev : List Env) (t : Shared) (H : Hp) (vs : List V) (Q : VK) (E : XK) (p : Addr × Obj), L2H.RoomH k (A.deeper (envOfC qual (defScope st) t.heap.objs.size f cdv)) → sp vs H Q E →
      ∃ tt, PSs (L2H.cxH (L2.CX P w) P w K mg base N qual (defScope st) f cdv A ev t H E p) (defBody st) tt ∧ tt { nx := fun _ H' => Q .non H', rt := Q } (L2.start N vs) H) : FnS P w K mg base (k + 1) f fd ps sp := by
  obtain ⟨oc, od, kV, doc, pm, an, cdv, ct, osl, rfl, lk, hcd⟩ := F.ex
  refine ⟨len, fun B ev t G ar ws xs S' E pin room pk e0 bd rel hsp => ?_⟩
  have hl := len _ _ _ _ hsp
  have kk : K.In t.heap := e0.mod.kin.keeps fun b o e => (e0.bs b o e).1
  have hkind : ∀ y ∈ ps.zip ws, (defScope st).names.lookup y.1 = some .local ∨ ((defScope st).names.lookup y.1 = some .cell ∧ ((cellsFrom (t.heap.objs.size + 1) (defScope st).names []).lookup y.1).isSome = true) := by
    rintro ⟨n, v⟩ hy
    exact (S.par n (List.of_mem_zip hy).1).elim .inl fun q => .inr ⟨q, PySem.W.cellsFrom_some _ _ _ (.inl q)⟩
  refine codeAny_call_function room.depth (kk _ _ lk) rfl S.co S.gen rfl (PySem.W.codeRec_of kk hcd) (bd _ _ _ _ (wpAny_newFunctionEnv_cells S.kind hkind fun env he s1 hx => ?_))
  subst he
  refine ⟨(e0.mod.nolimit.keeps fun b o e => (e0.bs b o e).1).keeps hx.toInCall.keep, codeAny_func ?_⟩
  obtain ⟨tt, ht, hq⟩ := hb cdv B ev t G xs S' E pin (room.deeper _) hsp
  refine wpAny_mono (ht.run [] s1 (L2.start N xs) G _ (L2H.inv_startH S pk e0 hl rel hx) hq) (fun fl s' hs => ?_) fun _ _ z => z
  cases fl with
  | ret u => exact let ⟨v, _, H', J, rv, q⟩ := hs; ⟨v, H', J.os, J.bare, J.base, J.hok, rv, q⟩
  | next => exact let ⟨_, H', J, q⟩ := hs; ⟨V.non, H', J.os, J.bare, J.base, J.hok, rfl, q⟩
  | brk => obtain ⟨_, _, _, q⟩ := hs; exact q.elim
  | cont => obtain ⟨_, _, _, q⟩ := hs; exact q.elim
/-- such a def keeps its promise -/
theorem di_fnS {x qual : Str} {st : Stmt} {f : Addr} {fd : FuncData} {N ps : List Str} {k : Nat} (g : Gv) (F : Fun K x qual st f fd) (S : FnScope N ps (defScope st)) (n : Nat) (hn : n = ps.length) (m : Nat) (hm : m = N.length) (b : SF)
    (hb : ∀ (cdv : Value) (A : Around) (outer : List Env) (s : Shared) (H : Hp) (E : XK) (p : Addr × Obj), L2H.RoomH k (A.deeper (envOfC qual (defScope st) s.heap.objs.size f cdv)) →
      PSs (L2H.cxH (L2.CX P w) P w K mg base N qual (defScope st) f cdv A outer s H E p) (defBody st) (tS g (fun cls d _ H => E cls d H) b)) : FnS P w K mg base (k + 1) f fd ps (spI g n (runF m b)) := by
  subst hn hm
  refine fns_of F S (fun vs H Q E h => ?_) fun cdv A outer s H vs Q E p hr h => ?_
  · obtain ⟨Z, ds, hz, rs, hl, _⟩ := h
    rw [← rs.length, hl]
  · obtain ⟨Z, ds, hz, rs, hl, o⟩ := h
    refine ⟨_, hb cdv A outer s H E p hr, H, Z, Z, _, startL N.length ds, ⟨start_sr N hz rs, fun _ z => z, fun _ z => .inl z⟩, ?_⟩
    unfold runF at o
    cases hb : b (startL N.length ds) with
    | nx σl =>
      rw [hb] at o
      exact fun σ' H' Z' fps' ss e => o .non H' Z' [] ⟨ss.sr.same, ⟨ss.z0, ss.zn, ss.sr.z⟩, .non, fun _ => ⟨List.nodup_nil, fun _ h => nomatch h⟩⟩
    | rt d => rw [hb] at o; exact fun v H' Z' fp p => o v H' Z' fp p
    | er c fs σl =>
      rw [hb] at o
      exact fun σ' H' Z' fps' cls d ss e ex => o H' Z' cls d ss.sr.same ⟨ss.z0, ss.zn, ss.sr.z⟩ ex
    | bk σl => rw [hb] at o; exact o.elim
    | ct σl => rw [hb] at o; exact o.elim
    | bad => rw [hb] at o; exact o.elim
def DefS (P : Program) (w : World) (K : PySem.W.Frag) (mg : Str → Option Value) (base : Heap) (g : Gv) (k : Nat) (n : Str) (ps : List Str) (m : Nat) (h : List D → R D) : Prop :=
  ∃ f fd, mg n = some (.ref f) ∧ PySem.W.keepIn K (.ref f) = true ∧ Binds K fd ps [] ∧ FnS P w K mg base k f fd ps (spI g m h)
theorem di_defS {n : Str} {st : Stmt} {N ps : List Str} {k : Nat} (g : Gv) (T : TxD K mg n st ps) (S : FnScope N ps (defScope st)) (r : Nat) (hn : r = ps.length) (m : Nat) (hm : m = N.length) (b : SF)
    (hb : ∀ (f : Addr) (cdv : Value) (A : Around) (outer : List Env) (s : Shared) (H : Hp) (E : XK) (p : Addr × Obj), L2H.RoomH k (A.deeper (envOfC n (defScope st) s.heap.objs.size f cdv)) →
      PSs (L2H.cxH (L2.CX P w) P w K mg base N n (defScope st) f cdv A outer s H E p) (defBody st) (tS g (fun cls d _ H => E cls d H) b)) : DefS P w K mg base g (k + 1) n ps r (runF m b) := by
  obtain ⟨f, fd, F, hg, hbd⟩ := T
  exact ⟨f, fd, hg, F.kp, hbd, di_fnS g F S r hn m hm b (hb f)⟩
end
section
variable {X : Cx} {g : Gv} {W : L2.WX}
theorem room_suite {A : Around} {k : Nat} {v : Option Value} (r : Room k A) : L2H.RoomH k (A.mark v) := ⟨r.dp, r.un⟩
def XeC (K : PySem.W.Frag) (cE : Nat → Option (Addr × List Str)) (c : Nat) : Prop := ∃ C ns, cE c = some (C, ns) ∧ ExcC K C
theorem xe_ec {K : PySem.W.Frag} {cE : Nat → Option (Addr × List Str)} {c : Nat} {C : Addr} {ns : List Str} (h : XeC K cE c) (q : cE c = some (C, ns)) : ExcC K C := by
  obtain ⟨C', ns', e, x⟩ := h
  rw [e] at q
  cases q
  exact x
theorem hu70H {A : Around} {k : Nat} (hr : L2H.RoomH k A) : A.units + 70 < cLine := Nat.lt_of_le_of_lt (by omega) hr.un
/-- a call in a suite -/
theorem z_callS {e : Expr} {es : List Expr} {f : Sl → R D} {x : Bool} {pos p : Pos} {n : Str} {j m : Nat} {ps : List Str} {h : List D → R D} (F : DefS X.prog X.w X.K X.mg X.base g j n ps m h) (hr : L2H.RoomH j X.A) (pn : ∃ q, q ∈ X.pn) (tk : Takes X W) (ha : PA X (e :: es) (tIA g W x f)) (hlen : ∀ σ ds, f σ = .ok (.tup ds) → ds.length = m)
    (hg : Gl X n := by rfl) (hdb : (n == ("__debug__" : Str)) = false := by decide) (he : starEach (e :: es) X.env = (false, eval e X.env) :: starEach es X.env := by exact starE (by rfl)) (hpl : (backTo pos (starEach es X.env)).any (·.1) = false := by rfl) :
    PE X (.Call (.Name n p) (e :: es) [] pos) (tI g W true (eF h f)) := by
  obtain ⟨fn, fd, hm, hk, hb, F⟩ := F
  have step : PE X (.Call (.Name n p) (e :: es) [] pos) (fun σ H Q => tIA g W x f σ H fun vs H1 => spI g m h vs H1 Q (fun cls d H => W cls d σ H)) := by
    refine ⟨fun pins s σ H Q I q => wpAny_Call_Name_kw (ld_glob I hg hm ?_ hdb)⟩
    refine PySem.W.callWith_K (h₀ := X.base) I.ok.mod.kin hk (thn (ha.run pos pins s σ H _ I q) fun us s1 ⟨vs, H1, I1, rel, q1⟩ => ⟨I1.kIn, ?_⟩) he hpl
    obtain ⟨pq, hp⟩ := pn
    have hl : us.length = ps.length := by rw [← rel.length]; exact F.size _ _ _ _ q1
    have b := hb s1 us I1.kIn (by rw [List.append_nil]; exact hl)
    rw [List.append_nil] at b
    have P1 := I1.pin pq (List.mem_append_left _ hp)
    have pk : L2H.PinOk X.stack H1 s1 pq := ⟨P1.1, P1.2.1, fun hm => (List.mem_cons.mp (I1.stkSub pq.1 hm)).elim P1.2.2.1 P1.2.2.2.1, P1.2.2.2.2⟩
    refine wpAny_call (codeAny_mono (F.runs X.A X.stack s1 H1 ⟨us, []⟩ us vs Q _ pq hr pk I1.env0 b rel q1) fun r s' hq => ?_)
    match r, hq with
    | .error e, hq => exact passAt tk σ pins H1 s1 e s' I1 hq
    | .ok (.ret u), hq => exact I1.after hq
  refine step.imp fun σ H Q q => ?_
  obtain ⟨H0, Z, fps, σl, sr, q⟩ := q
  refine ⟨H0, Z, fps, σl, sr, ?_⟩
  have q := Out.bind q
  cases hx : f σl with
  | ok x =>
    rw [hx] at q
    cases x with
    | tup ds => exact ⟨ds, rfl, fun vs H1 Z1 fp1 p1 => call_sp p1 (hlen σl ds hx) q⟩
    | _ => exact q.elim
  | err c fs => rw [hx] at q; exact q
  | bad => rw [hx] at q; exact q.elim
end
end DI
/-! DI: a < b < c < d -/
namespace DI
open PySem PySem.Spec PyProof.Rows L2
def tLink (r : R2) (v : V) (tb : TE) (K : V → TE) : TE := fun σ H Q => tb σ H fun y H2 => r v y H2 fun z H3 => ∃ k, z = .bl k ∧ (if k = true then K y σ H3 Q else Q (.bl false) H3)
def tLast (r : R2) (v : V) (tb : TE) : TE := fun σ H Q => tb σ H fun y H2 => r v y H2 Q
def tChain3 (r r' r'' : R2) (ta tb tc td : TE) : TE := fun σ H Q => ta σ H fun x H1 => tLink r x tb (fun y => tLink r' y tc fun z => tLast r'' z td) σ H1 Q
section
variable {X : Cx} {g : Gv} {W : L2.WX} {a b c d : Expr} {pos : Pos}
theorem pe_chain3 {ta tb tc td : TE} {o1 o2 o3 : CmpOp} {r r' r'' : R2} (h1 : OpR X (compareOp o1) r) (h2 : OpR X (compareOp o2) r') (h3 : OpR X (compareOp o3) r'') (ha : PE X a ta) (hb : PE X b tb) (hc : PE X c tc) (hd : PE X d td)
    (hm : lastMarks [o1, o2, o3] [b, c, d] = false) : PE X (.Compare a [o1, o2, o3] [b, c, d] pos) (tChain3 r r' r'' ta tb tc td) := by
  refine ⟨fun pins s σ H Q I h => Compare_chain (thn (ha.run pins s σ H _ I h) fun v s1 ⟨x, H1, I1, e1, q1⟩ => ?_) hm⟩
  refine chain_link (thn (hb.run pins s1 σ H1 _ I1 q1) fun u s2 ⟨y, H2, I2, e2, q2⟩ => thn (h1 pins s2 σ H2 x y v u _ I2 e1 e2 q2) fun w s3 ⟨z, H3, I3, e3, k, ez, q3⟩ => ?_)
  subst ez
  cases e3
  refine wpAny_truthy_bool ?_
  cases k with
  | false => exact ite_ff ⟨.bl false, H3, I3, rfl, q3⟩
  | true =>
    refine ite_tt (chain_link (thn (hc.run pins s3 σ H3 _ I3 q3) fun u4 s4 ⟨z4, H4, I4, e4, q4⟩ => thn (h2 pins s4 σ H4 y z4 u u4 _ I4 e2 e4 q4) fun w5 s5 ⟨z5, H5, I5, e5, k5, ez5, q5⟩ => ?_))
    subst ez5
    cases e5
    refine wpAny_truthy_bool ?_
    cases k5 with
    | false => exact ite_ff ⟨.bl false, H5, I5, rfl, q5⟩
    | true => exact ite_tt (chain_last (thn (hd.run pins s5 σ H5 _ I5 q5) fun u6 s6 ⟨z6, H6, I6, e6, q6⟩ => h3 pins s6 σ H6 z4 z6 u4 u6 Q I6 e4 e6 q6))
variable {fa fb fc fd : Sl → R D} {ba bb bc bd : Bool} {r r' r'' : R2} {o o' o'' : Cop}
abbrev Fin3 (g : Gv) (Z : Addr → Prop) (H : Hp) (Q : VK) : D → Prop := fun d => ∀ v H' Z' fp, PostE g true Z Z' H H' d v fp → Q v H'
theorem last_of (hr : OpD g W true r (fun x y => blR (cmpD o x y))) {H0 : Hp} {Z : Addr → Prop} {fps : List (List Addr)} {σl : Sl} {σ : L2.St} {H : Hp} {Q : VK} {x : D} {v : V} {fp : List Addr} (sr : SR g H0 Z fps σl σ H) (rx : Rep g Z H x v fp)
    (q : Out g W Z σ H ((fb σl).bind fun y => blR (cmpD o x y)) (Fin3 g Z H Q)) : tLast r v (tI g W bb fb) σ H Q := by
  refine ⟨H0, Z, fps, σl, sr, q.bind.imp fun y h u H2 Z2 fp2 p2 => ?_⟩
  refine hr Z2 σ H2 x y v u fp fp2 Q p2.zx.inn (rx.same p2.zx.le p2.same) p2.rep ?_
  exact h.step p2.same p2.zx fun d q v H' Z' fp p => q v H' Z' fp (p.pre p2.same p2.zx)
theorem link_of (hr : OpD g W true r (fun x y => blR (cmpD o x y))) {H0 : Hp} {Z : Addr → Prop} {fps : List (List Addr)} {σl : Sl} {σ : L2.St} {H : Hp} {Q : VK} {x : D} {v : V} {fp : List Addr} {K : V → TE} {M : D → R D} (sr : SR g H0 Z fps σl σ H) (rx : Rep g Z H x v fp)
    (hK : ∀ {Z' : Addr → Prop} {H' : Hp} {y : D} {u : V} {fp' : List Addr} {Q' : VK}, SR g H0 Z' fps σl σ H' → Rep g Z' H' y u fp' → Out g W Z' σ H' (M y) (Fin3 g Z' H' Q') → K u σ H' Q')
    (q : Out g W Z σ H ((fb σl).bind fun y => (cmpD o x y).bind fun k => if k = true then M y else .ok (.bl false)) (Fin3 g Z H Q)) : tLink r v (tI g W bb fb) K σ H Q := by
  refine ⟨H0, Z, fps, σl, sr, q.bind.imp fun y h u H2 Z2 fp2 p2 => ?_⟩
  refine hr Z2 σ H2 x y v u fp fp2 _ p2.zx.inn (rx.same p2.zx.le p2.same) p2.rep ?_
  have h3 := h.bind.step (P' := fun k => Out g W Z σ H (if k = true then M y else .ok (.bl false)) (Fin3 g Z H Q)) p2.same p2.zx (fun _ h => h)
  show Out g W Z2 σ H2 (blR (cmpD o x y)) _
  unfold blR
  cases hc : cmpD o x y with
  | ok k =>
    rw [hc] at h3
    have h3 : Out g W Z σ H (if k = true then M y else .ok (.bl false)) (Fin3 g Z H Q) := h3
    intro w H3 Z3 fp3 p3
    have rp := p3.rep
    cases rp
    refine ⟨k, rfl, ?_⟩
    have s3 := same_trans p2.same p3.same
    have z3 := p2.zx.trans p2.same p3.zx
    cases k with
    | true =>
      rw [if_pos rfl]
      have h3 : Out g W Z σ H (M y) (Fin3 g Z H Q) := h3
      exact hK (sr.step s3 z3) (p2.rep.same p3.zx.le p3.same) (h3.step s3 z3 fun d q v H' Z' fp p => q v H' Z' fp (p.pre s3 z3))
    | false =>
      rw [if_neg (by decide)]
      exact h3 _ H3 Z3 [] ((post_sc p3.zx.inn (.bl _)).pre s3 z3)
  | err c fs => rw [hc] at h3; exact h3
  | bad => rw [hc] at h3; exact h3
def eC3 (o o' o'' : Cop) (f k l m : Sl → R D) : Sl → R D := fun σ => (f σ).bind fun x => (k σ).bind fun y => (cmpD o x y).bind fun r => if r = true then ((l σ).bind fun z => (cmpD o' y z).bind fun r => if r = true then ((m σ).bind fun w => blR (cmpD o'' z w)) else .ok (.bl false)) else .ok (.bl false)
theorem se_chn3 {o1 o2 o3 : CmpOp} (h1 : OpR X (compareOp o1) r) (h2 : OpR X (compareOp o2) r') (h3 : OpR X (compareOp o3) r'') (r1 : OpD g W true r (fun x y => blR (cmpD o x y))) (r2 : OpD g W true r' (fun x y => blR (cmpD o' x y))) (r3 : OpD g W true r'' (fun x y => blR (cmpD o'' x y)))
    (ha : PE X a (tI g W ba fa)) (hb : PE X b (tI g W bb fb)) (hc : PE X c (tI g W bc fc)) (hd : PE X d (tI g W bd fd)) (hm : lastMarks [o1, o2, o3] [b, c, d] = false) : PE X (.Compare a [o1, o2, o3] [b, c, d] pos) (tI g W true (eC3 o o' o'' fa fb fc fd)) :=
  (pe_chain3 h1 h2 h3 ha hb hc hd hm).imp fun σ H Q q => by
    obtain ⟨H0, Z, fps, σl, sr, q⟩ := q
    refine ⟨H0, Z, fps, σl, sr, q.bind.imp fun x h v H1 Z1 fp p => ?_⟩
    refine link_of r1 (sr.step p.same p.zx) p.rep (fun sr2 ry q2 => link_of r2 sr2 ry (fun sr3 rz q3 => last_of r3 sr3 rz q3) q2) ?_
    exact h.step p.same p.zx fun d q v H' Z' fp p' => q v H' Z' fp (p'.pre p.same p.zx)
theorem z_leltle (ha : PE X a (tI g W ba fa)) (hb : PE X b (tI g W bb fb)) (hc : PE X c (tI g W bc fc)) (hd : PE X d (tI g W bd fd)) (hm : lastMarks [.LtE, .Lt, .LtE] [b, c, d] = false := by rfl) : PE X (.Compare a [.LtE, .Lt, .LtE] [b, c, d] pos) (tI g W true (eC3 .le .lt .le fa fb fc fd)) :=
  se_chn3 op_le op_lt op_le opd_le opd_lt opd_le ha hb hc hd hm
end
end DI
/-! DI: a sign so many times -/
namespace DI
open PySem PySem.Spec PyProof.Rows L2
def repS (c : Nat) (n : Int) : Str := ⟨(List.replicate n.toNat c).toArray⟩
theorem fold_rep (c : Nat) : ∀ (n : Nat) (a : Array Nat), (List.replicate n #[c]).foldl (· ++ ·) a = a ++ (List.replicate n c).toArray
  | 0, a => by simp
  | n + 1, a => by
    rw [List.replicate_succ, List.foldl_cons, fold_rep c n, List.replicate_succ]
    apply Array.ext'
    simp
theorem mul_rep {c : Nat} {n : Int} (h0 : 0 ≤ n) : Txt.mul ⟨#[c]⟩ n = repS c n := by
  unfold Txt.mul repS
  by_cases h : n < 1
  · rw [if_pos h]
    have : n.toNat = 0 := by omega
    rw [this]; rfl
  · rw [if_neg h]
    by_cases h1 : n = 1
    · subst h1; rfl
    · have e : (n == 1 || (⟨#[c]⟩ : Str).length == 0) = false := by
        have : (n == 1) = false := by simpa using h1
        rw [this]; rfl
      rw [e, if_neg (by decide), fold_rep]
      simp
theorem mulok_rep {c : Nat} {n : Int} (h0 : 0 ≤ n) (h1 : n ≤ 1000000) : MulOk ⟨#[c]⟩ n := by
  have e1 : decide (n < -(2 ^ 63 : Int)) = false := decide_eq_false (by omega)
  have e2 : decide (n ≥ 2 ^ 63) = false := decide_eq_false (by omega)
  refine ⟨by rw [e1, e2]; rfl, fun h _ q => ?_, fun h _ => ?_⟩
  · have : (1 : Int) ≤ (2 ^ 63 - 1) / n := (Int.le_ediv_iff_mul_le (by omega)).mpr (by omega)
    have q : ((1 : Nat) : Int) > (2 ^ 63 - 1) / n := q
    omega
  · have : (⟨#[c]⟩ : Str).length * n.toNat ≤ 1000000 := by show 1 * n.toNat ≤ _; omega
    unfold Builtin.Str.tooLong
    exact decide_eq_false (by rw [sizeLine_eq] at *; omega)
section
variable {X : Cx} {g : Gv} {W : L2.WX} {a b : Expr} {pos : Pos} {f k : Sl → R D} {x y : Bool}
def rRepS : R2 := fun x y H Q => ∃ c n, x = V.str ⟨#[c]⟩ ∧ y = V.int n ∧ (0 ≤ n ∧ n ≤ 1000000) ∧ Q (.str (repS c n)) H
theorem op_repS : OpR X (binaryOp .Mult) rRepS := by
  intro pins s σ H x y v u Q I rx ry h
  obtain ⟨c, n, rfl, rfl, hn, q⟩ := h
  obtain ⟨t, rfl⟩ := rx
  obtain ⟨t2, rfl⟩ := ry
  refine SB.mul (mulok_rep hn.1 hn.2) fun t' kk => ⟨.str (repS c n), H, I.tok _, ?_, q⟩
  rw [mul_rep hn.1]
  exact ⟨t', rfl⟩
def repD : D → D → R D
  | .str z, .int n => match z.cps.toList with
    | [c] => if 0 ≤ n ∧ n ≤ 1000000 then .ok (.str (repS c n)) else .bad
    | _ => .bad
  | _, _ => .bad
theorem opd_repS : OpD g W true rRepS repD := by
  intro Z σ H x y v u fx fy Q hz rx ry o
  cases x with
  | str z =>
    cases y with
    | int n =>
      obtain ⟨rfl, _⟩ := rep_str rx
      obtain ⟨rfl, _⟩ := rep_int ry
      have o : Out g W Z σ H (match z.cps.toList with | [c] => if 0 ≤ n ∧ n ≤ 1000000 then R.ok (D.str (repS c n)) else .bad | _ => .bad) _ := o
      obtain ⟨⟨l⟩⟩ := z
      match l, o with
      | [c], o =>
        obtain ⟨hn, o⟩ := Out.guard o
        exact ⟨c, n, rfl, rfl, hn, o _ H Z [] (post_sc hz (.str _))⟩
      | [], o => exact o.elim
      | _ :: _ :: _, o => exact o.elim
    | _ => exact o.elim
  | _ => exact o.elim
def eRp (f k : Sl → R D) : Sl → R D := fun σ => (f σ).bind fun x => (k σ).bind fun y => repD x y
theorem z_rp (h : PE X a (tI g W x f)) (h' : PE X b (tI g W y k)) : PE X (.BinOp a .Mult b pos) (tI g W true (eRp f k)) := se_bin op_repS opd_repS h h'
end
end DI
/-! DI: x is False -/
namespace DI
open PySem PySem.Spec PyProof.Rows L2
section
variable {X : Cx} {g : Gv} {W : L2.WX} {a b : Expr} {pos : Pos} {f k : Sl → R D} {x y : Bool}
def isbD : D → D → R D
  | .bl i, .bl j => .ok (.bl (decide (i = j)))
  | _, _ => .bad
theorem opd_isb : OpD g W true (fun x y H Q => ∃ a b, x = V.bl a ∧ y = V.bl b ∧ Q (.bl (decide (a = b))) H) isbD := by
  intro Z σ H x y v u fx fy Q hz rx ry o
  cases x with
  | bl i =>
    cases y with
    | bl j =>
      obtain ⟨rfl, _⟩ := rep_bl rx
      obtain ⟨rfl, _⟩ := rep_bl ry
      exact ⟨i, j, rfl, rfl, o _ H Z [] (post_sc hz (.bl _))⟩
    | _ => exact o.elim
  | _ => exact o.elim
def eIsb (f k : Sl → R D) : Sl → R D := fun σ => (f σ).bind fun x => (k σ).bind fun y => isbD x y
theorem z_isb (h : PE X a (tI g W x f)) (h' : PE X b (tI g W y k)) : PE X (.Compare a [.Is] [b] pos) (tI g W true (eIsb f k)) := se_cmp op_is_bl opd_isb h h' (nobehind b (by decide) (by decide))
end
end DI
/-! DI: xs.pop(i), xs.insert(i, y), xs[i] = y (lists of things that are shared) -/
namespace DI
open PySem PySem.Spec PyProof.Rows L2
section
variable {g : Gv} {Z : Addr → Prop} {H : Hp}
theorem Reps.app0 {xs ys : List D} {vs us : List V} (h : Reps g Z H xs vs []) (h2 : Reps g Z H ys us []) : Reps g Z H (xs ++ ys) (vs ++ us) [] := h.append h2
variable {X : Cx} {W : L2.WX} {e e2 : Expr} {fe fk : Sl → R D} {i : Nat} {x : Str} {p pos spos apos cpos : Pos} {b b' : Bool}
theorem lst_write {H0 : Hp} {Z0 : Addr → Prop} {fps : List (List Addr)} {σl : Sl} {σ : L2.St} {E : Ends} {l : Addr} {vs vs' : List V} {xs' : List D} (ss : SS g H0 Z0 Z fps σl σ H) (e1 : σ[i]? = some (some (.ref l))) (e2 : fps[i]? = some [l]) (hl : H l = some (.lst vs)) (rs : Reps g Z H xs' vs' [])
    (o : OutS g W H0 Z0 Z H E (.nx (σl.set i (some (.lst true xs'))))) : E.nx σ (upd H l (.lst vs')) := by
  have own := ss.sr.own l (mem_at e2 l List.mem_cons_self)
  have ap := mem_apart ss.sr.nd e2 l List.mem_cons_self
  have ow : Owd g.P g.w l (H l) := .inl ⟨vs, hl⟩
  have rep2 : Rep g Z (upd H l (.lst vs')) (.lst true xs') (.ref l) [l] := .lst upd_same (rs.keep (fun _ z => z) (kp_upd ow own.1 (fun h => nomatch h))) own_new
  have r2 := ss.sr.put (i := i) (same_updO ss.sr.same own.2.1) (fun _ z => z) (fun a z => upd_some (ss.sr.z a z)) (kp_upd ow own.1 ap) (fun a ha => (ss.sr.own a (mem_set0 ha)).1) rep2 (by simp)
    (fun a ha => by rw [List.mem_singleton.mp ha]; exact ⟨ap, own.1, own.2.1⟩)
  rw [set_self e1] at r2
  exact o σ _ Z _ ⟨r2, ss.z0, ss.zn⟩ ⟨fun _ z => z, kp_upd ow own.1 (fun h => nomatch h)⟩
/-- what the writes of a list start from -/
theorem lst_slot {H0 : Hp} {Z0 : Addr → Prop} {fps : List (List Addr)} {σl : Sl} {σ : L2.St} {xs : List D} (ss : SS g H0 Z0 Z fps σl σ H) (e0 : (getS σl i).bind lstOf = .ok xs) (hc : cleanL xs = true) : ∃ l vs, σ[i]? = some (some (.ref l)) ∧ fps[i]? = some [l] ∧ H l = some (.lst vs) ∧ Reps g Z H xs vs [] := by
  obtain ⟨v, fp, e1, e2, rp⟩ := ss.sr.slot i _ (getS_ok (lstOf_ok e0))
  obtain ⟨l, vs, fs, rfl, hl, rs, rfl⟩ := rep_own rp
  have hf := Reps.clean rs hc
  subst hf
  exact ⟨l, vs, e1, e2, hl, rs⟩
/-- xs.pop(k) -/
noncomputable def sPop (i : Nat) (f : Sl → R D) : SF := fun σ => rS ((getS σ i).bind lstOf) σ fun xs => rS (f σ) σ fun y => rS (intOf y) σ fun j => rS (ofR (L2.ixN xs.length j)) σ fun k => if cleanL xs = true ∧ small62 j = true then .nx (σ.set i (some (.lst true (xs.eraseIdx k)))) else .bad
theorem intOf_err {d : D} {c : Nat} {fs : List D} : intOf d ≠ .err c fs := fun h => by cases d <;> cases h
theorem ofR_err {α : Type} {o : Option α} {c : Nat} {fs : List D} : ofR o ≠ .err c fs := fun h => by cases o <;> cases h
theorem intOf_ok {d : D} {j : Int} (h : intOf d = .ok j) : d = .int j := by
  cases d with
  | int i => cases h; rfl
  | _ => cases h
theorem ofR_ok {α : Type} {o : Option α} {a : α} (h : ofR o = .ok a) : o = some a := by
  cases o with
  | none => cases h
  | some b => cases h; rfl
theorem ss_pop (hN : X.N[i]? = some x) (hv : Vis X.env.scope x) (hd : (x == ("__debug__" : Str)) = false) (hcd : (x == ("__classdict__" : Str)) = false) (he : PE X e (tI g W b fe))
    (hst : starEach [e] X.env = (false, eval e X.env) :: starEach [] X.env)
    (hbase : attributeBase (.Name x p) "pop" X.env (eval (.Name x p) X.env) = eval (.Name x p) X.env)
    (hfew : ((backTo cpos (starEach [e] X.env)).all (fun x => !x.1) && (backToKw cpos (keywordEach [] X.env)).all (fun x => x.1.isSome)
      && decide ([e].length + ([] : List Keyword).length + (if ([] : List Keyword).isEmpty then 0 else 1) < 30)) = true)
    (hline : (apos.endLine == cpos.line) = true) (hplain : (backTo cpos (starEach [] X.env)).any (·.1) = false)
    (hs : swapsWith (.Call (.Attribute (.Name x p) "pop" apos) [e] [] cpos) none pos.line X.env = pure false) :
    PS X (.Expr (.Call (.Attribute (.Name x p) "pop" apos) [e] [] cpos) pos) (tS g W (sPop i fe)) :=
  (ps_expr (pe_bm PySem.F.plainAttrs_list PySem.F.slot_list_pop PySem.F.type_list_pop mt_popAt (pe_var hN hv hd hcd) (pa_cons he pa_nil hst) hbase hfew hline hst hplain) hs).imp fun E σ H q => by
  obtain ⟨H0, Z0, Z, fps, σl, ss, o⟩ := q
  obtain ⟨xs, e0, o⟩ := (OutS.rS ss o).okOf fun c fs => lstOf_err getS_err
  obtain ⟨v, fp, e1, e2, rp⟩ := ss.sr.slot i _ (getS_ok (lstOf_ok e0))
  obtain ⟨l, vs, fs, rfl, hl, rs, rfl⟩ := rep_own rp
  refine ⟨.ref l, e1, .inl ⟨rfl, vs, .inl (.inl hl)⟩, H0, Z, fps, σl, ss.sr, (OutS.rS ss o).imp fun y o v1 H1 Z1 fy p1 => ?_⟩
  have ss1 := ss.step p1.same p1.zx
  have o := o.pre (.of_zx p1.same p1.zx)
  obtain ⟨j, ej, o⟩ := (OutS.rS ss1 o).okOf fun c fs => intOf_err
  obtain ⟨k, ek, o⟩ := (OutS.rS ss1 o).okOf fun c fs => ofR_err
  obtain ⟨⟨hc, hj⟩, o9⟩ := OutS.guard o
  obtain ⟨l', vs', f1, f2, hl1, rs1⟩ := lst_slot ss1 e0 hc
  rw [e1] at f1
  cases f1
  have := intOf_ok ej
  subst this
  obtain ⟨rfl, _⟩ := rep_int p1.rep
  have ek := ofR_ok ek
  have len := rs1.length
  rw [len] at ek
  obtain ⟨q1, q2, _, _⟩ := ixN_seq ek
  obtain ⟨b1, b2⟩ := small62_iff hj
  refine ⟨l, vs', j, k, vs'[k], rfl, rfl, hl1, by omega, by omega, q1, List.getElem?_eq_getElem q2, ?_⟩
  refine lst_write ss1 e1 f2 hl1 ?_ o9
  rw [List.eraseIdx_eq_take_drop_succ, List.eraseIdx_eq_take_drop_succ]
  exact Reps.app0 (Reps.take0 k rs1) (Reps.drop0 (k + 1) rs1)
/-- xs.insert(k, y), k not below 0 -/
noncomputable def sIns (i : Nat) (f h : Sl → R D) : SF := fun σ => rS ((getS σ i).bind lstOf) σ fun xs => rS (f σ) σ fun y => rS (h σ) σ fun z => rS (intOf y) σ fun j => if (cleanL xs = true ∧ clean z = true) ∧ (small62 j = true ∧ 0 ≤ j) ∧ xs.length < sizeLine then .nx (σ.set i (some (.lst true (xs.take j.toNat ++ [z] ++ xs.drop j.toNat)))) else .bad
theorem ss_ins (hN : X.N[i]? = some x) (hv : Vis X.env.scope x) (hd : (x == ("__debug__" : Str)) = false) (hcd : (x == ("__classdict__" : Str)) = false) (he : PE X e (tI g W b fe)) (he2 : PE X e2 (tI g W b' fk))
    (hst : starEach [e, e2] X.env = (false, eval e X.env) :: starEach [e2] X.env) (hst2 : starEach [e2] X.env = (false, eval e2 X.env) :: starEach [] X.env)
    (hbase : attributeBase (.Name x p) "insert" X.env (eval (.Name x p) X.env) = eval (.Name x p) X.env)
    (hfew : ((backTo cpos (starEach [e, e2] X.env)).all (fun x => !x.1) && (backToKw cpos (keywordEach [] X.env)).all (fun x => x.1.isSome)
      && decide ([e, e2].length + ([] : List Keyword).length + (if ([] : List Keyword).isEmpty then 0 else 1) < 30)) = true)
    (hline : (apos.endLine == cpos.line) = true) (hplain : (backTo cpos (starEach [e2] X.env)).any (·.1) = false)
    (hs : swapsWith (.Call (.Attribute (.Name x p) "insert" apos) [e, e2] [] cpos) none pos.line X.env = pure false) :
    PS X (.Expr (.Call (.Attribute (.Name x p) "insert" apos) [e, e2] [] cpos) pos) (tS g W (sIns i fe fk)) :=
  (ps_expr (pe_bm PySem.F.plainAttrs_list PySem.F.slot_list_insert PySem.F.type_list_insert mt_insert (pe_var hN hv hd hcd) (pa_cons he (pa_cons he2 pa_nil hst2) hst) hbase hfew hline hst hplain) hs).imp fun E σ H q => by
  obtain ⟨H0, Z0, Z, fps, σl, ss, o⟩ := q
  obtain ⟨xs, e0, o⟩ := (OutS.rS ss o).okOf fun c fs => lstOf_err getS_err
  obtain ⟨v, fp, e1, e2, rp⟩ := ss.sr.slot i _ (getS_ok (lstOf_ok e0))
  obtain ⟨l, vs, fs, rfl, hl, rs, rfl⟩ := rep_own rp
  refine ⟨.ref l, e1, .inl ⟨rfl, vs, .inl (.inl hl)⟩, H0, Z, fps, σl, ss.sr, (OutS.rS ss o).imp fun y o v1 H1 Z1 fy p1 => ?_⟩
  have ss1 := ss.step p1.same p1.zx
  have o := o.pre (.of_zx p1.same p1.zx)
  refine ⟨H0, Z1, fps, σl, ss1.sr, (OutS.rS ss1 o).imp fun z o v2 H2 Z2 fz p2 => ?_⟩
  have ss2 := ss1.step p2.same p2.zx
  have o := o.pre (.of_zx p2.same p2.zx)
  obtain ⟨j, ej, o⟩ := (OutS.rS ss2 o).okOf fun c fs => intOf_err
  obtain ⟨⟨⟨hc, hz⟩, ⟨hj, h0⟩, hlen⟩, o9⟩ := OutS.guard o
  obtain ⟨l', vs', f1, f2, hl1, rs1⟩ := lst_slot ss2 e0 hc
  rw [e1] at f1
  cases f1
  have := intOf_ok ej
  subst this
  obtain ⟨rfl, _⟩ := rep_int p1.rep
  have len := rs1.length
  obtain ⟨b1, b2⟩ := small62_iff hj
  refine ⟨l, vs', j, v2, rfl, rfl, hl1, by omega, h0, by omega, ?_⟩
  refine lst_write ss2 e1 f2 hl1 ?_ o9
  exact Reps.app0 (Reps.app0 (Reps.take0 _ rs1) (.cons (f := []) (fs := []) (p2.rep.to0 hz) .nil)) (Reps.drop0 _ rs1)
/-- xs[k] = y -/
def sPutL (i : Nat) (fk fe : Sl → R D) : SF := fun σ => rS (fe σ) σ fun y => rS ((getS σ i).bind lstOf) σ fun xs => rS (fk σ) σ fun x => rS (intOf x) σ fun j => rS (ofR (L2.ixN xs.length j)) σ fun k =>
  if clean y = true ∧ cleanL xs = true then .nx (σ.set i (some (.lst true (xs.set k y)))) else .bad
theorem ss_putL {k : Expr} (hN : X.N[i]? = some x) (hv : Vis X.env.scope x) (hd : (x == ("__debug__" : Str)) = false) (hcd : (x == ("__classdict__" : Str)) = false) (he : PE X e (tI g W b fe)) (hk : PE X k (tI g W b' fk))
    (ha : ∀ v, assign (.Subscript (.Name x p) k pos) X.env v = (do
      let ov ← holding [v] (eval (.Name x p) X.env)
      let iv ← holding [v, ov] (eval k X.env)
      standAt pos
      holding [v, ov, iv] (setItem ov iv v)
      release [v, ov, iv] []))
    (hs : swapsWithSole [.Subscript (.Name x p) k pos] e spos.line X.env = pure false) (hw : swappedStores [.Subscript (.Name x p) k pos] e X.env = pure none) (h1 : (assignEach [.Subscript (.Name x p) k pos] X.env).map (·.2) = [assign (.Subscript (.Name x p) k pos) X.env]) :
    PS X (.Assign [.Subscript (.Name x p) k pos] e spos) (tS g W (sPutL i fk fe)) := (ps_asg he (pg_sub (pe_var hN hv hd hcd) hk set_list ha) hs hw h1).imp fun E σ H q => by
  obtain ⟨H0, Z0, Z, fps, σl, ss, o⟩ := q
  refine ⟨H0, Z, fps, σl, ss.sr, (OutS.rS ss o).imp fun y o vy H1 Z1 fy p1 => ?_⟩
  have ss1 := ss.step p1.same p1.zx
  have o := o.pre (.of_zx p1.same p1.zx)
  obtain ⟨xs, e0, o⟩ := (OutS.rS ss1 o).okOf fun c fs => lstOf_err getS_err
  obtain ⟨v, fp, e1, e2, rp⟩ := ss1.sr.slot i _ (getS_ok (lstOf_ok e0))
  obtain ⟨l, vs, fs, rfl, hl, rs, rfl⟩ := rep_own rp
  refine ⟨.ref l, e1, H0, Z1, fps, σl, ss1.sr, (OutS.rS ss1 o).imp fun kd o vk H2 Z2 fk' p2 => ?_⟩
  have ss2 := ss1.step p2.same p2.zx
  have o := o.pre (.of_zx p2.same p2.zx)
  obtain ⟨j, ej, o⟩ := (OutS.rS ss2 o).okOf fun c fs => intOf_err
  obtain ⟨kk, ek, o⟩ := (OutS.rS ss2 o).okOf fun c fs => ofR_err
  obtain ⟨⟨hy, hc⟩, o9⟩ := OutS.guard o
  obtain ⟨l', vs', f1, f2, hl1, rs1⟩ := lst_slot ss2 e0 hc
  rw [e1] at f1
  cases f1
  have := intOf_ok ej
  subst this
  obtain ⟨rfl, _⟩ := rep_int p2.rep
  have ek := ofR_ok ek
  have len := rs1.length
  have ek2 := ek
  rw [len] at ek2
  obtain ⟨_, q2, _, _⟩ := ixN_seq ek2
  refine ⟨l, vs', j, kk, rfl, rfl, hl1, ek2, ?_⟩
  refine lst_write ss2 e1 f2 hl1 ?_ o9
  rw [List.set_eq_take_append_cons_drop, List.set_eq_take_append_cons_drop, if_pos q2, if_pos (by rw [len]; exact q2)]
  exact Reps.app0 (Reps.take0 kk rs1) (.cons (f := []) (fs := []) ((p1.rep.to0 hy).same p2.zx.le p2.same) (Reps.drop0 (kk + 1) rs1))
end
section
variable {X : Cx} {g : Gv} {W : L2.WX} {e a : Expr} {fe k fk : Sl → R D} {n : Str} {p pos spos apos cpos : Pos} {x y : Bool}
theorem t_pop (i : Nat) (he : PE X e (tI g W x fe)) (hN : X.N[i]? = some n := by rfl) (hv : Vis X.env.scope n := by first | exact Or.inl rfl | exact Or.inr (Or.inl rfl) | exact Or.inr (Or.inr rfl)) (hd : (n == ("__debug__" : Str)) = false := by decide) (hcd : (n == ("__classdict__" : Str)) = false := by decide)
    (hst : starEach [e] X.env = (false, eval e X.env) :: starEach [] X.env := by exact starE (by rfl))
    (hbase : attributeBase (.Name n p) "pop" X.env (eval (.Name n p) X.env) = eval (.Name n p) X.env := by rfl)
    (hfew : ((backTo cpos (starEach [e] X.env)).all (fun x => !x.1) && (backToKw cpos (keywordEach [] X.env)).all (fun x => x.1.isSome)
      && decide ([e].length + ([] : List Keyword).length + (if ([] : List Keyword).isEmpty then 0 else 1) < 30)) = true := by rfl)
    (hline : (apos.endLine == cpos.line) = true := by rfl) (hplain : (backTo cpos (starEach [] X.env)).any (·.1) = false := by rfl)
    (hs : swapsWith (.Call (.Attribute (.Name n p) "pop" apos) [e] [] cpos) none pos.line X.env = pure false := by rfl) :
    PS X (.Expr (.Call (.Attribute (.Name n p) "pop" apos) [e] [] cpos) pos) (tS g W (sPop i fe)) := ss_pop hN hv hd hcd he hst hbase hfew hline hplain hs
theorem t_ins (i : Nat) (he : PE X e (tI g W x fe)) (he2 : PE X a (tI g W y fk)) (hN : X.N[i]? = some n := by rfl) (hv : Vis X.env.scope n := by first | exact Or.inl rfl | exact Or.inr (Or.inl rfl) | exact Or.inr (Or.inr rfl)) (hd : (n == ("__debug__" : Str)) = false := by decide) (hcd : (n == ("__classdict__" : Str)) = false := by decide)
    (hst : starEach [e, a] X.env = (false, eval e X.env) :: starEach [a] X.env := by exact starE (by rfl)) (hst2 : starEach [a] X.env = (false, eval a X.env) :: starEach [] X.env := by exact starE (by rfl))
    (hbase : attributeBase (.Name n p) "insert" X.env (eval (.Name n p) X.env) = eval (.Name n p) X.env := by rfl)
    (hfew : ((backTo cpos (starEach [e, a] X.env)).all (fun x => !x.1) && (backToKw cpos (keywordEach [] X.env)).all (fun x => x.1.isSome)
      && decide ([e, a].length + ([] : List Keyword).length + (if ([] : List Keyword).isEmpty then 0 else 1) < 30)) = true := by rfl)
    (hline : (apos.endLine == cpos.line) = true := by rfl) (hplain : (backTo cpos (starEach [a] X.env)).any (·.1) = false := by rfl)
    (hs : swapsWith (.Call (.Attribute (.Name n p) "insert" apos) [e, a] [] cpos) none pos.line X.env = pure false := by rfl) :
    PS X (.Expr (.Call (.Attribute (.Name n p) "insert" apos) [e, a] [] cpos) pos) (tS g W (sIns i fe fk)) := ss_ins hN hv hd hcd he he2 hst hst2 hbase hfew hline hplain hs
theorem t_putL (i : Nat) (he : PE X e (tI g W x fe)) (hk : PE X a (tI g W y k)) (hN : X.N[i]? = some n := by rfl) (hv : Vis X.env.scope n := by first | exact Or.inl rfl | exact Or.inr (Or.inl rfl) | exact Or.inr (Or.inr rfl)) (hd : (n == ("__debug__" : Str)) = false := by decide) (hcd : (n == ("__classdict__" : Str)) = false := by decide)
    (ha : ∀ v, assign (.Subscript (.Name n p) a pos) X.env v = (do
      let ov ← holding [v] (eval (.Name n p) X.env)
      let iv ← holding [v, ov] (eval a X.env)
      standAt pos
      holding [v, ov, iv] (setItem ov iv v)
      release [v, ov, iv] []) := by intro _; rfl)
    (hs : swapsWithSole [.Subscript (.Name n p) a pos] e spos.line X.env = pure false := by rfl) (hw : swappedStores [.Subscript (.Name n p) a pos] e X.env = pure none := by rfl) (h1 : (assignEach [.Subscript (.Name n p) a pos] X.env).map (·.2) = [assign (.Subscript (.Name n p) a pos) X.env] := by rfl) :
    PS X (.Assign [.Subscript (.Name n p) a pos] e spos) (tS g W (sPutL i k fe)) := ss_putL hN hv hd hcd he hk ha hs hw h1
end
end DI
/-! DI: list(d) of a dict (keys are no bools) -/
namespace DI
open PySem PySem.Spec PyProof.Rows L2
mutual
def unkey : NestedKey → D
  | .none => .non
  | .num i => .int i
  | .text x => .str x
  | .tup qs => .tup (unkeyL qs)
def unkeyL : List NestedKey → List D
  | [] => []
  | q :: qs => unkey q :: unkeyL qs
end
section
variable {g : Gv} {Z : Addr → Prop} {H : Hp}
mutual
theorem KRep.rep : ∀ {q : NestedKey} {v : V}, KRep g.K H q v → Rep g Z H (unkey q) v []
  | _, _, .none => by rw [unkey]; exact .non
  | _, _, .num i => by rw [unkey]; exact .int i
  | _, _, .text x => by rw [unkey]; exact .str x
  | _, _, .tup h hs => by rw [unkey]; exact .tup h (KReps.rep hs)
theorem KReps.rep : ∀ {qs : List NestedKey} {vs : List V}, KReps g.K H qs vs → Reps g Z H (unkeyL qs) vs []
  | _, _, .nil => by rw [unkeyL]; exact .nil
  | _, _, .cons h hs => by rw [unkeyL]; exact .cons (f := []) (fs := []) (KRep.rep h) (KReps.rep hs)
end
variable {X : Cx} {W : L2.WX} {e : Expr} {es : List Expr} {f : Sl → R D} {x : Bool} {pos p : Pos}
theorem paired_refs {ys : List (NestedKey × Addr × V)} {zs : List (NestedKey × Addr × Value)} (h : Paired (fun (p : NestedKey × Addr × V) (q : NestedKey × Addr × Value) => p.1 = q.1 ∧ p.2.1 = q.2.1 ∧ RelV p.2.2 q.2.2) ys zs) : (zs.map fun z => Value.ref z.2.1) = ys.map (Value.ref ∘ fun y => y.2.1) := by
  induction h with
  | nil => rfl
  | cons hp _ ih =>
    rw [List.map_cons, List.map_cons, ih, ← hp.2.1]
    rfl
theorem call_list_dN (hc : X.calm = true) : CallR X (.type "list") (fun xs H Q => ∃ a ys, xs = [V.ref a] ∧ H a = some (rawN X.prog X.w a ys) ∧ ∀ l, H l = none → Q (.ref l) (upd H l (.lst (ys.map fun y => V.ref y.2.1)))) := by
  intro pins s σ H xs us Q I r h
  obtain ⟨a, ys, rfl, ha, q⟩ := h
  obtain ⟨u, rfl, rx⟩ := vals1 r
  cases rx
  obtain ⟨⟨hl, hs, hn, zs, hq, ob, en, ep, h1, h2, h3, h4⟩, _⟩ := I.hok a _ ha
  have l1 : en.size = zs.length := by rw [← Array.length_toList, h4, List.length_map]
  have l2 : ys.length = zs.length := Paired.length hq
  refine PySem.W.kdl_call (kdl_raw hs h2 h3) (I.ok.hd hc) h1 (by omega) fun h' tk acc c kp st it => ?_
  have ea : acc.toList = zs.map fun z => Value.ref z.2.1 := by
    refine List.ext_getElem? fun j => ?_
    rw [List.getElem?_map]
    cases hj : acc.toList[j]? with
    | none =>
      have := List.getElem?_eq_none_iff.mp hj
      rw [Array.length_toList, it.1] at this
      rw [List.getElem?_eq_none (by omega)]; rfl
    | some v =>
      obtain ⟨d, hd, hv⟩ := it.2 j v (by rw [← Array.getElem?_toList]; exact hj)
      have e2 : en.toList[j]? = some d := by rw [Array.getElem?_toList]; exact hd
      rw [h4, List.getElem?_map] at e2
      cases hz : zs[j]? with
      | none => rw [hz] at e2; cases e2
      | some z =>
        rw [hz] at e2
        cases e2
        rw [hv]; rfl
  have eb : (ys.map fun y => V.ref y.2.1) = (ys.map fun y => y.2.1).map V.ref := by rw [List.map_map]; rfl
  have ec : acc.toList = (ys.map fun y => y.2.1).map Value.ref := by
    rw [ea, List.map_map]
    exact paired_refs hq
  have rv : Vals (ys.map fun y => V.ref y.2.1) acc.toList := by rw [eb, ec]; exact vals_refs _
  refine ⟨.ref s.heap.objs.size, _, I.laid (t' := tk) (o := .lst (ys.map fun y => V.ref y.2.1)) kp (Nat.le_refl _) ⟨by rw [List.length_map]; exact hl, acc.toList, c, rv, by rw [Array.toArray_toList]; exact st⟩, rfl, q _ (I.hok.fresh (Nat.le_refl _))⟩
/-- list(d) -/
def ldD : List D → R D
  | [.dct _ kvs] => .ok (.lst true (kvs.map fun p => unkey p.1))
  | _ => .bad
theorem reps_kv : ∀ {kv : List (Key × V)} {kvs : List (NestedKey × D)}, (kv.map fun p => nk p.1) = kvs.map (·.1) → Reps g Z H (kvs.map fun p => unkey p.1) (kv.map fun p => kV p.1) []
  | [], [], _ => .nil
  | [], _ :: _, h => by cases h
  | _ :: _, [], h => by cases h
  | (k, v) :: kv, (q, d) :: kvs, h => by
    obtain ⟨h1, h2⟩ := List.cons.inj h
    have h1 : nk k = q := h1
    subst h1
    refine .cons (f := []) (fs := []) ?_ (reps_kv h2)
    show Rep g Z H (unkey (nk k)) (kV k) []
    cases k with
    | inl i => show Rep g Z H (unkey (.num i)) (.int i) []; rw [unkey]; exact .int i
    | inr t => show Rep g Z H (unkey (.text t)) (.str t) []; rw [unkey]; exact .str t
theorem reps_nv : ∀ {ys : List (NestedKey × Addr × V)} {kvs : List (NestedKey × D)}, ys.map (·.1) = kvs.map (·.1) → (∀ p ∈ ys, KRep g.K H p.1 (.ref p.2.1) ∧ p.1.depth ≤ 8) → Reps g Z H (kvs.map fun p => unkey p.1) (ys.map fun y => V.ref y.2.1) []
  | [], [], _, _ => .nil
  | [], _ :: _, h, _ => by cases h
  | _ :: _, [], h, _ => by cases h
  | y :: ys, (q, d) :: kvs, h, hk => by
    obtain ⟨h1, h2⟩ := List.cons.inj h
    have h1 : y.1 = q := h1
    subst h1
    exact .cons (f := []) (fs := []) (KRep.rep (hk y List.mem_cons_self).1) (reps_nv h2 fun p hp => hk p (List.mem_cons_of_mem _ hp))
theorem opc_ld (G : Gof g X) : OpC g W true (fun xs H Q => rListD xs H Q ∨ ∃ a ys, xs = [V.ref a] ∧ H a = some (rawN X.prog X.w a ys) ∧ ∀ l, H l = none → Q (.ref l) (upd H l (.lst (ys.map fun y => V.ref y.2.1)))) ldD := by
  intro Z σ H ds vs fp Q hz r o
  by_cases hs : ∃ ow kvs, ds = [.dct ow kvs]
  · obtain ⟨ow, kvs, rfl⟩ := hs
    obtain ⟨v, rfl, rx⟩ := reps1 r
    have o : ∀ v H' Z' fp, PostE g true Z Z' H H' (D.lst true (kvs.map fun p => unkey p.1)) v fp → Q v H' := o
    cases rx with
    | @dK a kv _ _ _ h e hs w =>
      exact .inl ⟨a, kv, rfl, h, fun l hl => o _ _ Z [l] (post_new hz hl (.lst upd_same (reps_kv e) own_new) (.inr rfl))⟩
    | @dN a ys _ _ _ h e ne hk hs w =>
      refine .inr ⟨a, ys, rfl, by rw [G.P, G.w]; exact h, fun l hl => o _ _ Z [l] (post_new hz hl (.lst upd_same ((reps_nv e hk).same (fun _ z => z) (same_upd hl)) own_new) (.inr rfl))⟩
  · exfalso
    match ds, hs, o with
    | [], _, o => exact o.elim
    | x :: y :: r, _, o => cases x <;> exact o.elim
    | [x], hs, o =>
      cases x with
      | dct ow kvs => exact hs ⟨_, _, rfl⟩
      | _ => exact o.elim
def eLd (f : Sl → R D) : Sl → R D := fun σ => (f σ).bind fun r => (tupOf r).bind fun ds => ldD ds
theorem z_ld (hc : X.calm = true) (G : Gof g X) (ha : PA X (e :: es) (tIA g W x f)) (hm : X.mg "list" = none) (hg : Gl X "list" := by rfl) (he : starEach (e :: es) X.env = (false, eval e X.env) :: starEach es X.env := by exact starE (by rfl)) (hpl : (backTo pos (starEach es X.env)).any (·.1) = false := by rfl) :
    PE X (.Call (.Name "list" p) (e :: es) [] pos) (tI g W true (eLd f)) := se_callTy ((call_list_dK hc).or (call_list_dN hc)) (opc_ld G) hg hm (by decide +kernel) ha (by decide) (by decide) he hpl
end
end DI
/-! DI: tuples of the top; str(x) of a text too -/
namespace DI
open PySem PySem.Spec PyProof.Rows L2
/-- a tuple of numbers and texts that stands at the top -/
inductive AtomV : D → Value → Prop
  | int (i : Int) (t : Tok) : AtomV (.int i) (.int i t)
  | str (x : Str) (t : Tok) : AtomV (.str x) (.str x t)
def TupC (K : PySem.W.Frag) (mg : Str → Option Value) (n : Str) (ds : List D) : Prop := ∃ (a : Addr) (od : Option Addr) (its : List Value) (m : Nat) (sl : Array (Option Value)), mg n = some (.ref a) ∧ K.lookup a = some ⟨.type "tuple", od, .seq its.toArray m, sl⟩ ∧ its.length ≤ sizeLine ∧ Paired AtomV ds its
theorem atoms_reps {g : Gv} {Z : Addr → Prop} {H : Hp} {ds : List D} {its : List Value} (h : Paired AtomV ds its) : ∃ vs, Vals vs its ∧ Reps g Z H ds vs [] := by
  induction h with
  | nil => exact ⟨[], .nil, .nil⟩
  | cons hp _ ih =>
    obtain ⟨vs, h1, h2⟩ := ih
    cases hp with
    | int i t => exact ⟨.int i :: vs, .cons ⟨t, rfl⟩ h1, .cons (f := []) (fs := []) (.int i) h2⟩
    | str x t => exact ⟨.str x :: vs, .cons ⟨t, rfl⟩ h1, .cons (f := []) (fs := []) (.str x) h2⟩
section
variable {X : Cx} {g : Gv} {W : L2.WX} {e : Expr} {es : List Expr} {f : Sl → R D} {x : Bool} {pos p : Pos} {n : Str}
theorem z_gtup {ds : List D} (G : Gof g X) (h : TupC X.K X.mg n ds) (hg : Gl X n := by rfl) (hd : (n == ("__debug__" : Str)) = false := by decide) : PE X (.Name n pos) (tI g W true (eK (.tup ds))) := by
  obtain ⟨a, od, its, m, sl, hm, hl, hz, hp⟩ := h
  refine se_con (pe_glob (v := .ref a) hg hm rfl hd) fun Z H => ?_
  obtain ⟨vs, h1, h2⟩ := atoms_reps (g := g) (Z := Z) (H := H) hp
  exact .tup (.inr ⟨_, its.toArray, m, by rw [← G.K]; exact hl, rfl, rfl, by rw [List.size_toArray]; exact hz, h1⟩) h2
/-- str(x), x a text too -/
def stD : List D → R D
  | [.int i] => if i.natAbs.log2 < 1920 then .ok (.str (Str.ofString (toString i))) else .bad
  | [.str z] => .ok (.str z)
  | _ => .bad
theorem opc_st : OpC g W true (fun xs H Q => (∃ i, xs = [V.int i] ∧ i.natAbs.log2 < 1920 ∧ Q (.str (toString i)) H) ∨ ∃ a, xs = [V.str a] ∧ Q (.str a) H) stD := by
  intro Z σ H ds vs fp Q hz r o
  obtain ⟨x, v, rfl, rfl, rx, o⟩ := one_arg r o rfl (fun x _ _ => by cases x <;> rfl)
  cases x with
  | int i =>
    obtain ⟨rfl, _⟩ := rep_int rx
    obtain ⟨hc, o⟩ := Out.guard (show Out g W Z σ H (if i.natAbs.log2 < 1920 then R.ok (D.str (Str.ofString (toString i))) else .bad) _ from o)
    exact .inl ⟨i, rfl, hc, o _ H Z [] (post_sc hz (.str _))⟩
  | str z =>
    obtain ⟨rfl, _⟩ := rep_str rx
    exact .inr ⟨z, rfl, o _ H Z [] (post_sc hz (.str _))⟩
  | _ => exact o.elim
def eStr (f : Sl → R D) : Sl → R D := fun σ => (f σ).bind fun r => (tupOf r).bind fun ds => stD ds
theorem z_st (ha : PA X (e :: es) (tIA g W x f)) (hm : X.mg "str" = none) (hg : Gl X "str" := by rfl) (he : starEach (e :: es) X.env = (false, eval e X.env) :: starEach es X.env := by exact starE (by rfl)) (hpl : (backTo pos (starEach es X.env)).any (·.1) = false := by rfl) :
    PE X (.Call (.Name "str" p) (e :: es) [] pos) (tI g W true (eStr f)) := se_callTy (call_str_int.or SkE.call_str_str) opc_st hg hm (by decide +kernel) ha (by decide) (by decide) he hpl
end
/-! texts parted at a sign -/
theorem cut_uniq {c : Nat} : ∀ {a b A B : List Nat}, c ∉ a → c ∉ b → a ++ c :: A = b ++ c :: B → a = b ∧ A = B
  | [], [], A, B, _, _, h => ⟨rfl, (List.cons.inj h).2⟩
  | [], y :: b, A, B, _, hb, h => absurd ((List.cons.inj h).1 ▸ List.mem_cons_self) hb
  | x :: a, [], A, B, ha, _, h => absurd ((List.cons.inj h).1 ▸ List.mem_cons_self) ha
  | x :: a, y :: b, A, B, ha, hb, h => by
    obtain ⟨h1, h2⟩ := List.cons.inj h
    obtain ⟨e1, e2⟩ := cut_uniq (fun m => ha (List.mem_cons_of_mem _ m)) (fun m => hb (List.mem_cons_of_mem _ m)) h2
    exact ⟨by rw [h1, e1], e2⟩
theorem join_cons2 (y p q : Str) (r : List Str) : (Str.join y (p :: q :: r)).cps.toList = p.cps.toList ++ (y.cps.toList ++ (Str.join y (q :: r)).cps.toList) := by
  show (p ++ y ++ Str.join y (q :: r)).cps.toList = _
  show ((p.cps ++ y.cps) ++ (Str.join y (q :: r)).cps).toList = _
  simp
theorem join_uniq {c : Nat} : ∀ {ps qs : List Str}, ps ≠ [] → qs ≠ [] → (∀ p ∈ ps, c ∉ p.cps.toList) → (∀ q ∈ qs, c ∉ q.cps.toList) → (Str.join ⟨#[c]⟩ ps).cps.toList = (Str.join ⟨#[c]⟩ qs).cps.toList → ps = qs
  | [], _, h, _, _, _, _ => absurd rfl h
  | _, [], _, h, _, _, _ => absurd rfl h
  | [p], [q], _, _, _, _, e => by
    have e : p.cps.toList = q.cps.toList := e
    obtain ⟨⟨p⟩⟩ := p
    obtain ⟨⟨q⟩⟩ := q
    simp only at e
    rw [e]
  | [p], q :: q2 :: r, _, _, hp, _, e => by
    rw [join_cons2] at e
    have e : p.cps.toList = q.cps.toList ++ (c :: _) := e
    exact absurd (by rw [e]; simp) (hp p List.mem_cons_self)
  | p :: p2 :: r, [q], _, _, _, hq, e => by
    rw [join_cons2] at e
    have e : p.cps.toList ++ (c :: _) = q.cps.toList := e
    exact absurd (by rw [← e]; simp) (hq q List.mem_cons_self)
  | p :: p2 :: r, q :: q2 :: r', _, _, hp, hq, e => by
    rw [join_cons2, join_cons2] at e
    have e : p.cps.toList ++ (c :: (Str.join ⟨#[c]⟩ (p2 :: r)).cps.toList) = q.cps.toList ++ (c :: (Str.join ⟨#[c]⟩ (q2 :: r')).cps.toList) := e
    obtain ⟨e1, e2⟩ := cut_uniq (hp p List.mem_cons_self) (hq q List.mem_cons_self) e
    have := join_uniq (by simp) (by simp) (fun x hx => hp x (List.mem_cons_of_mem _ hx)) (fun x hx => hq x (List.mem_cons_of_mem _ hx)) e2
    rw [this]
    obtain ⟨⟨p⟩⟩ := p
    obtain ⟨⟨q⟩⟩ := q
    simp only at e1
    rw [e1]
theorem split_ne (x y : Str) : Txt.split x y ≠ [] := by
  unfold Txt.split
  split
  · simp
  · split
    · simp
    · rw [StrLaws.partsBetween_eq]
      obtain ⟨p, r, e⟩ := StrLaws.partsFrom_ne x y.length 0 (Builtin.Str.occurrences x y 0 x.length (x.length + 1))
      rw [e]; simp
end DI
set_option maxHeartbeats 1000000
/-! DI: zip of two tuples whose pairs are kept -/
namespace ZQ
open PySem
open PySem.Sem (wp)
abbrev Z5 (h : Heap) (z TI TO : Addr) (f0 : Value) (f : Bool) : Prop := h.get? z = some { cls := .type "zip", dict := none, data := .fields #[f0, .bool f, .bool false, .ref TI, .ref TO], slots := #[] }
def Own (f0 : Value) : Prop := f0 = .none ∨ ∃ T : Addr, f0 = rawInt T
def ZS (h : Heap) (z TI TO : Addr) : Prop := ∃ f0 f, Own f0 ∧ Z5 h z TI TO f0 f
section
variable {prog : Program} {w : World} {A : Around} {E : Value → Shared → Prop} {s : Shared}
theorem owned {z TI TO : Addr} {f0 : Value} {f : Bool} {Q : Bool → Shared → Prop} (hz : Z5 s.heap z TI TO f0 f) (ho : Own f0) (h1 : Q true s) (h2 : ∀ h', Z5 h' z TI TO f0 true → Heap.SameBut z s.heap h' → Q false { s with heap := h' }) :
    wpAny (model prog w) A (Builtin.SmallTypes.ownedTupleIsFree (.ref z)) Q E s := by
  unfold Builtin.SmallTypes.ownedTupleIsFree
  rcases ho with rfl | ⟨T, rfl⟩
  · exact wpAny_bind (wpAny_field hz rfl (x := .none) rfl (wpAny_pure h1))
  · refine wpAny_bind (wpAny_field hz rfl (x := rawInt T) rfl ?_)
    show wpAny _ _ (loadIfAlive ((T : Int).toNat) >>= _) _ _ _
    rw [Int.toNat_natCast]
    refine wpAny_bind ?_
    have key : ∀ P : Option Obj → Shared → Prop, P (s.heap.get? T) s → wpAny (model prog w) A (loadIfAlive T) P E s := fun P h _ _ _ => h
    refine key _ ?_
    cases hT : s.heap.get? T with
    | none =>
      simp only [Option.isNone_none, if_true]
      exact wpAny_pure h1
    | some o =>
      simp only [Option.isNone_some, Bool.false_eq_true, if_false]
      refine wpAny_bind (wpAny_field hz rfl (x := .bool f) rfl ?_)
      cases f with
      | true =>
        rw [if_neg (show ¬ ((Value.bool true != Value.bool true) = true) from Bool.false_ne_true)]
        exact wpAny_pure (h2 s.heap hz (Heap.SameBut.refl _ _))
      | false =>
        rw [if_pos (show (Value.bool false != Value.bool true) = true from rfl)]
        exact wpAny_bind (wpAny_setField_rec hz (by simp) fun h₁ hz₁ hs₁ => wpAny_pure (h2 h₁ hz₁ hs₁))
/-- what one turn leaves -/
structure After (h h' : Heap) (z TI TO i1 i2 l1 l2 : Addr) (k1 k2 : Nat) (x y : Value) : Prop where
  zs : ZS h' z TI TO
  to : ∃ a b, IsPair h' TO a b
  it1 : h'.IsTupleIter i1 l1 (k1 + 1)
  it2 : h'.IsTupleIter i2 l2 (k2 + 1)
  new : IsPair h' h.objs.size x y
  size : h'.objs.size = h.objs.size + 1
  keep : ∀ c o, c ≠ z → c ≠ TO → c ≠ i1 → c ≠ i2 → h.get? c = some o → h'.get? c = some o
open RZ in
theorem next_item {z TI TO i1 i2 l1 l2 : Addr} {k1 k2 : Nat} {xs ys : Array Value} {x y a b : Value} {Q : Value → Shared → Prop} (D : ZipApart z TI TO i1 i2 l1 l2)
    (hz : ZS s.heap z TI TO) (hTI : IsPair s.heap TI (.ref i1) (.ref i2)) (hTO : IsPair s.heap TO a b)
    (h1 : s.heap.IsTupleIter i1 l1 k1) (h2 : s.heap.IsTupleIter i2 l2 k2) (hl1 : s.heap.IsTuple l1 xs) (hl2 : s.heap.IsTuple l2 ys) (hx : xs[k1]? = some x) (hy : ys[k2]? = some y)
    (hQ : ∀ h', After s.heap h' z TI TO i1 i2 l1 l2 k1 k2 x y → Q (.ref s.heap.objs.size) { s with heap := h' }) :
    wpAny (model prog w) A (Builtin.«zip.__next__» ⟨[.ref z], []⟩) (fun fin s' => ∃ v, fin = .done (.ret v) ∧ Q v s') E s := by
  obtain ⟨f0, f, ho, hz⟩ := hz
  show wpAny _ _ (field (.ref z) 2 >>= _) _ _ _
  refine wpAny_bind (wpAny_field hz rfl (x := .bool false) rfl ?_)
  show wpAny _ _ (field (.ref z) 3 >>= _) _ _ _
  refine wpAny_bind (wpAny_field hz rfl (x := .ref TI) rfl ?_)
  refine wpAny_bind (wpAny_seqItems hTI rfl ?_)
  show wpAny _ _ (Builtin.SmallTypes.ownedTupleIsFree (.ref z) >>= _) _ _ _
  refine wpAny_bind (owned hz ho ?_ fun h₁ hz₁ hs₁ => ?_)
  · simp only [if_true]
    refine wpAny_bind (wpAny_rule ?_)
    refine wpAny_bind (wpAny_field hz rfl (x := .ref TO) rfl ?_)
    refine wpAny_bind (wpAny_setField_rec hz (by simp) fun h₁ hz₁ hs₁ => ?_)
    replace hz₁ : Z5 h₁ z TI TO .ellipsis f := hz₁
    refine wpAny_bind ?_
    simp only [List.zipIdx_cons, List.zipIdx_nil, List.forIn_cons, List.forIn_nil]
    refine wpAny_bind (wpAny_bind (wpAny_onRaise ?_))
    show wpAny _ _ (Builtin.SmallTypes.nextOf (.ref i1) >>= _) _ _ _
    refine wpAny_bind (nextOf_tuple_item (h1.extBut hs₁.extBut D.i1z) (hl1.extBut hs₁.extBut D.l1z) hx fun h₂ h1₂ hs₂ => wpAny_pure ?_)
    have hTO₂ : IsPair h₂ TO a b := hs₂.extBut _ _ D.TOi1 (hs₁.extBut _ _ D.TOz hTO)
    refine wpAny_bind (wpAny_seqItems hTO₂ rfl ?_)
    refine wpAny_bind (wpAny_updateSeq_pair hTO₂ fun h₃ hTO₃ hs₃ => ?_)
    replace hTO₃ : IsPair h₃ TO x b := hTO₃
    refine wpAny_bind (wpAny_letGo (wpAny_pure ?_))
    refine wpAny_bind (wpAny_bind (wpAny_onRaise ?_))
    show wpAny _ _ (Builtin.SmallTypes.nextOf (.ref i2) >>= _) _ _ _
    refine wpAny_bind (nextOf_tuple_item (((h2.extBut hs₁.extBut D.i2z).extBut hs₂.extBut D.i12.symm).extBut hs₃.extBut D.TOi2.symm)
      (((hl2.extBut hs₁.extBut D.l2z).extBut hs₂.extBut D.l2i1).extBut hs₃.extBut D.l2TO) hy fun h₄ h2₄ hs₄ => wpAny_pure ?_)
    have hTO₄ : IsPair h₄ TO x b := hs₄.extBut _ _ D.TOi2 hTO₃
    refine wpAny_bind (wpAny_seqItems hTO₄ rfl ?_)
    refine wpAny_bind (wpAny_updateSeq_pair hTO₄ fun h₅ hTO₅ hs₅ => ?_)
    replace hTO₅ : IsPair h₅ TO x y := hTO₅
    refine wpAny_bind (wpAny_letGo (wpAny_pure (wpAny_pure ?_)))
    refine wpAny_bind (wpAny_seqItems hTO₅ rfl ?_)
    refine wpAny_bind (wpAny_newTuple ?_)
    have hsz : h₅.objs.size = s.heap.objs.size := by rw [hs₅.1, hs₄.1, hs₃.1, hs₂.1, hs₁.1]
    have hz₅ : Z5 h₅ z TI TO .ellipsis f := hs₅.extBut _ _ D.TOz.symm (hs₄.extBut _ _ D.i2z.symm (hs₃.extBut _ _ D.TOz.symm (hs₂.extBut _ _ D.i1z.symm hz₁)))
    have hk₅ : ∀ c o, c ≠ z → c ≠ TO → c ≠ i1 → c ≠ i2 → s.heap.get? c = some o → h₅.get? c = some o := fun c o c1 c2 c3 c4 e =>
      hs₅.extBut _ _ c2 (hs₄.extBut _ _ c4 (hs₃.extBut _ _ c2 (hs₂.extBut _ _ c3 (hs₁.extBut _ _ c1 e))))
    have h1₅ : h₅.IsTupleIter i1 l1 (k1 + 1) := ((h1₂.extBut hs₃.extBut D.TOi1.symm).extBut hs₄.extBut D.i12).extBut hs₅.extBut D.TOi1.symm
    have h2₅ : h₅.IsTupleIter i2 l2 (k2 + 1) := h2₄.extBut hs₅.extBut D.TOi2.symm
    have hzlt : z < h₅.objs.size := Heap.lt_size hz₅
    show wpAny _ _ (Builtin.SmallTypes.ownedTupleHandOut (.ref z) (.ref h₅.objs.size) >>= _) _ _ _
    refine wpAny_bind ?_
    unfold Builtin.SmallTypes.ownedTupleHandOut
    have hz₆ : Z5 (h₅.push { cls := .type "tuple", data := .seq #[x, y] }) z TI TO .ellipsis f := Heap.get?_push_of_some _ hz₅
    refine wpAny_bind (wpAny_setField_rec hz₆ (by simp) fun h₇ hz₇ hs₇ => ?_)
    replace hz₇ : Z5 h₇ z TI TO (rawInt h₅.objs.size) f := hz₇
    refine wpAny_setField_rec hz₇ (by simp) fun h₈ hz₈ hs₈ => ?_
    replace hz₈ : Z5 h₈ z TI TO (rawInt h₅.objs.size) false := hz₈
    have up : ∀ c o, c ≠ z → h₅.get? c = some o → h₈.get? c = some o := fun c o c1 e => hs₈.extBut _ _ c1 (hs₇.extBut _ _ c1 (Heap.get?_push_of_some _ e))
    have hT₈ : IsPair h₈ h₅.objs.size x y := hs₈.extBut _ _ (Nat.ne_of_gt hzlt) (hs₇.extBut _ _ (Nat.ne_of_gt hzlt) (Heap.get?_push_size _ rfl))
    have hz8 : h₈.objs.size = h₅.objs.size + 1 := by rw [hs₈.1, hs₇.1, Heap.size_push]
    rw [hsz] at hz₈ hT₈ hz8
    refine wpAny_pure ⟨_, rfl, ?_⟩
    show Q (.ref h₅.objs.size) _
    rw [hsz]
    exact hQ h₈ ⟨⟨_, _, .inr ⟨_, rfl⟩, hz₈⟩, ⟨_, _, up _ _ D.TOz hTO₅⟩, h1₅.at fun o e => up _ o D.i1z e, h2₅.at fun o e => up _ o D.i2z e, hT₈, hz8, fun c o c1 c2 c3 c4 e => up c o c1 (hk₅ c o c1 c2 c3 c4 e)⟩
  · simp only [Bool.false_eq_true, if_false]
    refine wpAny_bind ?_
    rw [← Array.forIn_toList]
    simp only [List.forIn_cons, List.forIn_nil]
    refine wpAny_bind (wpAny_bind (wpAny_holding ?_))
    show wpAny _ _ (Builtin.SmallTypes.nextOf (.ref i1) >>= _) _ _ _
    refine wpAny_bind (nextOf_tuple_item (s := { s with heap := h₁ }) (h1.extBut hs₁.extBut D.i1z) (hl1.extBut hs₁.extBut D.l1z) hx fun h₂ h1₂ hs₂ => wpAny_pure ?_)
    refine wpAny_pure ?_
    refine wpAny_bind (wpAny_bind (wpAny_holding ?_))
    show wpAny _ _ (Builtin.SmallTypes.nextOf (.ref i2) >>= _) _ _ _
    refine wpAny_bind (nextOf_tuple_item (s := { s with heap := h₂ }) ((h2.extBut hs₁.extBut D.i2z).extBut hs₂.extBut D.i12.symm) ((hl2.extBut hs₁.extBut D.l2z).extBut hs₂.extBut D.l2i1) hy fun h₃ h2₃ hs₃ => wpAny_pure ?_)
    refine wpAny_pure (wpAny_pure ?_)
    show wpAny _ _ (newTuple [x, y] >>= _) _ _ _
    refine wpAny_bind (wpAny_newTuple ?_)
    have hsz : h₃.objs.size = s.heap.objs.size := by rw [hs₃.1, hs₂.1, hs₁.1]
    have hz₃ : Z5 h₃ z TI TO f0 true := hs₃.extBut _ _ D.i2z.symm (hs₂.extBut _ _ D.i1z.symm hz₁)
    have hk : ∀ c o, c ≠ z → c ≠ i1 → c ≠ i2 → s.heap.get? c = some o → h₃.get? c = some o := fun c o c1 c2 c3 e => hs₃.extBut _ _ c3 (hs₂.extBut _ _ c2 (hs₁.extBut _ _ c1 e))
    have h1₃ : h₃.IsTupleIter i1 l1 (k1 + 1) := h1₂.extBut hs₃.extBut D.i12
    refine wpAny_pure ⟨_, rfl, ?_⟩
    show Q (.ref h₃.objs.size) _
    have hp : IsPair (h₃.push { cls := .type "tuple", data := .seq #[x, y] }) h₃.objs.size x y := Heap.get?_push_size _ rfl
    have hz4 : (h₃.push { cls := .type "tuple", data := .seq #[x, y] }).objs.size = h₃.objs.size + 1 := Heap.size_push ..
    rw [hsz] at hp hz4 ⊢
    exact hQ _ ⟨⟨_, _, ho, Heap.get?_push_of_some _ hz₃⟩, ⟨a, b, Heap.get?_push_of_some _ (hk _ _ D.TOz D.TOi1 D.TOi2 hTO)⟩, h1₃.at fun o e => Heap.get?_push_of_some _ e, h2₃.at fun o e => Heap.get?_push_of_some _ e, hp, hz4, fun c o c1 _ c3 c4 e => Heap.get?_push_of_some _ (hk c o c1 c3 c4 e)⟩
open RZ in
theorem next_end {z TI TO i1 i2 l1 l2 : Addr} {k1 k2 : Nat} {xs ys : Array Value} {a b : Value} {Q : Fin → Shared → Prop} (hh : A.handled = none) (D : ZipApart z TI TO i1 i2 l1 l2)
    (hz : ZS s.heap z TI TO) (hTI : IsPair s.heap TI (.ref i1) (.ref i2)) (hTO : IsPair s.heap TO a b)
    (h1 : s.heap.IsTupleIter i1 l1 k1) (h2 : s.heap.IsTupleIter i2 l2 k2) (hl1 : s.heap.IsTuple l1 xs) (hl2 : s.heap.IsTuple l2 ys) (hend : xs[k1]? = none ∨ ys[k2]? = none)
    (hE : ∀ h' e, (∀ c o, c ≠ z → c ≠ TO → c ≠ i1 → c ≠ i2 → s.heap.get? c = some o → h'.get? c = some o) → (∃ o, h'.get? e = some o ∧ o.cls = .type "StopIteration") → E (.ref e) { s with heap := h' }) :
    wpAny (model prog w) A (Builtin.«zip.__next__» ⟨[.ref z], []⟩) Q E s := by
  obtain ⟨f0, f, ho, hz⟩ := hz
  show wpAny _ _ (field (.ref z) 2 >>= _) _ _ _
  refine wpAny_bind (wpAny_field hz rfl (x := .bool false) rfl ?_)
  show wpAny _ _ (field (.ref z) 3 >>= _) _ _ _
  refine wpAny_bind (wpAny_field hz rfl (x := .ref TI) rfl ?_)
  refine wpAny_bind (wpAny_seqItems hTI rfl ?_)
  show wpAny _ _ (Builtin.SmallTypes.ownedTupleIsFree (.ref z) >>= _) _ _ _
  refine wpAny_bind (owned hz ho ?_ fun h₁ hz₁ hs₁ => ?_)
  · simp only [if_true]
    refine wpAny_bind (wpAny_rule ?_)
    refine wpAny_bind (wpAny_field hz rfl (x := .ref TO) rfl ?_)
    refine wpAny_bind (wpAny_setField_rec hz (by simp) fun h₁ hz₁ hs₁ => ?_)
    replace hz₁ : Z5 h₁ z TI TO .ellipsis f := hz₁
    refine wpAny_bind ?_
    simp only [List.zipIdx_cons, List.zipIdx_nil, List.forIn_cons, List.forIn_nil]
    refine wpAny_bind (wpAny_bind (wpAny_onRaise ?_))
    show wpAny _ _ (Builtin.SmallTypes.nextOf (.ref i1) >>= _) _ _ _
    cases hx : xs[k1]? with
    | none =>
      refine wpAny_bind (nextOf_tuple_end hh (h1.extBut hs₁.extBut D.i1z) (hl1.extBut hs₁.extBut D.l1z) hx fun h₂ e hs₂ he => ?_)
      obtain ⟨oe, hoe, hce⟩ := he
      have hz₂ : Z5 h₂ z TI TO .ellipsis f := hs₂ _ _ D.i1z.symm hz₁
      have hez : e ≠ z := fun x => by subst x; rw [hz₂] at hoe; cases hoe; simp at hce
      refine wpAny_setField_rec hz₂ (by simp) fun h₃ _ hs₃ => hE h₃ e (fun c o c1 _ c3 _ x => hs₃.extBut _ _ c1 (hs₂ _ _ c3 (hs₁.extBut _ _ c1 x))) ⟨oe, hs₃.extBut _ _ hez hoe, hce⟩
    | some x =>
      have hy : ys[k2]? = none := by rcases hend with h | h; rw [hx] at h; cases h; exact h
      refine wpAny_bind (nextOf_tuple_item (h1.extBut hs₁.extBut D.i1z) (hl1.extBut hs₁.extBut D.l1z) hx fun h₂ h1₂ hs₂ => wpAny_pure ?_)
      have hTO₂ : IsPair h₂ TO a b := hs₂.extBut _ _ D.TOi1 (hs₁.extBut _ _ D.TOz hTO)
      refine wpAny_bind (wpAny_seqItems hTO₂ rfl ?_)
      refine wpAny_bind (wpAny_updateSeq_pair hTO₂ fun h₃ hTO₃ hs₃ => ?_)
      refine wpAny_bind (wpAny_letGo (wpAny_pure ?_))
      refine wpAny_bind (wpAny_bind (wpAny_onRaise ?_))
      show wpAny _ _ (Builtin.SmallTypes.nextOf (.ref i2) >>= _) _ _ _
      refine wpAny_bind (nextOf_tuple_end hh (((h2.extBut hs₁.extBut D.i2z).extBut hs₂.extBut D.i12.symm).extBut hs₃.extBut D.TOi2.symm)
        (((hl2.extBut hs₁.extBut D.l2z).extBut hs₂.extBut D.l2i1).extBut hs₃.extBut D.l2TO) hy fun h₄ e hs₄ he => ?_)
      obtain ⟨oe, hoe, hce⟩ := he
      have hz₄ : Z5 h₄ z TI TO .ellipsis f := hs₄ _ _ D.i2z.symm (hs₃.extBut _ _ D.TOz.symm (hs₂.extBut _ _ D.i1z.symm hz₁))
      have hez : e ≠ z := fun x => by subst x; rw [hz₄] at hoe; cases hoe; simp at hce
      refine wpAny_setField_rec hz₄ (by simp) fun h₅ _ hs₅ => hE h₅ e (fun c o c1 c2 c3 c4 x => hs₅.extBut _ _ c1 (hs₄ _ _ c4 (hs₃.extBut _ _ c2 (hs₂.extBut _ _ c3 (hs₁.extBut _ _ c1 x))))) ⟨oe, hs₅.extBut _ _ hez hoe, hce⟩
  · simp only [Bool.false_eq_true, if_false]
    refine wpAny_bind ?_
    rw [← Array.forIn_toList]
    simp only [List.forIn_cons, List.forIn_nil]
    refine wpAny_bind (wpAny_bind (wpAny_holding ?_))
    show wpAny _ _ (Builtin.SmallTypes.nextOf (.ref i1) >>= _) _ _ _
    cases hx : xs[k1]? with
    | none =>
      refine wpAny_bind (nextOf_tuple_end (s := { s with heap := h₁ }) hh (h1.extBut hs₁.extBut D.i1z) (hl1.extBut hs₁.extBut D.l1z) hx fun h₂ e hs₂ he => ?_)
      exact hE h₂ e (fun c o c1 _ c2 _ x => hs₂ _ _ c2 (hs₁.extBut _ _ c1 x)) he
    | some x =>
      have hy : ys[k2]? = none := by rcases hend with h | h; rw [hx] at h; cases h; exact h
      refine wpAny_bind (nextOf_tuple_item (s := { s with heap := h₁ }) (h1.extBut hs₁.extBut D.i1z) (hl1.extBut hs₁.extBut D.l1z) hx fun h₂ h1₂ hs₂ => wpAny_pure ?_)
      refine wpAny_pure ?_
      refine wpAny_bind (wpAny_bind (wpAny_holding ?_))
      show wpAny _ _ (Builtin.SmallTypes.nextOf (.ref i2) >>= _) _ _ _
      refine wpAny_bind (nextOf_tuple_end (s := { s with heap := h₂ }) hh ((h2.extBut hs₁.extBut D.i2z).extBut hs₂.extBut D.i12.symm) ((hl2.extBut hs₁.extBut D.l2z).extBut hs₂.extBut D.l2i1) hy fun h₃ e hs₃ he => ?_)
      exact hE h₃ e (fun c o c1 _ c2 c3 x => hs₃ _ _ c3 (hs₂.extBut _ _ c2 (hs₁.extBut _ _ c1 x))) he
theorem zty {z TI TO : Addr} (hz : ZS s.heap z TI TO) : s.TypeIs (.ref z) "zip" := let ⟨_, _, _, h⟩ := hz; ⟨_, h, rfl⟩
theorem pyNext_item {z TI TO i1 i2 l1 l2 : Addr} {k1 k2 : Nat} {xs ys : Array Value} {x y a b : Value} {Q : Option Value → Shared → Prop} (D : ZipApart z TI TO i1 i2 l1 l2)
    (hz : ZS s.heap z TI TO) (hTI : IsPair s.heap TI (.ref i1) (.ref i2)) (hTO : IsPair s.heap TO a b)
    (h1 : s.heap.IsTupleIter i1 l1 k1) (h2 : s.heap.IsTupleIter i2 l2 k2) (hl1 : s.heap.IsTuple l1 xs) (hl2 : s.heap.IsTuple l2 ys) (hx : xs[k1]? = some x) (hy : ys[k2]? = some y)
    (hQ : ∀ h', After s.heap h' z TI TO i1 i2 l1 l2 k1 k2 x y → Q (some (.ref s.heap.objs.size)) { s with heap := h' }) :
    wpAny (model prog w) A (pyNext (.ref z)) Q E s := by
  unfold pyNext
  exact wpAny_bind (wpAny_attempt (wpAny_callSpecial?_slot (name := Str.ofString "__next__") (zty hz) F.slot_zip_next
    (wpAny_call_entry F.slot_zip_next (zty hz) F.entry_zip_next
      (next_item D hz hTI hTO h1 h2 hl1 hl2 hx hy fun h' a1 => wpAny_pure (hQ h' a1)) (F.args_zip_next_1 _))))
theorem pyNext_end {z TI TO i1 i2 l1 l2 : Addr} {k1 k2 : Nat} {xs ys : Array Value} {a b : Value} {Q : Option Value → Shared → Prop} (hh : A.handled = none) (D : ZipApart z TI TO i1 i2 l1 l2)
    (hz : ZS s.heap z TI TO) (hTI : IsPair s.heap TI (.ref i1) (.ref i2)) (hTO : IsPair s.heap TO a b)
    (h1 : s.heap.IsTupleIter i1 l1 k1) (h2 : s.heap.IsTupleIter i2 l2 k2) (hl1 : s.heap.IsTuple l1 xs) (hl2 : s.heap.IsTuple l2 ys) (hend : xs[k1]? = none ∨ ys[k2]? = none)
    (hQ : ∀ h', (∀ c o, c ≠ z → c ≠ TO → c ≠ i1 → c ≠ i2 → s.heap.get? c = some o → h'.get? c = some o) → Q none { s with heap := h' }) : wpAny (model prog w) A (pyNext (.ref z)) Q E s := by
  unfold pyNext
  refine wpAny_bind (wpAny_attempt (wpAny_callSpecial?_slot (name := Str.ofString "__next__") (zty hz) F.slot_zip_next
    (wpAny_call_entry F.slot_zip_next (zty hz) F.entry_zip_next (next_end hh D hz hTI hTO h1 h2 hl1 hl2 hend fun h' e hk he => ?_) (F.args_zip_next_1 _))))
  obtain ⟨o, ho, hc⟩ := he
  refine wpAny_bind (wpAny_isInstance (T := "StopIteration") (b := true) ⟨o, ho, hc⟩ isSubtype_stop ?_)
  exact wpAny_pure (hQ _ hk)
theorem nextOf_item {z TI TO i1 i2 l1 l2 : Addr} {k1 k2 : Nat} {xs ys : Array Value} {x y a b : Value} {Q : Value → Shared → Prop} (D : ZipApart z TI TO i1 i2 l1 l2)
    (hz : ZS s.heap z TI TO) (hTI : IsPair s.heap TI (.ref i1) (.ref i2)) (hTO : IsPair s.heap TO a b)
    (h1 : s.heap.IsTupleIter i1 l1 k1) (h2 : s.heap.IsTupleIter i2 l2 k2) (hl1 : s.heap.IsTuple l1 xs) (hl2 : s.heap.IsTuple l2 ys) (hx : xs[k1]? = some x) (hy : ys[k2]? = some y)
    (hQ : ∀ h', After s.heap h' z TI TO i1 i2 l1 l2 k1 k2 x y → Q (.ref s.heap.objs.size) { s with heap := h' }) :
    wpAny (model prog w) A (Builtin.SmallTypes.nextOf (.ref z)) Q E s := by
  unfold Builtin.SmallTypes.nextOf
  exact wpAny_bind (wpAny_callSpecial?_slot (name := Str.ofString "__next__") (zty hz) F.slot_zip_next
    (wpAny_call_entry F.slot_zip_next (zty hz) F.entry_zip_next
      (next_item D hz hTI hTO h1 h2 hl1 hl2 hx hy fun h' a1 => wpAny_pure (hQ h' a1)) (F.args_zip_next_1 _)))
theorem nextOf_end {z TI TO i1 i2 l1 l2 : Addr} {k1 k2 : Nat} {xs ys : Array Value} {a b : Value} {Q : Value → Shared → Prop} (hh : A.handled = none) (D : ZipApart z TI TO i1 i2 l1 l2)
    (hz : ZS s.heap z TI TO) (hTI : IsPair s.heap TI (.ref i1) (.ref i2)) (hTO : IsPair s.heap TO a b)
    (h1 : s.heap.IsTupleIter i1 l1 k1) (h2 : s.heap.IsTupleIter i2 l2 k2) (hl1 : s.heap.IsTuple l1 xs) (hl2 : s.heap.IsTuple l2 ys) (hend : xs[k1]? = none ∨ ys[k2]? = none)
    (hE : ∀ h' e, (∀ c o, c ≠ z → c ≠ TO → c ≠ i1 → c ≠ i2 → s.heap.get? c = some o → h'.get? c = some o) → (∃ o, h'.get? e = some o ∧ o.cls = .type "StopIteration") → E (.ref e) { s with heap := h' }) : wpAny (model prog w) A (Builtin.SmallTypes.nextOf (.ref z)) Q E s := by
  unfold Builtin.SmallTypes.nextOf
  exact wpAny_bind (wpAny_callSpecial?_slot (name := Str.ofString "__next__") (zty hz) F.slot_zip_next
    (wpAny_call_entry F.slot_zip_next (zty hz) F.entry_zip_next (next_end hh D hz hTI hTO h1 h2 hl1 hl2 hend hE) (F.args_zip_next_1 _)))
end
end ZQ
set_option maxHeartbeats 1000000
/-! DI: for p in zip(t, u); for k, p in enumerate(zip(t, u)) -/
namespace ZQ
open PySem
open PySem.Sem (wp)
section
variable {prog : Program} {w : World} {A : Around} {E : Value → Shared → Prop} {s : Shared}
theorem pyIter_zs {z TI TO : Addr} {Q : Value → Shared → Prop} (hz : ZS s.heap z TI TO) (h : Q (.ref z) s) : wpAny (model prog w) A (pyIter (.ref z)) Q E s := by
  refine wpAny_pyIter_slot (zty hz) F.slot_zip_iter (wpAny_call_entry F.slot_zip_iter (zty hz) F.entry_zip_iter ?_ (F.args_zip_iter_1 _))
  show wpAny _ _ (ret (.ref z)) _ _ s
  exact wpAny_pure ⟨_, rfl, "zip", _, zty hz, F.slot_zip_next.lookup, h⟩
theorem enum_next {e it : Addr} {i : Nat} {old : Value} {P : Value → Heap → Prop} {Q : Value → Shared → Prop} (he : IsEnum s.heap e it i old)
    (hn : wpAny (model prog w) A (Builtin.SmallTypes.nextOf (.ref it)) (fun x s1 => ∃ h1, s1 = { s with heap := h1 } ∧ IsEnum h1 e it i old ∧ P x h1) E s)
    (hQ : ∀ x h1 h', P x h1 → IsEnumOut h' e it ((i : Int) + 1) x h1.objs.size → h'.get? h1.objs.size = some { cls := .type "tuple", data := .seq #[.int i s.toks, x] } → h'.objs.size = h1.objs.size + 1 →
      (∀ b o, b ≠ e → h1.get? b = some o → h'.get? b = some o) → Q (.ref h1.objs.size) { s with heap := h', toks := s.toks + 1 }) :
    wpAny (model prog w) A (Builtin.«enumerate.__next__» ⟨[.ref e], []⟩) (fun fin s' => ∃ v, fin = .done (.ret v) ∧ Q v s') E s := by
  obtain ⟨hp, g, d, tk, os⟩ := s
  show wpAny _ _ (field (.ref e) 2 >>= _) _ _ _
  refine wpAny_bind (wpAny_field he rfl (x := .ref it) rfl ?_)
  refine wpAny_bind (L2.thn hn fun x s1 ⟨h₁, e1, he₁, p⟩ => ?_)
  subst e1
  show wpAny _ _ (field (.ref e) 3 >>= _) _ _ ⟨h₁, g, d, tk, os⟩
  refine wpAny_bind (wpAny_field he₁ rfl (x := rawInt i) rfl ?_)
  show wpAny _ _ (field (.ref e) 4 >>= _) _ _ ⟨h₁, g, d, tk, os⟩
  refine wpAny_bind (wpAny_field he₁ rfl (x := .none) rfl ?_)
  show wpAny _ _ (mkInt i >>= _) _ _ ⟨h₁, g, d, tk, os⟩
  refine wpAny_bind (wpAny_mkInt ?_)
  show wpAny _ _ (setField (.ref e) 3 (rawInt ((i : Int) + 1)) >>= _) _ _ ⟨h₁, g, d, tk + 1, os⟩
  refine wpAny_bind (wpAny_setField_rec he₁ (by simp) fun h₂ he₂ hs₂ => ?_)
  replace hs₂ : Heap.SameBut e h₁ h₂ := hs₂
  replace he₂ : IsEnum h₂ e it ((i : Int) + 1) old := he₂
  show wpAny _ _ (setField (.ref e) 4 .none >>= _) _ _ ⟨h₂, g, d, tk + 1, os⟩
  refine wpAny_bind (wpAny_setField_rec he₂ (by simp) fun h₃ he₃ hs₃ => ?_)
  replace hs₃ : Heap.SameBut e h₂ h₃ := hs₃
  replace he₃ : IsEnum h₃ e it ((i : Int) + 1) old := he₃
  show wpAny _ _ (newTuple [.int i tk, x] >>= _) _ _ ⟨h₃, g, d, tk + 1, os⟩
  refine wpAny_bind (wpAny_newTuple ?_)
  have he₄ : IsEnum (h₃.push { cls := .type "tuple", data := .seq #[.int i tk, x] }) e it ((i : Int) + 1) old := Heap.get?_push_of_some _ he₃
  generalize hh₄ : h₃.push { cls := .type "tuple", data := .seq #[.int i tk, x] } = h₄ at he₄
  have hsz : h₃.objs.size = h₁.objs.size := by rw [hs₃.1, hs₂.1]
  have hel : e < h₁.objs.size := Heap.lt_size he₁
  have ht₄ : h₄.get? h₁.objs.size = some { cls := .type "tuple", data := .seq #[.int i tk, x] } := by rw [← hh₄, ← hsz]; exact Heap.get?_push_size _ rfl
  have hz₄ : h₄.objs.size = h₁.objs.size + 1 := by rw [← hh₄, Heap.size_push, hsz]
  have hk₄ : ∀ b o, b ≠ e → h₁.get? b = some o → h₄.get? b = some o := fun b o hbe hb => by
    rw [← hh₄]; exact Heap.get?_push_of_some _ (hs₃.extBut b o hbe (hs₂.extBut b o hbe hb))
  show wpAny _ _ (Builtin.SmallTypes.ownedTupleIsFree (.ref e) >>= _) _ _ ⟨h₄, g, d, tk + 1, os⟩
  rw [hsz]
  refine wpAny_bind ?_
  · unfold Builtin.SmallTypes.ownedTupleIsFree
    refine wpAny_bind (wpAny_field he₄ rfl (x := .none) rfl (wpAny_pure ?_))
    simp only [if_true]
    refine wpAny_bind (wpAny_rule ?_)
    refine wpAny_bind (wpAny_field he₄ rfl (x := old) rfl ?_)
    refine wpAny_bind (wpAny_setField_rec he₄ (by simp) fun h₅ he₅ hs₅ => ?_)
    replace hs₅ : Heap.SameBut e h₄ h₅ := hs₅
    replace he₅ : IsEnum h₅ e it ((i : Int) + 1) x := he₅
    show wpAny _ _ (Builtin.SmallTypes.ownedTupleHandOut (.ref e) (.ref h₁.objs.size) >>= _) _ _ ⟨h₅, g, d, tk + 1, os⟩
    refine wpAny_bind ?_
    · unfold Builtin.SmallTypes.ownedTupleHandOut
      refine wpAny_bind (wpAny_setField_rec he₅ (by simp) fun h₆ he₆ hs₆ => ?_)
      replace hs₆ : Heap.SameBut e h₅ h₆ := hs₆
      replace he₆ : IsEnumOut h₆ e it ((i : Int) + 1) x h₁.objs.size := he₆
      refine wpAny_setField_rec he₆ (by simp) fun h₇ he₇ hs₇ => ?_
      replace hs₇ : Heap.SameBut e h₆ h₇ := hs₇
      replace he₇ : IsEnumOut h₇ e it ((i : Int) + 1) x h₁.objs.size := he₇
      refine wpAny_bind (wpAny_letGo (wpAny_pure ⟨_, rfl, hQ x h₁ h₇ p he₇ ?_ ?_ ?_⟩))
      · exact hs₇.extBut _ _ (Nat.ne_of_gt hel) (hs₆.extBut _ _ (Nat.ne_of_gt hel) (hs₅.extBut _ _ (Nat.ne_of_gt hel) ht₄))
      · rw [hs₇.1, hs₆.1, hs₅.1, hz₄]
      · exact fun b o hbe hb => hs₇.extBut b o hbe (hs₆.extBut b o hbe (hs₅.extBut b o hbe (hk₄ b o hbe hb)))
theorem pyNext_enum {e it : Addr} {i : Nat} {old : Value} {P : Value → Heap → Prop} {Q : Option Value → Shared → Prop} (he : IsEnum s.heap e it i old)
    (hn : ∀ E', wpAny (model prog w) A.in1 (Builtin.SmallTypes.nextOf (.ref it)) (fun x s1 => ∃ h1, s1 = { s with heap := h1 } ∧ IsEnum h1 e it i old ∧ P x h1) E' s)
    (hQ : ∀ x h1 h', P x h1 → IsEnumOut h' e it ((i : Int) + 1) x h1.objs.size → h'.get? h1.objs.size = some { cls := .type "tuple", data := .seq #[.int i s.toks, x] } → h'.objs.size = h1.objs.size + 1 →
      (∀ b o, b ≠ e → h1.get? b = some o → h'.get? b = some o) → Q (some (.ref h1.objs.size)) { s with heap := h', toks := s.toks + 1 }) :
    wpAny (model prog w) A (pyNext (.ref e)) Q E s := by
  have hT : s.TypeIs (.ref e) "enumerate" := ⟨_, he, rfl⟩
  unfold pyNext
  exact wpAny_bind (wpAny_attempt (wpAny_callSpecial?_slot (name := Str.ofString "__next__") hT F.slot_enumerate_next
    (wpAny_call_entry F.slot_enumerate_next hT F.entry_enumerate_next
      (enum_next he (hn _) fun x h1 h' a b c d k => wpAny_pure (hQ x h1 h' a b c d k)) (F.args_enumerate_next_1 _))))
theorem pyNext_enum_end {e it : Addr} {i : Nat} {old : Value} {P : Heap → Prop} {Q : Option Value → Shared → Prop} (he : IsEnum s.heap e it i old)
    (hn : ∀ Q' E', (∀ h' x, P h' → (∃ o, h'.get? x = some o ∧ o.cls = .type "StopIteration") → E' (.ref x) { s with heap := h' }) → wpAny (model prog w) A.in1 (Builtin.SmallTypes.nextOf (.ref it)) Q' E' s)
    (hQ : ∀ h', P h' → Q none { s with heap := h' }) : wpAny (model prog w) A (pyNext (.ref e)) Q E s := by
  have hT : s.TypeIs (.ref e) "enumerate" := ⟨_, he, rfl⟩
  unfold pyNext
  refine wpAny_bind (wpAny_attempt (wpAny_callSpecial?_slot (name := Str.ofString "__next__") hT F.slot_enumerate_next
    (wpAny_call_entry F.slot_enumerate_next hT F.entry_enumerate_next ?_ (F.args_enumerate_next_1 _))))
  show wpAny _ _ (field (.ref e) 2 >>= _) _ _ _
  refine wpAny_bind (wpAny_field he rfl (x := .ref it) rfl ?_)
  refine wpAny_bind (hn _ _ fun h' x p hx' => ?_)
  obtain ⟨o, ho, hc⟩ := hx'
  refine wpAny_bind (wpAny_isInstance (T := "StopIteration") (b := true) ⟨o, ho, hc⟩ isSubtype_stop ?_)
  exact wpAny_pure (hQ _ p)
end
end ZQ
set_option maxHeartbeats 1000000
/-! DI: walks of zip whose pairs are kept -/
namespace ZQ
open PySem
open PySem.Sem (wp)
theorem enumerate_newZ (z TI TO : Addr) :
    Meets (Builtin.«enumerate.__new__» ⟨[.type "enumerate", .ref z], []⟩) (fun _ R s => ZS s.heap z TI TO ∧
      R (.ok (.ret (.ref s.heap.objs.size))) { s with heap := s.heap.push { cls := .type "enumerate", data := .fields #[.none, .bool false, .ref z, rawInt 0, .none, .none] } }) :=
  .of_wp fun prog w A R s h => by
    obtain ⟨hp, g, d, tk, os⟩ := s; obtain ⟨h1, h⟩ := h
    have hsub := sub_enumerate
    have q1 : ∀ {A' : Around} {E : Value → Shared → Prop} {Q : Value → Shared → Prop}, Q (.ref z) ⟨hp, g, d, tk, os⟩ → wpAny (model prog w) A' (pyIter (.ref z)) Q E ⟨hp, g, d, tk, os⟩ :=
      fun q => pyIter_zs (s := ⟨hp, g, d, tk, os⟩) h1 q
    obtain ⟨f0, f, ho, hz⟩ := id h1
    have hz' : Heap.get? (Shared.heap ⟨hp, g, d, tk, os⟩) z = some { cls := .type "zip", dict := none, data := .fields #[f0, .bool f, .bool false, .ref TI, .ref TO], slots := #[] } := hz
    wp_walk using q1, AutoSeq1.wpAny_loadPart' hz'
    refine wpAny_stack_any fun st => wpAny_pure ?_
    split
    · rename_i c _ _ _ _ _
      cases (c == Value.type "enumerate")
      · wp_walk using q1, AutoSeq1.wpAny_loadPart' hz'
        exact ⟨_, rfl, h⟩
      · wp_walk using q1, AutoSeq1.wpAny_loadPart' hz'
        exact ⟨_, rfl, h⟩
    · wp_walk using q1, AutoSeq1.wpAny_loadPart' hz'
      exact ⟨_, rfl, h⟩
section
variable {prog : Program} {w : World} {A : Around} {E : Value → Shared → Prop} {s : Shared}
theorem call_enumZ {z TI TO : Addr} {Q : Value → Shared → Prop} (hz : ZS s.heap z TI TO)
    (h : ∀ h', IsEnum h' s.heap.objs.size z 0 .none → (∀ b o, s.heap.get? b = some o → h'.get? b = some o) → Q (.ref s.heap.objs.size) { s with heap := h' }) :
    wpAny (model prog w) A (call (.type "enumerate") [.ref z]) Q E s := by
  refine callType_new F.called_enumerate (by decide) (F.typeCall_enumerate_1 _) (F.newCall_enumerate_1 _) (fun obj => F.args_object_init_2 obj _) F.entry_enumerate_new
    (enumerate_newZ z TI TO) ⟨hz, ?_⟩
  have he : IsEnum (s.heap.push { cls := .type "enumerate", data := .fields #[.none, .bool false, .ref z, rawInt 0, .none, .none] }) s.heap.objs.size z 0 .none := Heap.get?_push_size _ rfl
  exact ⟨⟨_, he, rfl⟩, h _ he fun b o x => Heap.get?_push_of_some _ x⟩
end
end ZQ
namespace DI
open PySem PySem.Spec PyProof.Rows L2 ZQ
theorem turn_zipN {P : Program} {w : World} {K : PySem.W.Frag} {n : Str} {np : Pos} {a b z TI TO i1 i2 : Addr} (D : ZipApart z TI TO i1 i2 a b) :
    Turn P w K (.Name n np) (RZ.ItzT K a b) [z, TI, TO, i1, i2] z (fun i h => ZS h z TI TO ∧ PySem.IsPair h TI (.ref i1) (.ref i2) ∧ (∃ x y, PySem.IsPair h TO x y) ∧ h.IsTupleIter i1 a i ∧ h.IsTupleIter i2 b i) where
  mem := by simp
  obj := fun i h st c hc => by
    obtain ⟨⟨_, _, _, hz⟩, hTI, ⟨x, y, hTO⟩, ⟨o1, e1, _, d1⟩, ⟨o2, e2, _, d2⟩⟩ := st
    have e' : c = z ∨ c = TI ∨ c = TO ∨ c = i1 ∨ c = i2 := by simpa using hc
    rcases e' with q | q | q | q | q
    · rw [q]; exact ⟨_, hz, fun v q => nomatch q⟩
    · rw [q]; exact ⟨_, hTI, fun v q => nomatch q⟩
    · rw [q]; exact ⟨_, hTO, fun v q => nomatch q⟩
    · rw [q]; exact ⟨o1, e1, fun v q => by rw [d1] at q; cases q⟩
    · rw [q]; exact ⟨o2, e2, fun v q => by rw [d2] at q; cases q⟩
  keep := fun i h h' st k => by
    obtain ⟨⟨f0, f, ho, hz⟩, hTI, ⟨x, y, hTO⟩, h1, h2⟩ := st
    exact ⟨⟨f0, f, ho, k z (by simp) _ hz⟩, k TI (by simp) _ hTI, ⟨x, y, k TO (by simp) _ hTO⟩, h1.at fun o q => k i1 (by simp) o q, h2.at fun o q => k i2 (by simp) o q⟩
  item := by
    intro X hP hw hK hc i pins s σ H E I hf st hg
    subst hP hw hK
    obtain ⟨hz, hTI, ⟨x0, y0, hTO⟩, h1, h2⟩ := st
    obtain ⟨xs, ys, x, y, hqx, hqy, hx, hy⟩ := hg
    obtain ⟨its, rv, p, _⟩ := I.tuple hqx
    obtain ⟨its2, rv2, p2, _⟩ := I.tuple hqy
    obtain ⟨u, hu, ru⟩ := rv.get hx
    obtain ⟨u2, hu2, ru2⟩ := rv2.get hy
    have hzl : z < s.heap.objs.size := by obtain ⟨_, _, _, q⟩ := hz; exact Heap.lt_size q
    refine ZQ.pyNext_item D hz hTI hTO h1 h2 p p2 (x := u) (y := u2) (by simpa using hu) (by simpa using hu2) fun h' af => ?_
    have new : ObjOk X.prog X.w (upd H s.heap.objs.size (.tup [x, y])) h' s.heap.objs.size (.tup [x, y]) :=
      ⟨by show 2 ≤ sizeLine; decide, [u, u2], .cons ru (.cons ru2 .nil), ⟨_, af.new, rfl, _, rfl⟩⟩
    have I1 : Inv X pins σ (upd H s.heap.objs.size (.tup [x, y])) { s with heap := h' } :=
      I.turnedNew (t' := s.toks) (ch := [z, TI, TO, i1, i2]) (fun c o hb q => af.keep c o (fun q' => hb (by simp [q'])) (fun q' => hb (by simp [q'])) (fun q' => hb (by simp [q'])) (fun q' => hb (by simp [q'])) q) hf (Nat.le_refl _) new
    refine ⟨_, rfl, wpAny_pure ⟨.ref s.heap.objs.size, _, I1, rfl, ⟨_, x, y, rfl, I.hok.fresh (Nat.le_refl _), rfl, fun l hl => by rw [I.tuple_inj hl hqx]; exact hx, fun l hl => by rw [I.tuple_inj hl hqy]; exact hy⟩, ⟨af.zs, ?_, af.to, af.it1, af.it2⟩, fun c hcm => ?_⟩⟩
    · exact af.keep _ _ D.TIz D.TITO D.TIi1 D.TIi2 hTI
    · have hlt : c < s.heap.objs.size := by
        have e' : c = z ∨ c = TI ∨ c = TO ∨ c = i1 ∨ c = i2 := by simpa using hcm
        rcases e' with q | q | q | q | q
        · rw [q]; exact hzl
        · rw [q]; exact Heap.lt_size hTI
        · rw [q]; exact Heap.lt_size hTO
        · rw [q]; obtain ⟨_, e1, _⟩ := h1; exact Heap.lt_size e1
        · rw [q]; obtain ⟨_, e2, _⟩ := h2; exact Heap.lt_size e2
      rw [upd_ne (Nat.ne_of_lt hlt)]
      exact (hf c hcm).1
  done := by
    intro X hP hw hK hc i pins s σ H E I hf st hg
    subst hP hw hK
    obtain ⟨hz, hTI, ⟨x0, y0, hTO⟩, h1, h2⟩ := st
    obtain ⟨xs, ys, hqx, hqy, hend⟩ := hg
    obtain ⟨its, rv, p, _⟩ := I.tuple hqx
    obtain ⟨its2, rv2, p2, _⟩ := I.tuple hqy
    have l1 := rv.length
    have l2 := rv2.length
    have he : its.toArray[i]? = none ∨ its2.toArray[i]? = none := by
      rcases hend with q | q
      · exact .inl (by simp; omega)
      · exact .inr (by simp; omega)
    exact ZQ.pyNext_end (I.ok.hd hc) D hz hTI hTO h1 h2 p p2 he fun h' hk => ⟨rfl, I.turnedL (t' := s.toks) (ch := [z, TI, TO, i1, i2]) (fun c o hb q =>
      hk c o (fun q' => hb (by simp [q'])) (fun q' => hb (by simp [q'])) (fun q' => hb (by simp [q'])) (fun q' => hb (by simp [q'])) q) hf⟩
  self := fun A i s Q E st h => pyIter_zs st.1 h
/-- enumerate of zip of two tuples -/
def IteZ (K : PySem.W.Frag) (a b : Addr) : It :=
  ⟨fun i H => ∃ (xs ys : List V) (x y : V), SqT K H a xs ∧ SqT K H b ys ∧ xs[i]? = some x ∧ ys[i]? = some y,
    fun i H v H' => ∃ T T2 x y, v = .ref T2 ∧ H T = none ∧ H T2 = none ∧ T2 ≠ T ∧ H' = upd (upd H T (.tup [x, y])) T2 (.tup [.int (i : Nat), .ref T]) ∧ (∀ xs, SqT K H a xs → xs[i]? = some x) ∧ ∀ ys, SqT K H b ys → ys[i]? = some y,
    fun i H => ∃ xs ys : List V, SqT K H a xs ∧ SqT K H b ys ∧ (xs.length ≤ i ∨ ys.length ≤ i)⟩
theorem turn_enumZ {P : Program} {w : World} {K : PySem.W.Frag} {elts : List Expr} {kk : Nat} {tpos : Pos} {a b e z TI TO i1 i2 : Addr} (D : ZipApart z TI TO i1 i2 a b) (hez : e ≠ z) (heI : e ≠ TI) (heO : e ≠ TO) (he1 : e ≠ i1) (he2 : e ≠ i2) :
    Turn P w K (.Tuple elts kk tpos) (IteZ K a b) [e, z, TI, TO, i1, i2] e (fun i h => (∃ old, IsEnum h e z ((i : Nat) : Int) old) ∧ ZS h z TI TO ∧ PySem.IsPair h TI (.ref i1) (.ref i2) ∧ (∃ x y, PySem.IsPair h TO x y) ∧ h.IsTupleIter i1 a i ∧ h.IsTupleIter i2 b i) where
  mem := by simp
  obj := fun i h st c hc => by
    obtain ⟨⟨old, hee⟩, ⟨_, _, _, hz⟩, hTI, ⟨x, y, hTO⟩, ⟨o1, e1, _, d1⟩, ⟨o2, e2, _, d2⟩⟩ := st
    have e' : c = e ∨ c = z ∨ c = TI ∨ c = TO ∨ c = i1 ∨ c = i2 := by simpa using hc
    rcases e' with q | q | q | q | q | q
    · rw [q]; exact ⟨_, hee, fun v q => nomatch q⟩
    · rw [q]; exact ⟨_, hz, fun v q => nomatch q⟩
    · rw [q]; exact ⟨_, hTI, fun v q => nomatch q⟩
    · rw [q]; exact ⟨_, hTO, fun v q => nomatch q⟩
    · rw [q]; exact ⟨o1, e1, fun v q => by rw [d1] at q; cases q⟩
    · rw [q]; exact ⟨o2, e2, fun v q => by rw [d2] at q; cases q⟩
  keep := fun i h h' st k => by
    obtain ⟨⟨old, hee⟩, ⟨f0, f, ho, hz⟩, hTI, ⟨x, y, hTO⟩, h1, h2⟩ := st
    exact ⟨⟨old, k e (by simp) _ hee⟩, ⟨f0, f, ho, k z (by simp) _ hz⟩, k TI (by simp) _ hTI, ⟨x, y, k TO (by simp) _ hTO⟩, h1.at fun o q => k i1 (by simp) o q, h2.at fun o q => k i2 (by simp) o q⟩
  item := by
    intro X hP hw hK hc i pins s σ H E I hf st hg
    subst hP hw hK
    obtain ⟨⟨old, hee⟩, hz, hTI, ⟨x0, y0, hTO⟩, h1, h2⟩ := st
    obtain ⟨xs, ys, x, y, hqx, hqy, hx, hy⟩ := hg
    obtain ⟨its, rv, p, _⟩ := I.tuple hqx
    obtain ⟨its2, rv2, p2, _⟩ := I.tuple hqy
    obtain ⟨u, hu, ru⟩ := rv.get hx
    obtain ⟨u2, hu2, ru2⟩ := rv2.get hy
    have hzl : z < s.heap.objs.size := by obtain ⟨_, _, _, q⟩ := hz; exact Heap.lt_size q
    have hel : e < s.heap.objs.size := Heap.lt_size hee
    have hfp : ∀ c ∈ [e, z, TI, TO, i1, i2], c < s.heap.objs.size := fun c hcm => by
      have e' : c = e ∨ c = z ∨ c = TI ∨ c = TO ∨ c = i1 ∨ c = i2 := by simpa using hcm
      rcases e' with q | q | q | q | q | q
      · rw [q]; exact hel
      · rw [q]; exact hzl
      · rw [q]; exact Heap.lt_size hTI
      · rw [q]; exact Heap.lt_size hTO
      · rw [q]; obtain ⟨_, e1, _⟩ := h1; exact Heap.lt_size e1
      · rw [q]; obtain ⟨_, e2, _⟩ := h2; exact Heap.lt_size e2
    refine ZQ.pyNext_enum (P := fun v hq => v = .ref s.heap.objs.size ∧ After s.heap hq z TI TO i1 i2 a b i i u u2) hee (fun E' => ?_) fun v hq h' hp ho hT hsz hk => ?_
    · exact ZQ.nextOf_item D hz hTI hTO h1 h2 p p2 (x := u) (y := u2) (by simpa using hu) (by simpa using hu2) fun h' af => ⟨h', rfl, af.keep _ _ hez heO he1 he2 hee, rfl, af⟩
    obtain ⟨rfl, af⟩ := hp
    refine ⟨_, rfl, wpAny_letOwnedTupleGo_enum (s := { s with heap := h', toks := s.toks + 1 }) ho fun h'' he' sb => ?_⟩
    have hsq : hq.objs.size = s.heap.objs.size + 1 := af.size
    have new1 : ObjOk X.prog X.w (upd H s.heap.objs.size (.tup [x, y])) hq s.heap.objs.size (.tup [x, y]) :=
      ⟨by show 2 ≤ sizeLine; decide, [u, u2], .cons ru (.cons ru2 .nil), ⟨_, af.new, rfl, _, rfl⟩⟩
    have I1 : Inv X pins σ (upd H s.heap.objs.size (.tup [x, y])) { s with heap := hq } :=
      I.turnedNew (t' := s.toks) (ch := [e, z, TI, TO, i1, i2]) (fun c o hb q => af.keep c o (fun q' => hb (by simp [q'])) (fun q' => hb (by simp [q'])) (fun q' => hb (by simp [q'])) (fun q' => hb (by simp [q'])) q) hf (Nat.le_refl _) new1
    have hn1 : H s.heap.objs.size = none := I.hok.fresh (Nat.le_refl _)
    have hn2 : H hq.objs.size = none := I.hok.fresh (by omega)
    have hne : hq.objs.size ≠ s.heap.objs.size := by omega
    have keep2 : ∀ c o, c ≠ e → hq.get? c = some o → h''.get? c = some o := fun c o ce q => (sb.2 c ce).trans (hk c o ce q)
    have hT2 : h''.get? hq.objs.size = some { cls := .type "tuple", data := .seq #[.int i s.toks, .ref s.heap.objs.size] } := (sb.2 _ (Nat.ne_of_gt (show e < hq.objs.size by rw [hsq]; exact Nat.lt_succ_of_lt hel))).trans hT
    have new2 : ObjOk X.prog X.w (upd (upd H s.heap.objs.size (.tup [x, y])) hq.objs.size (.tup [.int (i : Nat), .ref s.heap.objs.size])) h'' hq.objs.size (.tup [.int (i : Nat), .ref s.heap.objs.size]) :=
      ⟨by show 2 ≤ sizeLine; decide, [.int i s.toks, .ref s.heap.objs.size], .cons ⟨_, rfl⟩ (.cons rfl .nil), ⟨_, hT2, rfl, _, rfl⟩⟩
    have hf1 : ∀ b ∈ [e], FpOk X pins (upd H s.heap.objs.size (.tup [x, y])) b := fun b hb => by
      have hm : b ∈ [e, z, TI, TO, i1, i2] := by rw [List.mem_singleton.mp hb]; exact List.mem_cons_self
      have q := hf b hm
      refine ⟨?_, q.2⟩
      rw [upd_ne (Nat.ne_of_lt (hfp b hm))]
      exact q.1
    have I2 : Inv X pins σ (upd (upd H s.heap.objs.size (.tup [x, y])) hq.objs.size (.tup [.int (i : Nat), .ref s.heap.objs.size])) { s with heap := h'', toks := s.toks + 1 } :=
      I1.turnedNew (t' := s.toks + 1) (ch := [e]) (fun c o hb q => keep2 c o (fun q' => hb (by simp [q'])) q) hf1 (Nat.le_refl _) new2
    have up : ∀ c o, c ≠ e → c ≠ z → c ≠ TO → c ≠ i1 → c ≠ i2 → s.heap.get? c = some o → h''.get? c = some o := fun c o c0 c1 c2 c3 c4 q => keep2 c o c0 (af.keep c o c1 c2 c3 c4 q)
    refine ⟨.ref hq.objs.size, _, I2, rfl, ⟨_, _, x, y, rfl, hn1, hn2, hne, rfl, fun l hl => by rw [I.tuple_inj hl hqx]; exact hx, fun l hl => by rw [I.tuple_inj hl hqy]; exact hy⟩, ⟨⟨.ref s.heap.objs.size, ?_⟩, ?_, ?_, ?_, ?_, ?_⟩, fun c hcm => ?_⟩
    · have e1 : ((i + 1 : Nat) : Int) = (i : Int) + 1 := by omega
      rw [e1]; exact he'
    · obtain ⟨f0, f, ho', hz'⟩ := af.zs
      exact ⟨f0, f, ho', keep2 _ _ (Ne.symm hez) hz'⟩
    · exact up _ _ (Ne.symm heI) D.TIz D.TITO D.TIi1 D.TIi2 hTI
    · obtain ⟨x1, y1, q⟩ := af.to
      exact ⟨x1, y1, keep2 _ _ (Ne.symm heO) q⟩
    · exact af.it1.at fun o q => keep2 _ o (Ne.symm he1) q
    · exact af.it2.at fun o q => keep2 _ o (Ne.symm he2) q
    · have := hfp c hcm
      rw [upd_ne (Nat.ne_of_lt (show c < hq.objs.size by rw [hsq]; exact Nat.lt_succ_of_lt this)), upd_ne (Nat.ne_of_lt this)]
      exact (hf c hcm).1
  done := by
    intro X hP hw hK hc i pins s σ H E I hf st hg
    subst hP hw hK
    obtain ⟨⟨old, hee⟩, hz, hTI, ⟨x0, y0, hTO⟩, h1, h2⟩ := st
    obtain ⟨xs, ys, hqx, hqy, hend⟩ := hg
    obtain ⟨its, rv, p, _⟩ := I.tuple hqx
    obtain ⟨its2, rv2, p2, _⟩ := I.tuple hqy
    have l1 := rv.length
    have l2 := rv2.length
    have he : its.toArray[i]? = none ∨ its2.toArray[i]? = none := by
      rcases hend with q | q
      · exact .inl (by simp; omega)
      · exact .inr (by simp; omega)
    refine ZQ.pyNext_enum_end (P := fun h' => ∀ c o, c ≠ z → c ≠ TO → c ≠ i1 → c ≠ i2 → s.heap.get? c = some o → h'.get? c = some o) hee (fun Q' E' hE => ?_) fun h' hk => ⟨rfl, I.turnedL (t' := s.toks) (ch := [e, z, TI, TO, i1, i2]) (fun c o hb q =>
      hk c o (fun q' => hb (by simp [q'])) (fun q' => hb (by simp [q'])) (fun q' => hb (by simp [q'])) (fun q' => hb (by simp [q'])) q) hf⟩
    exact ZQ.nextOf_end (I.ok.hd hc) D hz hTI hTO h1 h2 p p2 he hE
  self := fun A i s Q E st h => let ⟨⟨_, he⟩, _⟩ := st; wpAny_pyIter_enum he h
def iZipT (K : PySem.W.Frag) (ta : TA) : TI := fun σ H R => ta σ H fun vs H1 => ∃ a b xs ys, vs = [.ref a, .ref b] ∧ SqT K H1 a xs ∧ SqT K H1 b ys ∧ R (RZ.ItzT K a b) H1
theorem fresh5 {X : Cx} {pins : List (Addr × Obj)} {σ : L2.St} {H1 : Hp} {s1 : Shared} (I1 : Inv X pins σ H1 s1) (k : Nat) : FpOk X pins H1 (s1.heap.objs.size + k) := I1.fpOk (Nat.le_add_right _ _) (I1.hok.fresh (Nat.le_add_right _ _))
theorem pi_zipN {X : Cx} {e e2 : Expr} {ta : TA} {p pos np : Pos} {n : Str} (hg : Gl X "zip") (hm : X.mg "zip" = none) (ha : PA X [e, e2] ta)
    (hs : starEach [e, e2] X.env = (false, eval e X.env) :: starEach [e2] X.env := by rfl) (hpl : (backTo pos (starEach [e2] X.env)).any (·.1) = false := by rfl) :
    PI X (.Name n np) (.Call (.Name "zip" p) [e, e2] [] pos) (iZipT X.K ta) := by
  refine ⟨fun pins s σ H R I h => ?_⟩
  refine Call_ (ld_blt I hg hm PyProof.Rows.boot_zip (PyProof.Rows.callWith_type1 (thn (ha.run pos pins s σ H _ I h) fun us s1 ⟨vs, H1, I1, r1, q1⟩ => ?_) hs hpl))
  obtain ⟨a, b, xs, ys, ex, hqx, hqy, q⟩ := q1
  subst ex
  cases r1 with
  | cons r rr =>
    cases rr with
    | cons r' rr =>
      cases rr
      cases r
      cases r'
      obtain ⟨its, rv, p1, _⟩ := I1.tuple hqx
      obtain ⟨its2, rv2, p2, _⟩ := I1.tuple hqy
      obtain ⟨o1, ho1, _⟩ := id p1
      obtain ⟨o2, ho2, _⟩ := id p2
      refine RZ.call_zipT (show s1.heap.IsTuple a its.toArray from p1) (show s1.heap.IsTuple b its2.toArray from p2) fun h' hz hTI hTO h1 h2 hsz hk => wpAny_pyIter_zip hz ?_
      have I2 : Inv X pins σ H1 { s1 with heap := h' } := I1.kept (t' := s1.toks) hk
      refine ⟨s1.heap.objs.size + 4, [s1.heap.objs.size + 4, s1.heap.objs.size + 2, s1.heap.objs.size + 3, s1.heap.objs.size, s1.heap.objs.size + 1], _, _, H1, rfl, I2, turn_zipN (PySem.W.ktu_apart s1.heap.objs.size a b (Heap.lt_size ho1) (Heap.lt_size ho2)), ⟨⟨.none, false, .inl rfl, hz⟩, hTI, ⟨_, _, hTO⟩, h1, h2⟩, fun c hcm => ?_, q⟩
      have e' : c = s1.heap.objs.size + 4 ∨ c = s1.heap.objs.size + 2 ∨ c = s1.heap.objs.size + 3 ∨ c = s1.heap.objs.size ∨ c = s1.heap.objs.size + 1 := by simpa using hcm
      rcases e' with z | z | z | z | z <;> rw [z]
      · exact fresh5 I1 4
      · exact fresh5 I1 2
      · exact fresh5 I1 3
      · exact fresh5 I1 0
      · exact fresh5 I1 1
def iEnumZ (K : PySem.W.Frag) (ta : TA) : TI := fun σ H R => ta σ H fun vs H1 => ∃ a b xs ys, vs = [.ref a, .ref b] ∧ SqT K H1 a xs ∧ SqT K H1 b ys ∧ R (IteZ K a b) H1
theorem pi_enumZ {X : Cx} {e e2 : Expr} {ta : TA} {p p2 pos pos2 tpos : Pos} {elts : List Expr} {kk : Nat} (hg : Gl X "zip") (hm : X.mg "zip" = none) (hg2 : Gl X "enumerate") (hm2 : X.mg "enumerate" = none) (ha : PA X [e, e2] ta)
    (hs : starEach [e, e2] X.env = (false, eval e X.env) :: starEach [e2] X.env := by rfl) (hpl : (backTo pos (starEach [e2] X.env)).any (·.1) = false := by rfl)
    (na : starEach [.Call (.Name "zip" p) [e, e2] [] pos] X.env = (false, eval (.Call (.Name "zip" p) [e, e2] [] pos) X.env) :: starEach [] X.env := by rfl) :
    PI X (.Tuple elts kk tpos) (.Call (.Name "enumerate" p2) [.Call (.Name "zip" p) [e, e2] [] pos] [] pos2) (iEnumZ X.K ta) := by
  refine ⟨fun pins s σ H R I h => ?_⟩
  refine Call_ (ld_blt I hg2 hm2 boot_enumerate ?_)
  refine PyProof.Rows.callWith_type1 (PyProof.Rows.args_cons ?_ rfl) na rfl
  refine Call_ (ld_blt I hg hm PyProof.Rows.boot_zip (PyProof.Rows.callWith_type1 (thn (ha.run pos pins s σ H _ I h) fun us s1 ⟨vs, H1, I1, r1, q1⟩ => ?_) hs hpl))
  obtain ⟨a, b, xs, ys, ex, hqx, hqy, q⟩ := q1
  subst ex
  cases r1 with
  | cons r rr =>
    cases rr with
    | cons r' rr =>
      cases rr
      cases r
      cases r'
      obtain ⟨its, rv, p1, _⟩ := I1.tuple hqx
      obtain ⟨its2, rv2, p2, _⟩ := I1.tuple hqy
      obtain ⟨o1, ho1, _⟩ := id p1
      obtain ⟨o2, ho2, _⟩ := id p2
      refine RZ.call_zipT (show s1.heap.IsTuple a its.toArray from p1) (show s1.heap.IsTuple b its2.toArray from p2) fun h' hz hTI hTO h1 h2 hsz hk => ?_
      refine PyProof.Rows.args_nil ?_
      refine call_enumZ (s := { s1 with heap := h' }) ⟨.none, false, .inl rfl, hz⟩ fun h'' he hk2 => wpAny_pyIter_enum he ?_
      have I2 : Inv X pins σ H1 { s1 with heap := h'' } := I1.kept (t' := s1.toks) fun c o x => hk2 _ _ (hk _ _ x)
      replace he : IsEnum h'' h'.objs.size (s1.heap.objs.size + 4) 0 .none := he
      rw [hsz] at he
      show PIE X pins σ _ R (.ref h'.objs.size) { s1 with heap := h'' }
      rw [hsz]
      refine ⟨s1.heap.objs.size + 5, [s1.heap.objs.size + 5, s1.heap.objs.size + 4, s1.heap.objs.size + 2, s1.heap.objs.size + 3, s1.heap.objs.size, s1.heap.objs.size + 1], _, _, H1, rfl, I2, turn_enumZ (PySem.W.ktu_apart s1.heap.objs.size a b (Heap.lt_size ho1) (Heap.lt_size ho2)) (Nat.ne_of_gt (Nat.add_lt_add_left (by decide) _)) (Nat.ne_of_gt (Nat.add_lt_add_left (by decide) _)) (Nat.ne_of_gt (Nat.add_lt_add_left (by decide) _)) (Nat.ne_of_gt (Nat.lt_add_of_pos_right (by decide))) (Nat.ne_of_gt (Nat.add_lt_add_left (by decide) _)), ⟨⟨_, he⟩, ⟨.none, false, .inl rfl, hk2 _ _ hz⟩, hk2 _ _ hTI, ⟨_, _, hk2 _ _ hTO⟩, h1.at fun o q => hk2 _ o q, h2.at fun o q => hk2 _ o q⟩, fun c hcm => ?_, q⟩
      have e' : c = s1.heap.objs.size + 5 ∨ c = s1.heap.objs.size + 4 ∨ c = s1.heap.objs.size + 2 ∨ c = s1.heap.objs.size + 3 ∨ c = s1.heap.objs.size ∨ c = s1.heap.objs.size + 1 := by simpa using hcm
      rcases e' with z | z | z | z | z | z <;> rw [z]
      · exact fresh5 I1 5
      · exact fresh5 I1 4
      · exact fresh5 I1 2
      · exact fresh5 I1 3
      · exact fresh5 I1 0
      · exact fresh5 I1 1
end DI
/-! DI: zip with a name ahead; enumerate of zip -/
namespace DI
open PySem PySem.Spec PyProof.Rows L2
section
variable {X : Cx} {g : Gv} {W : L2.WX} {Z : Addr → Prop} {H : Hp} {fp : List Addr}
theorem wk_enumZ {a b : Addr} {xs ys : List D} {vs us : List V} (h1 : ∀ H', Kp Z fp H H' → SqT g.K H' a vs) (h2 : ∀ H', Kp Z fp H H' → SqT g.K H' b us) (r1 : Reps g Z H xs vs []) (r2 : Reps g Z H ys us []) : Wk g Z fp H (IteZ g.K a b) (enumL 0 (zipL xs ys)) := by
  have l1 := r1.length
  have l2 := r2.length
  refine ⟨fun H' i kp hi => ?_, fun H' kp => ?_, fun H' H'' i v x kp hx y => ?_⟩
  · rw [enumL_length, zipL_length] at hi
    obtain ⟨v, f, e, _⟩ := r1.get i xs[i] (List.getElem?_eq_getElem (by omega))
    obtain ⟨v', f', e', _⟩ := r2.get i ys[i] (List.getElem?_eq_getElem (by omega))
    exact ⟨vs, us, v, v', h1 H' kp, h2 H' kp, e, e'⟩
  · refine ⟨vs, us, h1 H' kp, h2 H' kp, ?_⟩
    rw [enumL_length, zipL_length]
    omega
  · rw [enumL_get, zipL_get, Nat.zero_add] at hx
    cases hx0 : xs[i]? with
    | none => rw [hx0] at hx; cases hx
    | some x0 =>
      cases hy0 : ys[i]? with
      | none => rw [hx0, hy0] at hx; cases hx
      | some y0 =>
        rw [hx0, hy0] at hx
        cases hx
        obtain ⟨u, f, e, r, hf, _⟩ := r1.get i x0 hx0
        have ef : f = [] := List.eq_nil_iff_forall_not_mem.mpr fun a ha => nomatch hf a ha
        subst ef
        obtain ⟨u', f', e', r', hf', _⟩ := r2.get i y0 hy0
        have ef' : f' = [] := List.eq_nil_iff_forall_not_mem.mpr fun a ha => nomatch hf' a ha
        subst ef'
        have q1 := r.keep (fun _ z => z) kp.out
        have q2 := r'.keep (fun _ z => z) kp.out
        obtain ⟨T, T2, x, y, rfl, nT, nT2, hne, rfl, qx, qy⟩ := y
        have e2 := qx vs (h1 H' kp)
        rw [e] at e2
        cases e2
        have e3 := qy us (h2 H' kp)
        rw [e'] at e3
        cases e3
        have s1 := same_upd (o := .tup [u, u']) nT
        have nT2' : upd H' T (.tup [u, u']) T2 = none := by rw [upd_ne hne]; exact nT2
        have s2 := same_upd (o := .tup [.int (i : Nat), .ref T]) nT2'
        have s := same_trans s1 s2
        have hT : upd (upd H' T (.tup [u, u'])) T2 (.tup [.int (i : Nat), .ref T]) T = some (.tup [u, u']) := by rw [upd_ne (Ne.symm hne)]; exact upd_same
        refine ⟨s, .tup (.inl (.inl upd_same)) ?_⟩
        refine .cons (f := []) (fs := []) (.int _) (.cons (f := []) (fs := []) (.tup (.inl (.inl hT)) ?_) .nil)
        exact .cons (f := []) (fs := []) (q1.same (fun _ z => z) s) (.cons (f := []) (fs := []) (q2.same (fun _ z => z) s) .nil)
variable {e e2 tg : Expr} {f : Sl → R D} {b : Bool} {p p2 pos pos2 tpos np : Pos} {elts : List Expr} {kk : Nat} {n : Str}
def zipTD : List D → R (List D)
  | [.tup xs, .tup ys] => (itemsD (.tup xs)).bind fun xs => (itemsD (.tup ys)).bind fun ys => .ok (zipL xs ys)
  | _ => .bad
def enZD : List D → R (List D)
  | [.tup xs, .tup ys] => (itemsD (.tup xs)).bind fun xs => (itemsD (.tup ys)).bind fun ys => .ok (enumL 0 (zipL xs ys))
  | _ => .bad
theorem zipT_inv {σ : L2.St} {ds : List D} {P : List D → Prop} (h : Out g W Z σ H (zipTD ds) P) : ∃ l l' xs ys, ds = [.tup l, .tup l'] ∧ itemsD (.tup l) = .ok xs ∧ itemsD (.tup l') = .ok ys ∧ P (zipL xs ys) := by
  unfold zipTD at h
  split at h
  · obtain ⟨xs, hi, h⟩ := h.bind.okOf (items_noerr _)
    obtain ⟨ys, hj, h⟩ := h.bind.okOf (items_noerr _)
    exact ⟨_, _, xs, ys, rfl, hi, hj, h⟩
  · exact h.elim
theorem enZ_inv {σ : L2.St} {ds : List D} {P : List D → Prop} (h : Out g W Z σ H (enZD ds) P) : ∃ l l' xs ys, ds = [.tup l, .tup l'] ∧ itemsD (.tup l) = .ok xs ∧ itemsD (.tup l') = .ok ys ∧ P (enumL 0 (zipL xs ys)) := by
  unfold enZD at h
  split at h
  · obtain ⟨xs, hi, h⟩ := h.bind.okOf (items_noerr _)
    obtain ⟨ys, hj, h⟩ := h.bind.okOf (items_noerr _)
    exact ⟨_, _, xs, ys, rfl, hi, hj, h⟩
  · exact h.elim
def iZT (f : Sl → R D) : Sl → R (List D) := fun σ => (f σ).bind fun r => (tupOf r).bind zipTD
def iEZ (f : Sl → R D) : Sl → R (List D) := fun σ => (f σ).bind fun r => (tupOf r).bind enZD
theorem i_zN (G : Gof g X) (ha : PA X [e, e2] (tIA g W b f)) (hm : X.mg "zip" = none) (hg : Gl X "zip" := by rfl) (hs : starEach [e, e2] X.env = (false, eval e X.env) :: starEach [e2] X.env := by exact starE (by rfl)) (hpl : (backTo pos (starEach [e2] X.env)).any (·.1) = false := by rfl) :
    PI X (.Name n np) (.Call (.Name "zip" p) [e, e2] [] pos) (tIW g W b (iZT f)) := (pi_zipN hg hm ha hs hpl).imp fun σ H Q q => by
  obtain ⟨H0, Z, fps, σl, sr, o⟩ := q
  refine ⟨H0, Z, fps, σl, sr, o.bind.imp fun r h => ?_⟩
  cases r with
  | tup ds =>
    have h : Out g W Z σ H (zipTD ds) _ := h
    refine ⟨ds, rfl, fun vs H' Z' fp p => ?_⟩
    obtain ⟨l1, l2, xs, ys, rfl, hi, hj, h⟩ := zipT_inv h
    obtain ⟨v, u, f1, f2, rfl, rx, ry, hf1, hf2⟩ := reps2' p.rep
    have s0 : Kp Z' fp H' H' := .of_same (same_refl H')
    have fin := fun J wk => h J H' Z' fp p.same p.zx wk (Reps.there p.rep) fun e => (p.own e).2
    obtain ⟨a, vs, rfl, hk, rs⟩ := src_tup rx hi
    obtain ⟨b, us, rfl, hk', rs'⟩ := src_tup ry hj
    rw [G.K]
    exact ⟨a, b, vs, us, rfl, hk H' (s0.sub hf1), hk' H' (s0.sub hf2), fin _ (wk_zip (zipItT g.K a b) (fun H'' k => hk H'' (k.sub hf1)) (fun H'' k => hk' H'' (k.sub hf2)) rs rs')⟩
  | _ => exact h.elim
theorem i_eZ (G : Gof g X) (ha : PA X [e, e2] (tIA g W b f)) (hm : X.mg "zip" = none) (hm2 : X.mg "enumerate" = none) (hg : Gl X "zip" := by rfl) (hg2 : Gl X "enumerate" := by rfl) (hs : starEach [e, e2] X.env = (false, eval e X.env) :: starEach [e2] X.env := by exact starE (by rfl)) (hpl : (backTo pos (starEach [e2] X.env)).any (·.1) = false := by rfl)
    (na : starEach [.Call (.Name "zip" p) [e, e2] [] pos] X.env = (false, eval (.Call (.Name "zip" p) [e, e2] [] pos) X.env) :: starEach [] X.env := by exact starE (by rfl)) :
    PI X (.Tuple elts kk tpos) (.Call (.Name "enumerate" p2) [.Call (.Name "zip" p) [e, e2] [] pos] [] pos2) (tIW g W b (iEZ f)) := (pi_enumZ hg hm hg2 hm2 ha hs hpl na).imp fun σ H Q q => by
  obtain ⟨H0, Z, fps, σl, sr, o⟩ := q
  refine ⟨H0, Z, fps, σl, sr, o.bind.imp fun r h => ?_⟩
  cases r with
  | tup ds =>
    have h : Out g W Z σ H (enZD ds) _ := h
    refine ⟨ds, rfl, fun vs H' Z' fp p => ?_⟩
    obtain ⟨l1, l2, xs, ys, rfl, hi, hj, h⟩ := enZ_inv h
    obtain ⟨v, u, f1, f2, rfl, rx, ry, hf1, hf2⟩ := reps2' p.rep
    have s0 : Kp Z' fp H' H' := .of_same (same_refl H')
    have fin := fun J wk => h J H' Z' fp p.same p.zx wk (Reps.there p.rep) fun e => (p.own e).2
    obtain ⟨a, vs, rfl, hk, rs⟩ := src_tup rx hi
    obtain ⟨b, us, rfl, hk', rs'⟩ := src_tup ry hj
    rw [G.K]
    exact ⟨a, b, vs, us, rfl, hk H' (s0.sub hf1), hk' H' (s0.sub hf2), fin _ (wk_enumZ (fun H'' k => hk H'' (k.sub hf1)) (fun H'' k => hk' H'' (k.sub hf2)) rs rs')⟩
  | _ => exact h.elim
end
end DI
/-! DI, laws of the run -/
namespace DI
open PySem
@[simp] theorem u_eV (i : Nat) (σ : Sl) : eV i σ = getS σ i := rfl
@[simp] theorem u_eK (d : D) (σ : Sl) : eK d σ = .ok d := rfl
@[simp] theorem u_eO (f : Sl → R D) (σ : Sl) : eO f σ = (f σ).bind fun d => if clean d = true then .ok d else .bad := rfl
@[simp] theorem u_eNeg (f : Sl → R D) (σ : Sl) : eNeg f σ = (f σ).bind fun x => (intOf x).bind fun i => .ok (.int (-i)) := rfl
@[simp] theorem u_eNot (f : Sl → R D) (σ : Sl) : eNot f σ = (f σ).bind fun x => (boolOf x).bind fun i => .ok (.bl (!i)) := rfl
@[simp] theorem u_eB (o : Bop) (f k : Sl → R D) (σ : Sl) : eB o f k σ = (f σ).bind fun x => (k σ).bind fun y => binD o x y := rfl
@[simp] theorem u_eC (o : Cop) (f k : Sl → R D) (σ : Sl) : eC o f k σ = (f σ).bind fun x => (k σ).bind fun y => blR (cmpD o x y) := rfl
@[simp] theorem u_eCC (o o' : Cop) (f k l : Sl → R D) (σ : Sl) : eCC o o' f k l σ = (f σ).bind fun x => (k σ).bind fun y => (cmpD o x y).bind fun r => if r = true then (l σ).bind fun z => (cmpD o' y z).bind fun r => .ok (.bl r) else .ok (.bl false) := rfl
@[simp] theorem u_eAnd (f k : Sl → R D) (σ : Sl) : eAnd f k σ = (f σ).bind fun x => (boolOf x).bind fun r => if r = true then (k σ).bind fun y => (boolOf y).bind fun r => .ok (.bl r) else .ok (.bl false) := rfl
@[simp] theorem u_eOr (f k : Sl → R D) (σ : Sl) : eOr f k σ = (f σ).bind fun x => (boolOf x).bind fun r => if r = true then .ok (.bl true) else (k σ).bind fun y => (boolOf y).bind fun r => .ok (.bl r) := rfl
@[simp] theorem u_eIf (c f k : Sl → R D) (σ : Sl) : eIf c f k σ = (c σ).bind fun x => (boolOf x).bind fun r => if r = true then f σ else k σ := rfl
@[simp] theorem u_eIx (f k : Sl → R D) (σ : Sl) : eIx f k σ = (f σ).bind fun x => (k σ).bind fun y => idxD x y := rfl
@[simp] theorem u_aN (σ : Sl) : aN σ = .ok (.tup []) := rfl
@[simp] theorem u_aC (f k : Sl → R D) (σ : Sl) : aC f k σ = (f σ).bind fun x => (k σ).bind fun r => (tupOf r).bind fun xs => .ok (.tup (x :: xs)) := rfl
@[simp] theorem u_eTup (f : Sl → R D) (σ : Sl) : eTup f σ = (f σ).bind fun r => (tupOf r).bind fun xs => if xs.length ≤ sizeLine then .ok (.tup xs) else .bad := rfl
@[simp] theorem u_eLst (f : Sl → R D) (σ : Sl) : eLst f σ = (f σ).bind fun r => (tupOf r).bind fun xs => if xs.length ≤ sizeLine then .ok (.lst true xs) else .bad := rfl
@[simp] theorem u_eD0 (σ : Sl) : eD0 σ = .ok (.dct true []) := rfl
@[simp] theorem u_eD1 (f k : Sl → R D) (σ : Sl) : eD1 f k σ = (f σ).bind fun x => (k σ).bind fun y => dispD x y := rfl
@[simp] theorem u_eSl (f : Sl → R D) (nb : Bool) (k : Sl → R D) (nc : Bool) (l : Sl → R D) (σ : Sl) : eSl f nb k nc l σ = (f σ).bind fun x => (k σ).bind fun l' => (partD (if nb = true then none else some l')).bind fun l' => (l σ).bind fun h => (partD (if nc = true then none else some h)).bind fun h => slD x l' h := rfl
@[simp] theorem u_eBi (b : Bi) (f : Sl → R D) (σ : Sl) : eBi b f σ = (f σ).bind fun r => (tupOf r).bind fun ds => biD b ds := rfl
@[simp] theorem u_eF (h : List D → R D) (f : Sl → R D) (σ : Sl) : eF h f σ = (f σ).bind fun r => (tupOf r).bind fun ds => (h (frzL ds)).bind fun d => if (cleanL ds || noFrz d) = true then .ok d else .bad := rfl
@[simp] theorem u_eMt (m : Mt) (f k : Sl → R D) (σ : Sl) : eMt m f k σ = (f σ).bind fun x => if recvOk m x = true then (k σ).bind fun r => (tupOf r).bind fun ds => mtD m x ds else .bad := rfl
@[simp] theorem u_eIsi (t : Ty) (f : Sl → R D) (σ : Sl) : eIsi t f σ = (f σ).bind fun d => blR (isTy t d) := rfl
@[simp] theorem u_eT (σ : Sl) : eT σ = .ok (.bl true) := rfl
@[simp] theorem u_iSeqq (f : Sl → R D) (σ : Sl) : iSeq' f σ = (f σ).bind itemsD := rfl
@[simp] theorem u_iEn (f : Sl → R D) (σ : Sl) : iEn f σ = (f σ).bind fun r => (tupOf r).bind enumD := rfl
@[simp] theorem u_iR1 (f : Sl → R D) (σ : Sl) : iR1 f σ = (f σ).bind fun r => (tupOf r).bind rng1D := rfl
@[simp] theorem u_iR2 (f : Sl → R D) (σ : Sl) : iR2 f σ = (f σ).bind fun r => (tupOf r).bind rng2D := rfl
@[simp] theorem u_iZ (f : Sl → R D) (σ : Sl) : iZ f σ = (f σ).bind fun r => (tupOf r).bind zipD := rfl
@[simp] theorem u_sSkip (σ : Sl) : sSkip σ = .nx σ := rfl
@[simp] theorem u_sSeq (f k : SF) (σ : Sl) : sSeq f k σ = (f σ).andThen k := rfl
@[simp] theorem u_sSet (i : Nat) (f : Sl → R D) (σ : Sl) : sSet i f σ = rS (f σ) σ fun d => .nx (σ.set i (some d)) := rfl
@[simp] theorem u_sIf (c : Sl → R D) (f k : SF) (σ : Sl) : sIf c f k σ = rS (c σ) σ fun d => cond d (f σ) (k σ) := rfl
@[simp] theorem u_sRet (f : Sl → R D) (σ : Sl) : sRet f σ = rS (f σ) σ .rt := rfl
@[simp] theorem u_sRetV (i : Nat) (σ : Sl) : sRetV i σ = rS (getS σ i) σ .rt := rfl
@[simp] theorem u_sRetN (σ : Sl) : sRetN σ = .rt .non := rfl
@[simp] theorem u_sBrk (σ : Sl) : sBrk σ = .bk σ := rfl
@[simp] theorem u_sCnt (σ : Sl) : sCnt σ = .ct σ := rfl
@[simp] theorem u_sFz (i : Nat) (k : SF) (σ : Sl) : sFz i k σ = rS (getS σ i) σ fun d => k (σ.set i (some (frz d))) := rfl
@[simp] theorem u_sDrop (f : Sl → R D) (σ : Sl) : sDrop f σ = rS (f σ) σ fun _ => .nx σ := rfl
@[simp] theorem u_sUnp (p : Pat) (f : Sl → R D) (σ : Sl) : sUnp p f σ = rS (f σ) σ fun d => if clean d = true then rS (bindP σ p d) σ .nx else .bad := rfl
@[simp] theorem u_sApp (i : Nat) (f : Sl → R D) (σ : Sl) : sApp i f σ = rS ((getS σ i).bind lstOf) σ fun xs => rS (f σ) σ fun y => if xs.length < sizeLine then .nx (σ.set i (some (.lst true (xs ++ [y])))) else .bad := rfl
@[simp] theorem u_sPutK (i : Nat) (fk fe : Sl → R D) (σ : Sl) : sPutK i fk fe σ = rS (fe σ) σ fun y => rS ((getS σ i).bind dctOf) σ fun kvs => rS (fk σ) σ fun x => rS (keyIn x kvs) σ fun k => if clean y = true ∧ kvs.length < sizeLine then .nx (σ.set i (some (.dct true (dput kvs k y)))) else .bad := rfl
@[simp] theorem u_blR (r : R Bool) : blR r = r.bind fun b => .ok (.bl b) := rfl
@[simp] theorem u_startL (n : Nat) (ds : List D) : startL n ds = ds.map some ++ List.replicate (n - ds.length) none := rfl
@[simp] theorem ofR_some {α : Type} (a : α) : ofR (some a) = .ok a := rfl
@[simp] theorem ofR_none {α : Type} : ofR (none : Option α) = .bad := rfl
@[simp] theorem clean_non : clean .non = true := rfl
@[simp] theorem clean_bl (b : Bool) : clean (.bl b) = true := rfl
@[simp] theorem clean_int (b : Int) : clean (.int b) = true := rfl
@[simp] theorem clean_str (b : Str) : clean (.str b) = true := rfl
@[simp] theorem clean_tup (xs : List D) : clean (.tup xs) = cleanL xs := by rw [clean]
@[simp] theorem clean_lst (o : Bool) (xs : List D) : clean (.lst o xs) = (!o && cleanL xs) := by rw [clean]
@[simp] theorem clean_dct (o : Bool) (kvs : List (NestedKey × D)) : clean (.dct o kvs) = !o := by rw [clean]
@[simp] theorem cleanL_nil : cleanL [] = true := rfl
@[simp] theorem cleanL_cons (x : D) (xs : List D) : cleanL (x :: xs) = (clean x && cleanL xs) := by rw [cleanL]
@[simp] theorem frz_non : frz .non = .non := rfl
@[simp] theorem frz_bl (b : Bool) : frz (.bl b) = .bl b := rfl
@[simp] theorem frz_int (b : Int) : frz (.int b) = .int b := rfl
@[simp] theorem frz_str (b : Str) : frz (.str b) = .str b := rfl
@[simp] theorem frz_tup (xs : List D) : frz (.tup xs) = .tup (frzL xs) := by rw [frz]
@[simp] theorem frz_lst (o : Bool) (xs : List D) : frz (.lst o xs) = .lst false (frzL xs) := by rw [frz]
@[simp] theorem frz_dct (o : Bool) (kvs : List (NestedKey × D)) : frz (.dct o kvs) = .dct false kvs := by rw [frz]
@[simp] theorem frzL_nil : frzL [] = [] := rfl
@[simp] theorem frzL_cons (x : D) (xs : List D) : frzL (x :: xs) = frz x :: frzL xs := by rw [frzL]
@[simp] theorem noFrz_non : noFrz .non = true := rfl
@[simp] theorem noFrz_bl (b : Bool) : noFrz (.bl b) = true := rfl
@[simp] theorem noFrz_int (b : Int) : noFrz (.int b) = true := rfl
@[simp] theorem noFrz_str (b : Str) : noFrz (.str b) = true := rfl
@[simp] theorem noFrz_tup (xs : List D) : noFrz (.tup xs) = noFrzL xs := by rw [noFrz]
@[simp] theorem noFrz_lst (o : Bool) (xs : List D) : noFrz (.lst o xs) = (o && noFrzL xs) := by rw [noFrz]
@[simp] theorem noFrz_dct (o : Bool) (xs : List (NestedKey × D)) : noFrz (.dct o xs) = (o && noFrzK xs) := by rw [noFrz]
@[simp] theorem noFrzL_nil : noFrzL [] = true := rfl
@[simp] theorem noFrzL_cons (x : D) (xs : List D) : noFrzL (x :: xs) = (noFrz x && noFrzL xs) := by rw [noFrzL]
@[simp] theorem key_int (i : Int) : key (.int i) = some (.num i) := rfl
@[simp] theorem key_str (i : Str) : key (.str i) = some (.text i) := rfl
@[simp] theorem key_tup (xs : List D) : key (.tup xs) = (keyL xs).map .tup := by rw [key]
@[simp] theorem keyL_nil : keyL [] = some [] := rfl
@[simp] theorem keyL_cons (x : D) (xs : List D) : keyL (x :: xs) = (key x).bind fun d => (keyL xs).map fun ds => d :: ds := by rw [keyL]
@[simp] theorem rS_ok {α : Type} (a : α) (σ : Sl) (k : α → RS) : rS (.ok a) σ k = k a := rfl
@[simp] theorem rS_err {α : Type} (c : Nat) (fs : List D) (σ : Sl) (k : α → RS) : rS (.err c fs : R α) σ k = .er c fs σ := rfl
@[simp] theorem cond_bl (b : Bool) (r s : RS) : cond (.bl b) r s = if b = true then r else s := rfl
@[simp] theorem then_nx (σ : Sl) (k : SF) : (RS.nx σ).andThen k = k σ := rfl
@[simp] theorem then_rt (d : D) (k : SF) : (RS.rt d).andThen k = .rt d := rfl
@[simp] theorem then_bk (d : Sl) (k : SF) : (RS.bk d).andThen k = .bk d := rfl
@[simp] theorem then_ct (d : Sl) (k : SF) : (RS.ct d).andThen k = .ct d := rfl
@[simp] theorem then_er (c : Nat) (fs : List D) (d : Sl) (k : SF) : (RS.er c fs d).andThen k = .er c fs d := rfl
@[simp] theorem resR_rt (d : D) : resR (.rt d) = .ok d := rfl
@[simp] theorem resR_nx (d : Sl) : resR (.nx d) = .ok .non := rfl
@[simp] theorem resR_er (c : Nat) (fs : List D) (d : Sl) : resR (.er c fs d) = .err c fs := rfl
@[simp] theorem getS_0 (a : Option D) (s : Sl) : getS (a :: s) 0 = (match a with | some d => .ok d | none => .bad) := by cases a <;> rfl
@[simp] theorem getS_s (a : Option D) (s : Sl) (i : Nat) : getS (a :: s) (i + 1) = getS s i := by
  unfold getS; rw [List.getElem?_cons_succ]
@[simp] theorem boolOf_bl (b : Bool) : boolOf (.bl b) = .ok b := rfl
@[simp] theorem intOf_int (b : Int) : intOf (.int b) = .ok b := rfl
@[simp] theorem tupOf_tup (b : List D) : tupOf (.tup b) = .ok b := rfl
@[simp] theorem lstOf_lst (b : List D) : lstOf (.lst true b) = .ok b := rfl
@[simp] theorem dctOf_dct (b : List (NestedKey × D)) : dctOf (.dct true b) = .ok b := rfl
@[simp] theorem partD_none : partD none = .ok none := rfl
@[simp] theorem partD_int (i : Int) : partD (some (.int i)) = .ok (some i) := rfl
@[simp] theorem idxD_lst (o : Bool) (xs : List D) (i : Int) : idxD (.lst o xs) (.int i) = ofR (L2.atI xs i) := rfl
@[simp] theorem idxD_tup (xs : List D) (i : Int) : idxD (.tup xs) (.int i) = ofR (L2.atI xs i) := rfl
@[simp] theorem idxD_dct (o : Bool) (kvs : List (NestedKey × D)) (k : D) : idxD (.dct o kvs) k = (keyIn k kvs).bind fun k => ofR (dget kvs k) := rfl
@[simp] theorem itemsD_lst (o : Bool) (xs : List D) : itemsD (.lst o xs) = if cleanL xs = true then .ok xs else .bad := rfl
@[simp] theorem itemsD_tup (xs : List D) : itemsD (.tup xs) = if cleanL xs = true then .ok xs else .bad := rfl
@[simp] theorem itemsD_str (z : Str) : itemsD (.str z) = .ok (z.cps.toList.map oneOf) := rfl
@[simp] theorem enumD_one (x : D) : enumD [x] = (itemsD x).bind fun xs => .ok (enumL 0 xs) := rfl
@[simp] theorem rng1D_one (i : Int) : rng1D [.int i] = if small62 i = true then .ok (rngL 0 i.toNat) else .bad := rfl
@[simp] theorem rng2D_two (i j : Int) : rng2D [.int i, .int j] = if (small62 i && small62 j) = true then .ok (rngL i (j - i).toNat) else .bad := rfl
@[simp] theorem bindP_one (σ : Sl) (i : Nat) (d : D) : bindP σ (.one i) d = .ok (σ.set i (some d)) := rfl
@[simp] theorem bindP_many (σ : Sl) (is : List Nat) (xs : List D) : bindP σ (.many is) (.tup xs) = putAll σ is xs := rfl
@[simp] theorem putAll_nil (σ : Sl) : putAll σ [] [] = .ok σ := rfl
@[simp] theorem putAll_cons (σ : Sl) (i : Nat) (is : List Nat) (x : D) (xs : List D) : putAll σ (i :: is) (x :: xs) = putAll (σ.set i (some x)) is xs := rfl
@[simp] theorem cmpD_lt (i j : Int) : cmpD .lt (.int i) (.int j) = .ok (decide (i < j)) := rfl
@[simp] theorem cmpD_le (i j : Int) : cmpD .le (.int i) (.int j) = .ok (decide (i ≤ j)) := rfl
@[simp] theorem cmpD_gt (i j : Int) : cmpD .gt (.int i) (.int j) = .ok (decide (j < i)) := rfl
@[simp] theorem cmpD_ge (i j : Int) : cmpD .ge (.int i) (.int j) = .ok (decide (j ≤ i)) := rfl
@[simp] theorem cmpD_eq (x y : D) : cmpD .eq x y = eqD x y := rfl
@[simp] theorem cmpD_ne (x y : D) : cmpD .ne x y = (eqD x y).bind fun b => .ok (!b) := rfl
@[simp] theorem cmpD_mem (x y : D) : cmpD .mem x y = memD x y := rfl
@[simp] theorem cmpD_nmem (x y : D) : cmpD .nmem x y = (memD x y).bind fun b => .ok (!b) := rfl
@[simp] theorem cmpD_isN (x : D) : cmpD .isN x .non = .ok (isNon x) := rfl
@[simp] theorem cmpD_notN (x : D) : cmpD .notN x .non = .ok (!isNon x) := rfl
@[simp] theorem isNon_non : isNon .non = true := rfl
@[simp] theorem isNon_int (i : Int) : isNon (.int i) = false := rfl
@[simp] theorem isNon_str (i : Str) : isNon (.str i) = false := rfl
@[simp] theorem isNon_tup (i : List D) : isNon (.tup i) = false := rfl
@[simp] theorem isNon_bl (i : Bool) : isNon (.bl i) = false := rfl
@[simp] theorem isNon_lst (o : Bool) (i : List D) : isNon (.lst o i) = false := rfl
@[simp] theorem memD_dct (x : D) (o : Bool) (kvs : List (NestedKey × D)) : memD x (.dct o kvs) = (keyIn x kvs).bind fun k => .ok (dget kvs k).isSome := rfl
@[simp] theorem memD_lst (x : D) (o : Bool) (ys : List D) : memD x (.lst o ys) = memS x ys := rfl
@[simp] theorem memD_tup (x : D) (ys : List D) : memD x (.tup ys) = memS x ys := rfl
theorem eqD_of {x y : D} {d e : PyData} (h1 : py x = some d) (h2 : py y = some e) (s1 : SeqAt.shaped d = true) (s2 : SeqAt.shaped e = true) : eqD x y = .ok (PyData.eqv d e) := by
  unfold eqD
  rw [h1, h2]
  simp [s1, s2]
@[simp] theorem eqD_int (i j : Int) : eqD (.int i) (.int j) = .ok (decide (i = j)) := by
  rw [eqD_of (d := .int i) (e := .int j) rfl rfl rfl rfl]
  rfl
theorem shaped_str {x : Str} (h : PyData.strOk x = true) : SeqAt.shaped (.str x) = true := by
  unfold SeqAt.shaped
  simp [PyData.canLay0, h, PyData.depth]
theorem eqD_str {i j : Str} (h1 : PyData.strOk i = true) (h2 : PyData.strOk j = true) : eqD (.str i) (.str j) = .ok (i == j) := by
  rw [eqD_of (d := .str i) (e := .str j) rfl rfl (shaped_str h1) (shaped_str h2)]
  rfl
@[simp] theorem biD_lenL (o : Bool) (xs : List D) : biD .len [.lst o xs] = .ok (.int xs.length) := rfl
@[simp] theorem biD_lenT (xs : List D) : biD .len [.tup xs] = .ok (.int xs.length) := rfl
@[simp] theorem biD_lenS (z : Str) : biD .len [.str z] = if z.length ≤ sizeLine then .ok (.int z.length) else .bad := rfl
@[simp] theorem biD_lenD (o : Bool) (kvs : List (NestedKey × D)) : biD .len [.dct o kvs] = .ok (.int kvs.length) := rfl
@[simp] theorem biD_tupleL (o : Bool) (xs : List D) : biD .tuple [.lst o xs] = if cleanL xs = true then .ok (.tup xs) else .bad := rfl
@[simp] theorem biD_tupleT (xs : List D) : biD .tuple [.tup xs] = if cleanL xs = true then .ok (.tup xs) else .bad := rfl
@[simp] theorem biD_listL (o : Bool) (xs : List D) : biD .list [.lst o xs] = if cleanL xs = true then .ok (.lst true xs) else .bad := rfl
@[simp] theorem biD_listT (xs : List D) : biD .list [.tup xs] = if cleanL xs = true then .ok (.lst true xs) else .bad := rfl
@[simp] theorem biD_intI (i : Int) : biD .int [.int i] = .ok (.int i) := rfl
@[simp] theorem biD_intB (b : Bool) : biD .int [.bl b] = .ok (.int (if b = true then 1 else 0)) := rfl
@[simp] theorem biD_min (i j : Int) : biD .min [.int i, .int j] = .ok (.int (if j < i then j else i)) := rfl
@[simp] theorem biD_max (i j : Int) : biD .max [.int i, .int j] = .ok (.int (if j > i then j else i)) := rfl
@[simp] theorem biD_abs (i : Int) : biD .abs [.int i] = .ok (.int (if i < 0 then -i else i)) := rfl
@[simp] theorem isTy_str (z : Str) : isTy .str (.str z) = .ok true := rfl
@[simp] theorem isTy_strN : isTy .str .non = .ok false := rfl
@[simp] theorem isTy_strI (i : Int) : isTy .str (.int i) = .ok false := rfl
@[simp] theorem isTy_intI (i : Int) : isTy .int (.int i) = .ok true := rfl
@[simp] theorem isTy_boolI (i : Int) : isTy .bool (.int i) = .ok false := rfl
@[simp] theorem isTy_boolB (i : Bool) : isTy .bool (.bl i) = .ok true := rfl
@[simp] theorem isTy_tupT (i : List D) : isTy .tuple (.tup i) = .ok true := rfl
@[simp] theorem isTy_lstL (o : Bool) (i : List D) : isTy .list (.lst o i) = .ok true := rfl
@[simp] theorem recv_join (z : Str) : recvOk .join (.str z) = true := rfl
@[simp] theorem recv_find (z : Str) : recvOk .find (.str z) = true := rfl
@[simp] theorem recv_split (z : Str) : recvOk .split (.str z) = true := rfl
@[simp] theorem recv_sindex (z : Str) : recvOk .strIndex (.str z) = true := rfl
@[simp] theorem recv_lindex (o : Bool) (z : List D) : recvOk .lstIndex (.lst o z) = true := rfl
@[simp] theorem recv_get1 (o : Bool) (z : List (NestedKey × D)) : recvOk .get1 (.dct o z) = true := rfl
@[simp] theorem mtD_get1 (o : Bool) (z : List (NestedKey × D)) (k : D) : mtD .get1 (.dct o z) [k] = (keyIn k z).bind fun k => .ok ((dget z k).getD .non) := rfl
@[simp] theorem binD_add (i j : Int) : binD .add (.int i) (.int j) = .ok (.int (i + j)) := rfl
@[simp] theorem binD_sub (i j : Int) : binD .sub (.int i) (.int j) = .ok (.int (i - j)) := rfl
theorem small64_of {i : Int} (h1 : -18446744073709551616 < i) (h2 : i < 18446744073709551616) : small64 i = true := by
  unfold small64
  simp only [Bool.and_eq_true, decide_eq_true_eq, lim64_eq]
  exact ⟨by omega, by omega⟩
@[simp] theorem binD_mulR (i j : Int) (h1 : -18446744073709551616 < j) (h2 : j < 18446744073709551616) : binD .mul (.int i) (.int j) = .ok (.int (i * j)) := by
  show (if (small64 i || small64 j) = true then R.ok (D.int (i * j)) else .bad) = _
  rw [small64_of h1 h2, Bool.or_true, if_pos rfl]
@[simp] theorem binD_mulL (i j : Int) (h1 : -18446744073709551616 < i) (h2 : i < 18446744073709551616) : binD .mul (.int i) (.int j) = .ok (.int (i * j)) := by
  show (if (small64 i || small64 j) = true then R.ok (D.int (i * j)) else .bad) = _
  rw [small64_of h1 h2, Bool.true_or, if_pos rfl]
theorem log2_small {j : Int} (h : 0 < j) (h2 : j < 18446744073709551616) : j.natAbs.log2 < 9000 := by
  have h3 : j.natAbs < 2 ^ 64 := by omega
  have h4 : j.natAbs ≠ 0 := by omega
  have := (Nat.log2_lt h4).mpr h3
  omega
@[simp] theorem binD_fdiv (i j : Int) (h1 : 0 < j) (h2 : j < 18446744073709551616) : binD .fdiv (.int i) (.int j) = .ok (.int (i / j)) := by
  show (if 0 < j ∧ j.natAbs.log2 < 9000 then R.ok (D.int (i / j)) else .bad) = _
  rw [if_pos ⟨h1, log2_small h1 h2⟩]
@[simp] theorem binD_mod (i j : Int) (h1 : 0 < j) : binD .mod (.int i) (.int j) = .ok (.int (i % j)) := by
  show (if 0 < j then R.ok (D.int (i % j)) else .bad) = _
  rw [if_pos h1]
/-- a loop over a list, by an invariant -/
theorem fr_inv {p : Pat} {f : SF} (Inv : Nat → Sl → Prop) : ∀ (xs : List D) (k : Nat) (σ : Sl), Inv k σ →
    (∀ i x σ, xs[i]? = some x → Inv (k + i) σ → ∃ σ1 σ', bindP σ p x = .ok σ1 ∧ (f σ1 = .nx σ' ∨ f σ1 = .ct σ') ∧ Inv (k + i + 1) σ') → ∃ σ', fr p f xs σ = .nx σ' ∧ Inv (k + xs.length) σ'
  | [], k, σ, h0, _ => ⟨σ, rfl, h0⟩
  | x :: xs, k, σ, h0, h => by
    obtain ⟨σ1, σ', e1, e2, i1⟩ := h 0 x σ rfl h0
    obtain ⟨σ2, e3, i2⟩ := fr_inv Inv xs (k + 1) σ' i1 fun i y σ hy hi => by
      have := h (i + 1) y σ (by simpa using hy) (by rw [show k + (i + 1) = k + 1 + i by omega]; exact hi)
      rw [show k + (i + 1) + 1 = k + 1 + i + 1 by omega] at this
      exact this
    refine ⟨σ2, ?_, by rw [List.length_cons, show k + (xs.length + 1) = k + 1 + xs.length by omega]; exact i2⟩
    rw [fr, e1]
    rcases e2 with e2 | e2
    · simp only [rS, e2]; exact e3
    · simp only [rS, e2]; exact e3
theorem compR_map {f : D → R (Option D)} {g : D → D} : ∀ (xs : List D), (∀ x ∈ xs, f x = .ok (some (g x))) → compR f xs = .ok (xs.map g)
  | [], _ => rfl
  | x :: xs, h => by
    rw [compR, h x List.mem_cons_self, compR_map xs fun y hy => h y (List.mem_cons_of_mem _ hy)]
    rfl
/-! ### the k-th number -/
def M1 : Int := 2147483647
def M2 : Int := 2147483659
def cellC (ns : List Int) (k : Nat) : Int := ns.getD (k % ns.length) 0
def cellZ (ns : List Int) (k : Nat) : Int :=
  cellC ns k / 2147483647 * 2147483659 + ((cellC ns k % 2147483647 + 7919 * k + 1) * 48271 % 2147483647 * 69621 + 104729 * k) % 2147483659
def scr (ns : List Int) : D := .lst false (ns.map D.int)
end DI
namespace DI
open PySem
theorem atI_ok {α : Type} {xs : List α} {i : Int} (h0 : 0 ≤ i) (h1 : i < xs.length) : ∃ x, L2.atI xs i = some x ∧ x ∈ xs ∧ xs[i.toNat]? = some x := by
  have hl : i.toNat < xs.length := by omega
  refine ⟨xs[i.toNat], ?_, List.getElem_mem _, List.getElem?_eq_getElem hl⟩
  have e : ((i.toNat : Nat) : Int) = i := by omega
  have := L2.atI_nat (List.getElem?_eq_getElem hl)
  rw [e] at this
  exact this
@[simp] theorem cleanL_ints (r : List Int) : cleanL (r.map D.int) = true := by induction r with
  | nil => rfl
  | cons x r ih => simpa [cleanL, clean] using ih
def rowD (r : List Int) : D := .tup (r.map D.int)
@[simp] theorem cleanL_rows (r : List (List Int)) : cleanL (r.map rowD) = true := by induction r with
  | nil => rfl
  | cons x r ih => simp [cleanL, rowD, clean] at ih ⊢; exact ih
@[simp] theorem cleanL_app {xs ys : List D} (a : cleanL xs = true) (b : cleanL ys = true) : cleanL (xs ++ ys) = true := cleanL_append a b
theorem small62_of {i : Int} (h1 : 0 ≤ i) (h2 : i < 1000000) : small62 i = true := by
  unfold small62
  simp only [Bool.and_eq_true, decide_eq_true_eq, lim62_eq]
  exact ⟨by omega, by omega⟩
theorem sizeLine_big : 1000000 ≤ sizeLine := by decide
end DI
namespace DI
open PySem
theorem sSeq_nx {f k : SF} {σ σ' : Sl} (h : f σ = .nx σ') : sSeq f k σ = k σ' := by show (f σ).andThen k = _; rw [h]; rfl
theorem sSeq_rt {f k : SF} {σ : Sl} {d : D} (h : f σ = .rt d) : sSeq f k σ = .rt d := by show (f σ).andThen k = _; rw [h]; rfl
@[simp] theorem frz_scr (ns : List Int) : frz (scr ns) = scr ns := frz_clean _ (by simp [scr, clean])
@[simp] theorem clean_scr (ns : List Int) : clean (scr ns) = true := by simp [scr, clean]
@[simp] theorem idxD_scr (ns : List Int) (i : Int) : idxD (scr ns) (.int i) = ofR ((L2.atI ns i).map D.int) := by unfold scr; rw [idxD_lst, atI_map]
@[simp] theorem biD_scr (ns : List Int) : biD .len [scr ns] = .ok (.int ns.length) := by unfold scr; rw [biD_lenL, List.length_map]
end DI
namespace DI
theorem sFor_ok {p : Pat} {src : Sl → R (List D)} {f : SF} {σ : Sl} {xs : List D} (h : src σ = .ok xs) : sFor p src f σ = fr p f xs σ := by show rS (src σ) σ _ = _; rw [h]; rfl
theorem sIf_true {c : Sl → R D} {f k : SF} {σ : Sl} (h : c σ = .ok (.bl true)) : sIf c f k σ = f σ := by show rS (c σ) σ _ = _; rw [h]; rfl
theorem sIf_false {c : Sl → R D} {f k : SF} {σ : Sl} (h : c σ = .ok (.bl false)) : sIf c f k σ = k σ := by show rS (c σ) σ _ = _; rw [h]; rfl
end DI
namespace DI
@[simp] theorem le_line {n : Nat} (h : n ≤ 1000000) : n ≤ PySem.sizeLine := Nat.le_trans h sizeLine_big
@[simp] theorem lt_line {n : Nat} (h : n < 1000000) : n < PySem.sizeLine := Nat.lt_of_lt_of_le h sizeLine_big
end DI
namespace DI
open PySem
@[simp] theorem noErr_a {α : Type} (a : α) : noErr (.ok a) = .ok a := rfl
@[simp] theorem wipeL_nil (σ : Sl) : wipeL σ [] = σ := rfl
@[simp] theorem wipeL_cons (σ : Sl) (v : Nat) (vs : List Nat) : wipeL σ (v :: vs) = (wipeL σ vs).set v none := rfl
theorem comp_ok {vs : List Nat} {p : Pat} {fi : Sl → R (List D)} {fc fe : Sl → R D} {σ : Sl} {xs : List D} {g : D → D} (h1 : fi σ = .ok xs) (h2 : ∀ x ∈ xs, cBody vs p fc fe σ x = .ok (some (g x))) (h3 : xs.length ≤ sizeLine) :
    eComp vs p fi fc fe σ = .ok (.lst true (xs.map g)) := by
  unfold eComp
  rw [h1, R.bind_ok, compR_map xs h2, R.bind_ok, if_pos (by rw [List.length_map]; exact h3)]
theorem mem_rngL {x : D} {n : Nat} (h : x ∈ rngL 0 n) : ∃ i : Nat, i < n ∧ x = .int (i : Int) := by
  unfold rngL at h
  obtain ⟨i, hi, rfl⟩ := List.mem_map.mp h
  exact ⟨i, List.mem_range.mp hi, by rw [Int.zero_add]⟩
end DI
namespace DI
theorem lp_false {c : Sl → R D} {f : SF} {n : Nat} {σ : Sl} (h : c σ = .ok (.bl false)) : lp c f (n + 1) σ = .nx σ := by rw [lp, h]; rfl
theorem lp_true {c : Sl → R D} {f : SF} {n : Nat} {σ σ' : Sl} (h : c σ = .ok (.bl true)) (h2 : f σ = .nx σ') : lp c f (n + 1) σ = lp c f n σ' := by rw [lp, h, rS_ok, h2]; rfl
end DI
/-! TL, typed values: encoders and what they keep -/
namespace DI
open PySem
abbrev St := List Char
def sD (s : St) : Str := ⟨(s.map Char.toNat).toArray⟩
def eSt (s : St) : D := .str (sD s)
def eCh (c : Char) : D := oneOf c.toNat
def eNon (_ : Unit) : D := .non
def eOp {α : Type} (e : α → D) : Option α → D
  | none => .non
  | some a => e a
abbrev Turn := Int ⊕ St
instance decTurn : DecidableEq Turn := inferInstance
instance decRow : DecidableEq (Turn × List (Int × Int) × Turn) := inferInstance
def eTu : Turn → D
  | .inl i => .int i
  | .inr s => eSt s
def eT1 {α : Type} (e : α → D) (a : α) : D := .tup [e a]
def eT2 {α β : Type} (e : α → D) (f : β → D) (p : α × β) : D := .tup [e p.1, f p.2]
def eT3 {α β γ : Type} (e : α → D) (f : β → D) (g : γ → D) (p : α × β × γ) : D := .tup [e p.1, f p.2.1, g p.2.2]
def eT4 {α β γ δ : Type} (e : α → D) (f : β → D) (g : γ → D) (h : δ → D) (p : α × β × γ × δ) : D := .tup [e p.1, f p.2.1, g p.2.2.1, h p.2.2.2]
def eT5 {α β γ δ ε : Type} (e : α → D) (f : β → D) (g : γ → D) (h : δ → D) (k : ε → D) (p : α × β × γ × δ × ε) : D := .tup [e p.1, f p.2.1, g p.2.2.1, h p.2.2.2.1, k p.2.2.2.2]
def eSq {α : Type} (e : α → D) (xs : List α) : D := .tup (xs.map e)
def eLs {α : Type} (o : Bool) (e : α → D) (xs : List α) : D := .lst o (xs.map e)
def eDc {α β : Type} (o : Bool) (κ : α → NestedKey) (e : β → D) (kvs : List (α × β)) : D := .dct o (kvs.map fun p => (κ p.1, e p.2))
def eDy (d : D) : D := d

/-! ### no owned thing, no frozen thing, what freezing makes -/
section
variable {α β γ δ ε α' β' : Type}
def Cl (e : α → D) : Prop := ∀ a, clean (e a) = true
def Nf (e : α → D) : Prop := ∀ a, noFrz (e a) = true
def Fz (e e' : α → D) : Prop := ∀ a, frz (e a) = e' a
theorem Cl.fz {e : α → D} (h : Cl e) : Fz e e := fun a => frz_clean _ (h a)
theorem cl_int : Cl D.int := fun _ => rfl
theorem cl_bl : Cl D.bl := fun _ => rfl
theorem cl_st : Cl eSt := fun _ => rfl
theorem cl_ch : Cl eCh := fun _ => rfl
theorem cl_non : Cl eNon := fun _ => rfl
theorem cl_tu : Cl eTu := fun a => by cases a <;> rfl
theorem cl_op {e : α → D} (h : Cl e) : Cl (eOp e) := fun a => by cases a with
  | none => rfl
  | some a => exact h a
theorem cl_map {e : α → D} (h : Cl e) (xs : List α) : cleanL (xs.map e) = true := by
  rw [cleanL_all, List.all_map]
  exact List.all_eq_true.mpr fun a _ => h a
theorem cl_t1 {e : α → D} (h : Cl e) : Cl (eT1 e) := fun a => by simp [eT1, h a]
theorem cl_t2 {e : α → D} {f : β → D} (h : Cl e) (h2 : Cl f) : Cl (eT2 e f) := fun a => by simp [eT2, h _, h2 _]
theorem cl_t3 {e : α → D} {f : β → D} {g : γ → D} (h : Cl e) (h2 : Cl f) (h3 : Cl g) : Cl (eT3 e f g) := fun a => by simp [eT3, h _, h2 _, h3 _]
theorem cl_t4 {e : α → D} {f : β → D} {g : γ → D} {k : δ → D} (h : Cl e) (h2 : Cl f) (h3 : Cl g) (h4 : Cl k) : Cl (eT4 e f g k) := fun a => by simp [eT4, h _, h2 _, h3 _, h4 _]
theorem cl_t5 {e : α → D} {f : β → D} {g : γ → D} {k : δ → D} {l : ε → D} (h : Cl e) (h2 : Cl f) (h3 : Cl g) (h4 : Cl k) (h5 : Cl l) : Cl (eT5 e f g k l) := fun a => by simp [eT5, h _, h2 _, h3 _, h4 _, h5 _]
theorem cl_sq {e : α → D} (h : Cl e) : Cl (eSq e) := fun a => by simp [eSq, cl_map h]
theorem cl_ls {e : α → D} (h : Cl e) : Cl (eLs false e) := fun a => by simp [eLs, cl_map h]
theorem cl_dc {κ : α → NestedKey} {e : β → D} : Cl (eDc false κ e) := fun a => by simp [eDc]
theorem nf_int : Nf D.int := fun _ => rfl
theorem nf_bl : Nf D.bl := fun _ => rfl
theorem nf_st : Nf eSt := fun _ => rfl
theorem nf_ch : Nf eCh := fun _ => rfl
theorem nf_non : Nf eNon := fun _ => rfl
theorem nf_tu : Nf eTu := fun a => by cases a <;> rfl
theorem nf_op {e : α → D} (h : Nf e) : Nf (eOp e) := fun a => by cases a with
  | none => rfl
  | some a => exact h a
theorem nf_map {e : α → D} (h : Nf e) (xs : List α) : noFrzL (xs.map e) = true := by
  rw [noFrzL_all, List.all_map]
  exact List.all_eq_true.mpr fun a _ => h a
theorem nf_t1 {e : α → D} (h : Nf e) : Nf (eT1 e) := fun a => by simp [eT1, h a]
theorem nf_t2 {e : α → D} {f : β → D} (h : Nf e) (h2 : Nf f) : Nf (eT2 e f) := fun a => by simp [eT2, h _, h2 _]
theorem nf_t3 {e : α → D} {f : β → D} {g : γ → D} (h : Nf e) (h2 : Nf f) (h3 : Nf g) : Nf (eT3 e f g) := fun a => by simp [eT3, h _, h2 _, h3 _]
theorem nf_t4 {e : α → D} {f : β → D} {g : γ → D} {k : δ → D} (h : Nf e) (h2 : Nf f) (h3 : Nf g) (h4 : Nf k) : Nf (eT4 e f g k) := fun a => by simp [eT4, h _, h2 _, h3 _, h4 _]
theorem nf_t5 {e : α → D} {f : β → D} {g : γ → D} {k : δ → D} {l : ε → D} (h : Nf e) (h2 : Nf f) (h3 : Nf g) (h4 : Nf k) (h5 : Nf l) : Nf (eT5 e f g k l) := fun a => by simp [eT5, h _, h2 _, h3 _, h4 _, h5 _]
theorem nf_sq {e : α → D} (h : Nf e) : Nf (eSq e) := fun a => by simp [eSq, nf_map h]
theorem nf_ls {e : α → D} (h : Nf e) : Nf (eLs true e) := fun a => by simp [eLs, nf_map h]
theorem nf_dc {κ : α → NestedKey} {e : β → D} (h : Nf e) : Nf (eDc true κ e) := fun a => by
  simp [eDc, noFrzK_map]
  rw [show (fun p : NestedKey × D => p.2) ∘ (fun p : α × β => (κ p.1, e p.2)) = fun p : α × β => e p.2 from rfl]
  exact nf_map (e := fun p : α × β => e p.2) (fun p => h p.2) a
theorem fz_op {e e' : α → D} (h : Fz e e') : Fz (eOp e) (eOp e') := fun a => by cases a with
  | none => rfl
  | some a => exact h a
theorem fz_map {e e' : α → D} (h : Fz e e') (xs : List α) : frzL (xs.map e) = xs.map e' := by
  rw [frzL_map, List.map_map]
  exact List.map_congr_left fun a _ => h a
theorem fz_t1 {e e' : α → D} (h : Fz e e') : Fz (eT1 e) (eT1 e') := fun a => by simp [eT1, h a]
theorem fz_t2 {e e' : α → D} {f f' : β → D} (h : Fz e e') (h2 : Fz f f') : Fz (eT2 e f) (eT2 e' f') := fun a => by simp [eT2, h _, h2 _]
theorem fz_t3 {e e' : α → D} {f f' : β → D} {g g' : γ → D} (h : Fz e e') (h2 : Fz f f') (h3 : Fz g g') : Fz (eT3 e f g) (eT3 e' f' g') := fun a => by simp [eT3, h _, h2 _, h3 _]
theorem fz_t4 {e e' : α → D} {f f' : β → D} {g g' : γ → D} {k k' : δ → D} (h : Fz e e') (h2 : Fz f f') (h3 : Fz g g') (h4 : Fz k k') : Fz (eT4 e f g k) (eT4 e' f' g' k') := fun a => by simp [eT4, h _, h2 _, h3 _, h4 _]
theorem fz_sq {e e' : α → D} (h : Fz e e') : Fz (eSq e) (eSq e') := fun a => by simp [eSq, fz_map h]
theorem fz_ls {o : Bool} {e e' : α → D} (h : Fz e e') : Fz (eLs o e) (eLs false e') := fun a => by simp [eLs, fz_map h]
theorem fz_dc {o : Bool} {κ : α → NestedKey} {e : β → D} : Fz (eDc o κ e) (eDc false κ e) := fun a => by simp [eDc]

/-! ### equality -/
structure PyE (e : α → D) (p : α → PyData) (n : Nat) : Prop where
  py : ∀ a, py (e a) = some (p a)
  lay : ∀ a, (p a).canLay0 = true
  dep : ∀ a, (p a).depth ≤ n
  nn : ∀ a, p a = .none → e a = .non
def PyQ [DecidableEq α] (p : α → PyData) : Prop := ∀ a b, PyData.eqv (p a) (p b) = decide (a = b)
def pInt : Int → PyData := .int
def pBl : Bool → PyData := .bool
def pSt (s : St) : PyData := .str (sD s)
def pCh (c : Char) : PyData := .str ⟨#[c.toNat]⟩
def pNon (_ : Unit) : PyData := .none
def pOp (p : α → PyData) : Option α → PyData
  | none => .none
  | some a => p a
def pTu : Turn → PyData
  | .inl i => .int i
  | .inr s => pSt s
def pT1 (p : α → PyData) (x : α) : PyData := .tuple [p x]
def pT2 (p : α → PyData) (q : β → PyData) (x : α × β) : PyData := .tuple [p x.1, q x.2]
def pT3 (p : α → PyData) (q : β → PyData) (r : γ → PyData) (x : α × β × γ) : PyData := .tuple [p x.1, q x.2.1, r x.2.2]
def pT4 (p : α → PyData) (q : β → PyData) (r : γ → PyData) (t : δ → PyData) (x : α × β × γ × δ) : PyData := .tuple [p x.1, q x.2.1, r x.2.2.1, t x.2.2.2]
def pSq (p : α → PyData) (xs : List α) : PyData := .tuple (xs.map p)
def pLs (p : α → PyData) (xs : List α) : PyData := .list (xs.map p)
def Nn (p : α → PyData) : Prop := ∀ a, p a ≠ .none
theorem toNat_inj {a b : Char} (h : a.toNat = b.toNat) : a = b := by
  apply Char.ext
  exact UInt32.toNat_inj.mp h
theorem map_toNat_inj : ∀ {a b : St}, a.map Char.toNat = b.map Char.toNat → a = b
  | [], [], _ => rfl
  | x :: a, y :: b, h => by
    simp only [List.map_cons, List.cons.injEq] at h
    rw [toNat_inj h.1, map_toNat_inj h.2]
theorem sD_inj {a b : St} (h : sD a = sD b) : a = b := by
  unfold sD at h
  simp only [Str.mk.injEq] at h
  exact map_toNat_inj (by simpa using congrArg Array.toList h)
theorem sD_len (s : St) : (sD s).length = s.length := by simp [sD, Str.length]
theorem sD_cps (s : St) : (sD s).cps.toList = s.map Char.toNat := by simp [sD]
theorem strOk_sD (s : St) : PyData.strOk (sD s) = true := by
  unfold PyData.strOk sD
  simp
  intro c _
  have h : c.val.toNat.isValidChar := c.valid
  show c.val.toNat < 1114112
  unfold Nat.isValidChar at h
  omega
theorem pyL_map {e : α → D} {p : α → PyData} (h : ∀ a, py (e a) = some (p a)) : ∀ xs : List α, pyL (xs.map e) = some (xs.map p)
  | [] => by rw [List.map_nil, List.map_nil, pyL]
  | x :: xs => by
    rw [List.map_cons, List.map_cons, pyL, h x, pyL_map h xs]
    rfl
theorem lay_map {p : α → PyData} (h : ∀ a, (p a).canLay0 = true) : ∀ xs : List α, PyData.canLayAll0 (xs.map p) = true
  | [] => by rw [List.map_nil, PyData.canLayAll0]
  | x :: xs => by rw [List.map_cons, PyData.canLayAll0, h x, lay_map h xs]; rfl
theorem dep_map {p : α → PyData} {n : Nat} (h : ∀ a, (p a).depth ≤ n) : ∀ xs : List α, PyData.depthAll (xs.map p) ≤ n
  | [] => by rw [List.map_nil, PyData.depthAll]; omega
  | x :: xs => by
    have := h x
    have := dep_map h xs
    rw [List.map_cons, PyData.depthAll]; omega
theorem eqv_map [DecidableEq α] {p : α → PyData} (h : PyQ p) : ∀ xs ys : List α, PyData.eqvAll (xs.map p) (ys.map p) = decide (xs = ys)
  | [], [] => by simp [PyData.eqvAll]
  | [], y :: ys => by simp [PyData.eqvAll]
  | x :: xs, [] => by simp [PyData.eqvAll]
  | x :: xs, y :: ys => by
    rw [List.map_cons, List.map_cons, PyData.eqvAll, h x y, eqv_map h xs ys]
    simp
theorem py_int : PyE D.int pInt 0 := ⟨fun _ => rfl, fun _ => rfl, fun _ => by simp [pInt, PyData.depth], fun _ h => by cases h⟩
theorem py_bl : PyE D.bl pBl 0 := ⟨fun _ => rfl, fun _ => rfl, fun _ => by simp [pBl, PyData.depth], fun _ h => by cases h⟩
theorem py_st : PyE eSt pSt 0 := ⟨fun _ => rfl, fun a => by simp [pSt, PyData.canLay0, strOk_sD], fun _ => by simp [pSt, PyData.depth], fun _ h => by cases h⟩
theorem py_ch : PyE eCh pCh 0 := ⟨fun _ => rfl, fun a => by rw [pCh, PyData.canLay0]; exact strOk_sD [a], fun _ => by simp [pCh, PyData.depth], fun _ h => by cases h⟩
theorem py_non : PyE eNon pNon 0 := ⟨fun _ => rfl, fun _ => rfl, fun _ => by simp [pNon, PyData.depth], fun _ _ => rfl⟩
theorem py_tu : PyE eTu pTu 0 := ⟨fun a => by cases a <;> rfl, fun a => by cases a with
  | inl i => rfl
  | inr s => exact py_st.lay s, fun a => by cases a <;> simp [pTu, pSt, PyData.depth], fun a h => by cases a <;> cases h⟩
theorem py_op {e : α → D} {p : α → PyData} {n : Nat} (h : PyE e p n) : PyE (eOp e) (pOp p) n := ⟨fun a => by cases a with
  | none => rfl
  | some a => exact h.py a, fun a => by cases a with
  | none => rfl
  | some a => exact h.lay a, fun a => by cases a with
  | none => simp [pOp, PyData.depth]
  | some a => exact h.dep a, fun a q => by cases a with
  | none => rfl
  | some a => exact h.nn a q⟩
theorem py_t1 {e : α → D} {p : α → PyData} {n : Nat} (h : PyE e p n) : PyE (eT1 e) (pT1 p) (n + 1) :=
  ⟨fun a => by unfold eT1; rw [DI.py, DI.pyL, DI.pyL, h.py]; rfl, fun a => by simp [pT1, PyData.canLay0, PyData.canLayAll0, h.lay], fun a => by
    have := h.dep a
    simp only [pT1, PyData.depth, PyData.depthAll]; omega, fun _ q => by cases q⟩
theorem py_t2 {e : α → D} {p : α → PyData} {f : β → D} {q : β → PyData} {n m : Nat} (h : PyE e p n) (h2 : PyE f q m) : PyE (eT2 e f) (pT2 p q) (max n m + 1) :=
  ⟨fun a => by unfold eT2; rw [DI.py, DI.pyL, DI.pyL, DI.pyL, h.py, h2.py]; rfl, fun a => by simp [pT2, PyData.canLay0, PyData.canLayAll0, h.lay, h2.lay], fun a => by
    have := h.dep a.1
    have := h2.dep a.2
    simp only [pT2, PyData.depth, PyData.depthAll]; omega, fun _ q => by cases q⟩
theorem py_t3 {e : α → D} {p : α → PyData} {f : β → D} {q : β → PyData} {g : γ → D} {r : γ → PyData} {n m k : Nat} (h : PyE e p n) (h2 : PyE f q m) (h3 : PyE g r k) : PyE (eT3 e f g) (pT3 p q r) (max (max n m) k + 1) :=
  ⟨fun a => by unfold eT3; rw [DI.py, DI.pyL, DI.pyL, DI.pyL, DI.pyL, h.py, h2.py, h3.py]; rfl, fun a => by simp [pT3, PyData.canLay0, PyData.canLayAll0, h.lay, h2.lay, h3.lay], fun a => by
    have := h.dep a.1
    have := h2.dep a.2.1
    have := h3.dep a.2.2
    simp only [pT3, PyData.depth, PyData.depthAll]; omega, fun _ q => by cases q⟩
theorem py_t4 {e : α → D} {p : α → PyData} {f : β → D} {q : β → PyData} {g : γ → D} {r : γ → PyData} {g4 : δ → D} {r4 : δ → PyData} {n m k l : Nat} (h : PyE e p n) (h2 : PyE f q m) (h3 : PyE g r k) (h4 : PyE g4 r4 l) : PyE (eT4 e f g g4) (pT4 p q r r4) (max (max (max n m) k) l + 1) :=
  ⟨fun a => by unfold eT4; rw [DI.py, DI.pyL, DI.pyL, DI.pyL, DI.pyL, DI.pyL, h.py, h2.py, h3.py, h4.py]; rfl, fun a => by simp [pT4, PyData.canLay0, PyData.canLayAll0, h.lay, h2.lay, h3.lay, h4.lay], fun a => by
    have := h.dep a.1
    have := h2.dep a.2.1
    have := h3.dep a.2.2.1
    have := h4.dep a.2.2.2
    simp only [pT4, PyData.depth, PyData.depthAll]; omega, fun _ q => by cases q⟩
theorem py_sq {e : α → D} {p : α → PyData} {n : Nat} (h : PyE e p n) : PyE (eSq e) (pSq p) (n + 1) :=
  ⟨fun a => by unfold eSq; rw [DI.py, pyL_map h.py]; rfl, fun a => by simp [pSq, PyData.canLay0, lay_map h.lay], fun a => by
    have := dep_map h.dep a
    simp only [pSq, PyData.depth]; omega, fun _ q => by cases q⟩
theorem py_ls {o : Bool} {e : α → D} {p : α → PyData} {n : Nat} (h : PyE e p n) : PyE (eLs o e) (pLs p) (n + 1) :=
  ⟨fun a => by unfold eLs; rw [DI.py, pyL_map h.py]; rfl, fun a => by simp [pLs, PyData.canLay0, lay_map h.lay], fun a => by
    have := dep_map h.dep a
    simp only [pLs, PyData.depth]; omega, fun _ q => by cases q⟩
theorem pq_int : PyQ pInt := fun a b => rfl
theorem pq_bl : PyQ pBl := fun a b => by cases a <;> cases b <;> rfl
theorem pq_st : PyQ pSt := fun a b => by
  simp only [pSt, PyData.eqv]
  by_cases h : a = b
  · subst h; simp
  · have : sD a ≠ sD b := fun q => h (sD_inj q)
    simp [h, this]
theorem pq_ch : PyQ pCh := fun a b => by
  simp only [pCh, PyData.eqv]
  by_cases h : a = b
  · subst h; simp
  · have : a.toNat ≠ b.toNat := fun q => h (toNat_inj q)
    simp [h, this]
theorem pq_non : PyQ pNon := fun a b => rfl
theorem pq_tu : PyQ pTu := fun a b => by
  cases a with
  | inl i => cases b with
    | inl j => simp [pTu, PyData.eqv]; rfl
    | inr t => simp [pTu, pSt, PyData.eqv]
  | inr s => cases b with
    | inl j => simp [pTu, pSt, PyData.eqv]
    | inr t => simpa [pTu] using pq_st s t
theorem eqv_none {d : PyData} (h : d ≠ .none) : PyData.eqv .none d = false ∧ PyData.eqv d .none = false := by
  cases d <;> simp_all [PyData.eqv]
theorem pq_op [DecidableEq α] {p : α → PyData} (h : PyQ p) (hn : Nn p) : PyQ (pOp p) := fun a b => by
  cases a with
  | none => cases b with
    | none => rfl
    | some b => simp [pOp, (eqv_none (hn b)).1]
  | some a => cases b with
    | none => simp [pOp, (eqv_none (hn a)).2]
    | some b => simp [pOp, h a b]
theorem pq_t1 [DecidableEq α] {p : α → PyData} (h : PyQ p) : PyQ (pT1 p) := fun a b => by
  simp [pT1, PyData.eqv, PyData.eqvAll, h _ _]
theorem pq_t2 [DecidableEq α] [DecidableEq β] {p : α → PyData} {q : β → PyData} (h : PyQ p) (h2 : PyQ q) : PyQ (pT2 p q) := fun a b => by
  obtain ⟨a1, a2⟩ := a
  obtain ⟨b1, b2⟩ := b
  simp [pT2, PyData.eqv, PyData.eqvAll, h _ _, h2 _ _]
theorem pq_t3 [DecidableEq α] [DecidableEq β] [DecidableEq γ] {p : α → PyData} {q : β → PyData} {r : γ → PyData} (h : PyQ p) (h2 : PyQ q) (h3 : PyQ r) : PyQ (pT3 p q r) := fun a b => by
  obtain ⟨a1, a2, a3⟩ := a
  obtain ⟨b1, b2, b3⟩ := b
  simp [pT3, PyData.eqv, PyData.eqvAll, h _ _, h2 _ _, h3 _ _]
theorem pq_t4 [DecidableEq α] [DecidableEq β] [DecidableEq γ] [DecidableEq δ] {p : α → PyData} {q : β → PyData} {r : γ → PyData} {t : δ → PyData} (h : PyQ p) (h2 : PyQ q) (h3 : PyQ r) (h4 : PyQ t) : PyQ (pT4 p q r t) := fun a b => by
  obtain ⟨a1, a2, a3, a4⟩ := a
  obtain ⟨b1, b2, b3, b4⟩ := b
  simp [pT4, PyData.eqv, PyData.eqvAll, h _ _, h2 _ _, h3 _ _, h4 _ _]
theorem pq_sq [DecidableEq α] {p : α → PyData} (h : PyQ p) : PyQ (pSq p) := fun a b => by
  simp [pSq, PyData.eqv, eqv_map h]
theorem pq_ls [DecidableEq α] {p : α → PyData} (h : PyQ p) : PyQ (pLs p) := fun a b => by
  simp [pLs, PyData.eqv, eqv_map h]
theorem nn_int : Nn pInt := fun _ h => by cases h
theorem nn_bl : Nn pBl := fun _ h => by cases h
theorem nn_st : Nn pSt := fun _ h => by cases h
theorem nn_ch : Nn pCh := fun _ h => by cases h
theorem nn_tu : Nn pTu := fun a h => by cases a <;> cases h
theorem nn_t1 {p : α → PyData} : Nn (pT1 p) := fun _ h => by cases h
theorem nn_t2 {p : α → PyData} {q : β → PyData} : Nn (pT2 p q) := fun _ h => by cases h
theorem nn_t3 {p : α → PyData} {q : β → PyData} {r : γ → PyData} : Nn (pT3 p q r) := fun _ h => by cases h
theorem nn_t4 {p : α → PyData} {q : β → PyData} {r : γ → PyData} {t : δ → PyData} : Nn (pT4 p q r t) := fun _ h => by cases h
theorem nn_sq {p : α → PyData} : Nn (pSq p) := fun _ h => by cases h
theorem nn_ls {p : α → PyData} : Nn (pLs p) := fun _ h => by cases h
theorem eqD_ty [DecidableEq α] {e e' : α → D} {p : α → PyData} {n n' : Nat} (h : PyE e p n) (h' : PyE e' p n') (q : PyQ p) (hn : n ≤ 64) (hn' : n' ≤ 64) (a b : α) : eqD (e a) (e' b) = .ok (decide (a = b)) := by
  have s : ∀ {e : α → D} {n : Nat} (h : PyE e p n) (hn : n ≤ 64) (a : α), SeqAt.shaped (p a) = true := fun h hn a => by
    unfold SeqAt.shaped
    rw [Bool.and_eq_true, decide_eq_true_iff]
    exact ⟨h.lay a, Nat.le_trans (h.dep a) hn⟩
  rw [eqD_of (h.py a) (h'.py b) (s h hn a) (s h' hn' b), q]
theorem any_map [DecidableEq α] {p : α → PyData} (q : PyQ p) (a : α) : ∀ xs : List α, ((xs.map p).any fun z => PyData.eqv z (p a)) = decide (a ∈ xs)
  | [] => by simp
  | x :: xs => by
    rw [List.map_cons, List.any_cons, any_map q a xs, q]
    simp only [List.mem_cons, Bool.decide_or]
    congr 1
    exact decide_eq_decide.mpr ⟨Eq.symm, Eq.symm⟩
theorem memS_ty [DecidableEq α] {e e' : α → D} {p : α → PyData} {n n' : Nat} (h : PyE e p n) (h' : PyE e' p n') (q : PyQ p) (hn : n ≤ 63) (hn' : n' ≤ 63) (a : α) (xs : List α) : memS (e a) (xs.map e') = .ok (decide (a ∈ xs)) := by
  unfold memS
  rw [h.py, pyL_map h'.py]
  have s1 : SeqAt.shaped (p a) = true := by
    unfold SeqAt.shaped
    rw [Bool.and_eq_true, decide_eq_true_iff]
    exact ⟨h.lay a, Nat.le_trans (h.dep a) (by omega)⟩
  have s2 : SeqAt.shaped (.list (xs.map p)) = true := by
    unfold SeqAt.shaped
    have := dep_map h'.dep xs
    rw [Bool.and_eq_true, decide_eq_true_iff]
    exact ⟨by rw [PyData.canLay0]; exact lay_map h'.lay xs, by rw [PyData.depth]; omega⟩
  simp only [s1, s2, Bool.and_self, if_pos]
  rw [any_map q]

/-! ### keys -/
structure KyE (e : α → D) (κ : α → NestedKey) (n : Nat) : Prop where
  key : ∀ a, key (e a) = some (κ a)
  inj : ∀ a b, κ a = κ b → a = b
  dep : ∀ a, (κ a).depth ≤ n
def KLf (e : α → D) (κ : α → NestedKey) : Prop := ∀ a, isLeafKey (κ a) = true ∧ leafD (e a) = true
def KTp (κ : α → NestedKey) : Prop := ∀ a, isTupKey (κ a) = true
def kInt : Int → NestedKey := .num
def kBl (b : Bool) : NestedKey := .num (if b = true then 1 else 0)
def kSt (s : St) : NestedKey := .text (sD s)
def kNon (_ : Unit) : NestedKey := .none
def kOp (k : α → NestedKey) : Option α → NestedKey
  | none => .none
  | some a => k a
def kTu : Turn → NestedKey
  | .inl i => .num i
  | .inr s => .text (sD s)
def kT1 (k : α → NestedKey) (x : α) : NestedKey := .tup [k x]
def kT2 (k : α → NestedKey) (l : β → NestedKey) (x : α × β) : NestedKey := .tup [k x.1, l x.2]
def kT3 (k : α → NestedKey) (l : β → NestedKey) (m : γ → NestedKey) (x : α × β × γ) : NestedKey := .tup [k x.1, l x.2.1, m x.2.2]
def kSq (k : α → NestedKey) (xs : List α) : NestedKey := .tup (xs.map k)
def KNn (k : α → NestedKey) : Prop := ∀ a, k a ≠ .none
theorem ky_int : KyE D.int kInt 0 := ⟨fun _ => rfl, fun a b h => by cases h; rfl, fun _ => by simp [kInt, NestedKey.depth]⟩
theorem ky_st : KyE eSt kSt 0 := ⟨fun _ => rfl, fun a b h => by
  simp only [kSt, NestedKey.text.injEq] at h
  exact sD_inj h, fun _ => by simp [kSt, NestedKey.depth]⟩
theorem ky_tu : KyE eTu kTu 0 := ⟨fun a => by cases a <;> rfl, fun a b h => by
  cases a <;> cases b <;> simp only [kTu, NestedKey.text.injEq, NestedKey.num.injEq, reduceCtorEq] at h
  · rw [h]
  · rw [sD_inj h], fun a => by cases a <;> simp [kTu, NestedKey.depth]⟩
theorem ky_op {e : α → D} {k : α → NestedKey} {n : Nat} (h : KyE e k n) (hn : KNn k) : KyE (eOp e) (kOp k) n := ⟨fun a => by cases a with
  | none => rfl
  | some a => exact h.key a, fun a b q => by
  cases a with
  | none => cases b with
    | none => rfl
    | some b => exact absurd q.symm (hn b)
  | some a => cases b with
    | none => exact absurd q (hn a)
    | some b => rw [h.inj a b q], fun a => by cases a with
  | none => simp [kOp, NestedKey.depth]
  | some a => exact h.dep a⟩
theorem ky_t1 {e : α → D} {k : α → NestedKey} {n : Nat} (h : KyE e k n) : KyE (eT1 e) (kT1 k) (n + 1) := ⟨fun a => by simp [eT1, kT1, h.key], fun a b q => by
  simp only [kT1, NestedKey.tup.injEq, List.cons.injEq, and_true] at q
  exact h.inj _ _ q, fun a => by
  have := h.dep a
  simp only [kT1, NestedKey.depth, NestedKey.depthAll]; omega⟩
theorem ky_t2 {e : α → D} {k : α → NestedKey} {f : β → D} {l : β → NestedKey} {n m : Nat} (h : KyE e k n) (h2 : KyE f l m) : KyE (eT2 e f) (kT2 k l) (max n m + 1) := ⟨fun a => by simp [eT2, kT2, h.key, h2.key], fun a b q => by
  simp only [kT2, NestedKey.tup.injEq, List.cons.injEq, and_true] at q
  exact Prod.ext (h.inj _ _ q.1) (h2.inj _ _ q.2), fun a => by
  have := h.dep a.1
  have := h2.dep a.2
  simp only [kT2, NestedKey.depth, NestedKey.depthAll]; omega⟩
theorem ky_t3 {e : α → D} {k : α → NestedKey} {f : β → D} {l : β → NestedKey} {g : γ → D} {r : γ → NestedKey} {n m o : Nat} (h : KyE e k n) (h2 : KyE f l m) (h3 : KyE g r o) : KyE (eT3 e f g) (kT3 k l r) (max (max n m) o + 1) := ⟨fun a => by simp [eT3, kT3, h.key, h2.key, h3.key], fun a b q => by
  simp only [kT3, NestedKey.tup.injEq, List.cons.injEq, and_true] at q
  exact Prod.ext (h.inj _ _ q.1) (Prod.ext (h2.inj _ _ q.2.1) (h3.inj _ _ q.2.2)), fun a => by
  have := h.dep a.1
  have := h2.dep a.2.1
  have := h3.dep a.2.2
  simp only [kT3, NestedKey.depth, NestedKey.depthAll]; omega⟩
theorem keyL_map {e : α → D} {k : α → NestedKey} (h : ∀ a, key (e a) = some (k a)) : ∀ xs : List α, keyL (xs.map e) = some (xs.map k)
  | [] => rfl
  | x :: xs => by
    rw [List.map_cons, List.map_cons, keyL, h x, keyL_map h xs]
    rfl
theorem map_inj {k : α → NestedKey} (h : ∀ a b, k a = k b → a = b) : ∀ {xs ys : List α}, xs.map k = ys.map k → xs = ys
  | [], [], _ => rfl
  | x :: xs, y :: ys, q => by
    simp only [List.map_cons, List.cons.injEq] at q
    rw [h _ _ q.1, map_inj h q.2]
theorem kdep_map {k : α → NestedKey} {n : Nat} (h : ∀ a, (k a).depth ≤ n) : ∀ xs : List α, NestedKey.depthAll (xs.map k) ≤ n
  | [] => by rw [List.map_nil, NestedKey.depthAll]; omega
  | x :: xs => by
    have := h x
    have := kdep_map h xs
    rw [List.map_cons, NestedKey.depthAll]; omega
theorem ky_sq {e : α → D} {k : α → NestedKey} {n : Nat} (h : KyE e k n) : KyE (eSq e) (kSq k) (n + 1) := ⟨fun a => by simp [eSq, kSq, keyL_map h.key], fun a b q => by
  simp only [kSq, NestedKey.tup.injEq] at q
  exact map_inj h.inj q, fun a => by
  have := kdep_map h.dep a
  simp only [kSq, NestedKey.depth]; omega⟩
theorem kn_int : KNn kInt := fun _ h => by cases h
theorem kn_bl : KNn kBl := fun _ h => by cases h
theorem kn_st : KNn kSt := fun _ h => by cases h
theorem kn_tu : KNn kTu := fun a h => by cases a <;> cases h
theorem kn_t1 {k : α → NestedKey} : KNn (kT1 k) := fun _ h => by cases h
theorem kn_t2 {k : α → NestedKey} {l : β → NestedKey} : KNn (kT2 k l) := fun _ h => by cases h
theorem kn_t3 {k : α → NestedKey} {l : β → NestedKey} {m : γ → NestedKey} : KNn (kT3 k l m) := fun _ h => by cases h
theorem kn_sq {k : α → NestedKey} : KNn (kSq k) := fun _ h => by cases h
theorem kl_int : KLf D.int kInt := fun _ => ⟨rfl, rfl⟩
theorem kl_st : KLf eSt kSt := fun _ => ⟨rfl, rfl⟩
theorem kl_tu : KLf eTu kTu := fun a => by cases a <;> exact ⟨rfl, rfl⟩
theorem kt_t1 {k : α → NestedKey} : KTp (kT1 k) := fun _ => rfl
theorem kt_t2 {k : α → NestedKey} {l : β → NestedKey} : KTp (kT2 k l) := fun _ => rfl
theorem kt_t3 {k : α → NestedKey} {l : β → NestedKey} {m : γ → NestedKey} : KTp (kT3 k l m) := fun _ => rfl
theorem kt_sq {k : α → NestedKey} : KTp (kSq k) := fun _ => rfl
/-- an encoder that serves for a dict's keys -/
structure KD (e : α → D) (κ : α → NestedKey) : Prop where
  key : ∀ a, key (e a) = some (κ a)
  inj : ∀ a b, κ a = κ b → a = b
  kin : ∀ (a : α) (ks : List NestedKey), (∀ k ∈ ks, ∃ b, k = κ b) → (isLeafKey (κ a) && ks.all isLeafKey || isTupKey (κ a) && decide ((κ a).depth ≤ 8) && ks.all isTupKey) = true ∧ (isTupKey (κ a) || leafD (e a)) = true
theorem KyE.leaf {e : α → D} {κ : α → NestedKey} {n : Nat} (h : KyE e κ n) (l : KLf e κ) : KD e κ := ⟨h.key, h.inj, fun a ks hk => by
  have : ks.all isLeafKey = true := List.all_eq_true.mpr fun k m => by
    obtain ⟨b, rfl⟩ := hk k m
    exact (l b).1
  simp [this, (l a).1, (l a).2]⟩
theorem KyE.tupk {e : α → D} {κ : α → NestedKey} {n : Nat} (h : KyE e κ n) (l : KTp κ) (hn : n ≤ 8) : KD e κ := ⟨h.key, h.inj, fun a ks hk => by
  have : ks.all isTupKey = true := List.all_eq_true.mpr fun k m => by
    obtain ⟨b, rfl⟩ := hk k m
    exact l b
  have h2 : (κ a).depth ≤ 8 := Nat.le_trans (h.dep a) hn
  simp [this, l a, h2]⟩
def getT [DecidableEq α] (kvs : List (α × β)) (k : α) : Option β := (kvs.find? fun p => decide (p.1 = k)).map (·.2)
def hasT [DecidableEq α] (kvs : List (α × β)) (k : α) : Bool := kvs.any fun p => decide (p.1 = k)
def putT [DecidableEq α] (kvs : List (α × β)) (k : α) (v : β) : List (α × β) :=
  if hasT kvs k = true then kvs.map (fun p => if p.1 = k then (p.1, v) else p) else kvs ++ [(k, v)]
def encK (κ : α → NestedKey) (e : β → D) (kvs : List (α × β)) : List (NestedKey × D) := kvs.map fun p => (κ p.1, e p.2)
theorem KD.keyIn {e : α → D} {κ : α → NestedKey} (h : KD e κ) (f : β → D) (kvs : List (α × β)) (a : α) : DI.keyIn (e a) (encK κ f kvs) = .ok (κ a) := by
  unfold DI.keyIn
  rw [h.key]
  have q := h.kin a (kvs.map fun p => κ p.1) fun k m => by
    obtain ⟨p, _, rfl⟩ := List.mem_map.mp m
    exact ⟨p.1, rfl⟩
  have e1 : keysWith (κ a) (encK κ f kvs) = true := by
    unfold keysWith encK
    have := q.1
    simp only [List.all_map] at this ⊢
    exact this
  simp only [e1, q.2, Bool.and_self, if_pos]
theorem KD.dget [DecidableEq α] {e : α → D} {κ : α → NestedKey} (h : KD e κ) (f : β → D) (kvs : List (α × β)) (a : α) : DI.dget (encK κ f kvs) (κ a) = (getT kvs a).map f := by
  induction kvs with
  | nil => rfl
  | cons p kvs ih =>
    unfold DI.dget getT encK at ih ⊢
    rw [List.map_cons, List.find?_cons, List.find?_cons]
    by_cases q : p.1 = a
    · simp [q]
    · have : κ p.1 ≠ κ a := fun z => q (h.inj _ _ z)
      simp only [this, q, decide_false]
      exact ih
theorem KD.any [DecidableEq α] {e : α → D} {κ : α → NestedKey} (h : KD e κ) (f : β → D) (kvs : List (α × β)) (a : α) : ((encK κ f kvs).any fun p => decide (p.1 = κ a)) = hasT kvs a := by
  unfold hasT encK
  rw [List.any_map]
  congr 1
  funext p
  exact decide_eq_decide.mpr ⟨h.inj _ _, fun z => congrArg κ z⟩
theorem getT_has [DecidableEq α] (kvs : List (α × β)) (a : α) : (getT kvs a).isSome = hasT kvs a := by
  unfold getT hasT
  rw [Option.isSome_map]
  induction kvs with
  | nil => rfl
  | cons p kvs ih => rw [List.find?_cons, List.any_cons]; cases decide (p.1 = a) <;> simp [ih]
theorem KD.dput [DecidableEq α] {e : α → D} {κ : α → NestedKey} (h : KD e κ) (f : β → D) (kvs : List (α × β)) (a : α) (v : β) : DI.dput (encK κ f kvs) (κ a) (f v) = encK κ f (putT kvs a v) := by
  unfold DI.dput putT
  rw [h.any]
  by_cases q : hasT kvs a = true
  · rw [if_pos q, if_pos q]
    unfold encK
    rw [List.map_map, List.map_map]
    apply List.map_congr_left
    intro p _
    by_cases z : p.1 = a
    · simp [z]
    · have : κ p.1 ≠ κ a := fun y => z (h.inj _ _ y)
      simp [z, this]
  · rw [if_neg q, if_neg q]
    unfold encK
    simp
end
end DI
/-! ### no exception within -/
namespace DI
open PySem
section
variable {α β γ δ ε : Type}
def Xf (e : α → D) : Prop := ∀ a, noX (e a) = true
theorem xf_int : Xf D.int := fun _ => rfl
theorem xf_bl : Xf D.bl := fun _ => rfl
theorem xf_st : Xf eSt := fun _ => rfl
theorem xf_ch : Xf eCh := fun _ => rfl
theorem xf_non : Xf eNon := fun _ => rfl
theorem xf_tu : Xf eTu := fun a => by cases a <;> rfl
theorem xf_op {e : α → D} (h : Xf e) : Xf (eOp e) := fun a => by cases a with
  | none => rfl
  | some a => exact h a
theorem xf_map {e : α → D} (h : Xf e) : ∀ xs : List α, noXL (xs.map e) = true
  | [] => rfl
  | x :: xs => by rw [List.map_cons, noXL, h x, xf_map h xs]; rfl
theorem xf_t1 {e : α → D} (h : Xf e) : Xf (eT1 e) := fun a => by unfold eT1; rw [noX, noXL, noXL, h]; rfl
theorem xf_t2 {e : α → D} {f : β → D} (h : Xf e) (h2 : Xf f) : Xf (eT2 e f) := fun a => by unfold eT2; rw [noX, noXL, noXL, noXL, h, h2]; rfl
theorem xf_t3 {e : α → D} {f : β → D} {g : γ → D} (h : Xf e) (h2 : Xf f) (h3 : Xf g) : Xf (eT3 e f g) := fun a => by unfold eT3; rw [noX, noXL, noXL, noXL, noXL, h, h2, h3]; rfl
theorem xf_t4 {e : α → D} {f : β → D} {g : γ → D} {k : δ → D} (h : Xf e) (h2 : Xf f) (h3 : Xf g) (h4 : Xf k) : Xf (eT4 e f g k) := fun a => by unfold eT4; rw [noX, noXL, noXL, noXL, noXL, noXL, h, h2, h3, h4]; rfl
theorem xf_t5 {e : α → D} {f : β → D} {g : γ → D} {k : δ → D} {l : ε → D} (h : Xf e) (h2 : Xf f) (h3 : Xf g) (h4 : Xf k) (h5 : Xf l) : Xf (eT5 e f g k l) := fun a => by unfold eT5; rw [noX, noXL, noXL, noXL, noXL, noXL, noXL, h, h2, h3, h4, h5]; rfl
theorem xf_sq {e : α → D} (h : Xf e) : Xf (eSq e) := fun a => by unfold eSq; rw [noX]; exact xf_map h a
theorem xf_ls {o : Bool} {e : α → D} (h : Xf e) : Xf (eLs o e) := fun a => by unfold eLs; rw [noX]; exact xf_map h a
theorem xf_dc {o : Bool} {κ : α → NestedKey} {e : β → D} (h : Xf e) : Xf (eDc o κ e) := fun a => by
  unfold eDc
  rw [noX, noXK_map, List.map_map]
  exact xf_map (e := fun p : α × β => e p.2) (fun p => h p.2) a
theorem cx_e {e : α → D} (h : Xf e) (a : α) : cx (some (e a)) = some (e a) := if_pos (h a)
theorem clearX_cons (x : Option D) (σ : Sl) : clearX (x :: σ) = cx x :: clearX σ := rfl
theorem clearX_nil : clearX [] = [] := rfl
theorem clear_c {x y : Option D} {σ τ : Sl} (h : cx x = y) (h2 : clearX σ = τ) : clearX (x :: σ) = y :: τ := by rw [clearX_cons, h, h2]
end
end DI
/-! TL, expressions: what a text computes, by typed values -/
namespace DI
open PySem
theorem R.bind_assoc {α β γ : Type} (r : R α) (f : α → R β) (k : β → R γ) : (r.bind f).bind k = r.bind fun a => (f a).bind k := by cases r <;> rfl
section
variable {α β γ δ ε ζ η α' β' : Type}
def Wd (e : α → D) (e' : β → D) (w : α → β) : Prop := ∀ a, e' (w a) = e a
def Nw (e : α → D) (e' : β → D) (w : α → R β) : Prop := ∀ a, match w a with | .ok b => e' b = e a | .err _ _ => False | .bad => True
def Rf (r : R D) (m : R α) (e : α → D) : Prop :=
  match m with
  | .ok a => r = .ok (e a)
  | .err c fs => r = .err c fs
  | .bad => True
theorem Rf.bind {r : R D} {m : R α} {e : α → D} {k : D → R D} {M : α → R β} {e' : β → D} (h : Rf r m e) (h2 : ∀ a, Rf (k (e a)) (M a) e') : Rf (r.bind k) (m.bind M) e' := by
  cases m with
  | ok a => rw [show r = .ok (e a) from h]; exact h2 a
  | err c fs => rw [show r = .err c fs from h]; exact rfl
  | bad => exact True.intro
theorem rf_ok {r : R D} {a : α} {e : α → D} (h : r = .ok (e a)) : Rf r (.ok a) e := h
theorem Rf.guard {c c' : Prop} [Decidable c] [Decidable c'] {r : R D} {m : R α} {e : α → D} (hc : c' → c) (h : Rf r m e) : Rf (if c then r else .bad) (if c' then m else .bad) e := by
  by_cases q : c'
  · rw [if_pos q, if_pos (hc q)]; exact h
  · rw [if_neg q]; exact True.intro
theorem Rf.guard1 {c : Prop} [Decidable c] {r : R D} {m : R α} {e : α → D} (hc : c) (h : Rf r m e) : Rf (if c then r else .bad) m e := by
  rw [if_pos hc]; exact h
theorem Rf.wid {r : R D} {m : R α} {e : α → D} {e' : β → D} (w : α → β) (h : Rf r m e) (hw : Wd e e' w) : Rf r (m.bind fun a => .ok (w a)) e' := by
  cases m with
  | ok a => exact (show r = .ok (e a) from h).trans (congrArg R.ok (hw a).symm)
  | err c fs => exact h
  | bad => exact True.intro
theorem Rf.nar {r : R D} {m : R α} {e : α → D} {e' : β → D} (w : α → R β) (h : Rf r m e) (hw : Nw e e' w) : Rf r (m.bind w) e' := by
  cases m with
  | ok a =>
    have q := hw a
    show Rf r (w a) e'
    cases hb : w a with
    | ok b => rw [hb] at q; exact (show r = .ok (e a) from h).trans (congrArg R.ok q.symm)
    | err c fs => rw [hb] at q; exact q.elim
    | bad => exact True.intro
  | err c fs => exact h
  | bad => exact True.intro
variable {σ : Sl} {f k l : Sl → R D} {e : α → D} {e' : β → D} {m : R α} {n : R β}
theorem rf_v {i : Nat} {a : α} (e : α → D) (h : getS σ i = .ok (e a)) : Rf (eV i σ) (.ok a) e := h
theorem rf_k {d : D} {a : α} (e : α → D) (h : d = e a) : Rf (eK d σ) (.ok a) e := congrArg R.ok h
theorem rf_o (c : Cl e) (h : Rf (f σ) m e) : Rf (eO f σ) m e := by
  have := Rf.bind (k := fun d => if clean d = true then .ok d else .bad) (M := fun a => .ok a) (e' := e) h fun a => .guard1 (c a) rfl
  cases m <;> exact this
theorem rf_neg {m : R Int} (h : Rf (f σ) m D.int) : Rf (eNeg f σ) (m.bind fun i => .ok (-i)) D.int := h.bind fun _ => rfl
theorem rf_not {m : R Bool} (h : Rf (f σ) m D.bl) : Rf (eNot f σ) (m.bind fun i => .ok (!i)) D.bl := h.bind fun _ => rfl
/-! operators -/
def szT (n : Nat) (a : α) : R α := if n ≤ sizeLine then .ok a else .bad
noncomputable def mulT (i j : Int) : R Int := if (small64 i || small64 j) = true then .ok (i * j) else .bad
def fdivT (i j : Int) : R Int := if 0 < j ∧ j.natAbs.log2 < 9000 then .ok (i / j) else .bad
def modT (i j : Int) : R Int := if 0 < j then .ok (i % j) else .bad
def powT (i j : Int) : R Int := if 0 ≤ j ∧ j ≤ 1000000 ∧ i.natAbs < 2 ^ 64 then .ok (i ^ j.toNat) else .bad
theorem rf_add {m n : R Int} (h : Rf (f σ) m D.int) (h2 : Rf (k σ) n D.int) : Rf (eB .add f k σ) (m.bind fun i => n.bind fun j => .ok (i + j)) D.int := h.bind fun _ => h2.bind fun _ => rfl
theorem rf_sub {m n : R Int} (h : Rf (f σ) m D.int) (h2 : Rf (k σ) n D.int) : Rf (eB .sub f k σ) (m.bind fun i => n.bind fun j => .ok (i - j)) D.int := h.bind fun _ => h2.bind fun _ => rfl
theorem rf_mul {m n : R Int} (h : Rf (f σ) m D.int) (h2 : Rf (k σ) n D.int) : Rf (eB .mul f k σ) (m.bind fun i => n.bind fun j => mulT i j) D.int := h.bind fun i => h2.bind fun j => .guard id rfl
theorem rf_mulR {m : R Int} {j : Int} (b : -18446744073709551616 < j ∧ j < 18446744073709551616) (h : Rf (f σ) m D.int) : Rf (eB .mul f (eK (.int j)) σ) (m.bind fun i => .ok (i * j)) D.int := h.bind fun i => rf_ok (binD_mulR i j b.1 b.2)
theorem rf_mulL {m : R Int} {j : Int} (b : -18446744073709551616 < j ∧ j < 18446744073709551616) (h : Rf (f σ) m D.int) : Rf (eB .mul (eK (.int j)) f σ) (m.bind fun i => .ok (j * i)) D.int := h.bind fun i => rf_ok (binD_mulL j i b.1 b.2)
theorem rf_fdiv {m n : R Int} (h : Rf (f σ) m D.int) (h2 : Rf (k σ) n D.int) : Rf (eB .fdiv f k σ) (m.bind fun i => n.bind fun j => fdivT i j) D.int := h.bind fun i => h2.bind fun j => .guard id rfl
theorem rf_fdivK {m : R Int} {j : Int} (b : 0 < j ∧ j < 18446744073709551616) (h : Rf (f σ) m D.int) : Rf (eB .fdiv f (eK (.int j)) σ) (m.bind fun i => .ok (i / j)) D.int := h.bind fun i => rf_ok (binD_fdiv i j b.1 b.2)
theorem rf_mod {m n : R Int} (h : Rf (f σ) m D.int) (h2 : Rf (k σ) n D.int) : Rf (eB .mod f k σ) (m.bind fun i => n.bind fun j => modT i j) D.int := h.bind fun i => h2.bind fun j => .guard id rfl
theorem rf_modK {m : R Int} {j : Int} (b : 0 < j) (h : Rf (f σ) m D.int) : Rf (eB .mod f (eK (.int j)) σ) (m.bind fun i => .ok (i % j)) D.int := h.bind fun i => rf_ok (binD_mod i j b)
theorem rf_pow {m n : R Int} (h : Rf (f σ) m D.int) (h2 : Rf (k σ) n D.int) : Rf (eB .pow f k σ) (m.bind fun i => n.bind fun j => powT i j) D.int := h.bind fun i => h2.bind fun j => .guard id rfl
theorem sD_app (a b : St) : sD a ++ sD b = sD (a ++ b) := by
  show Str.mk _ = Str.mk _
  simp [sD]
theorem rf_addS {m n : R St} (h : Rf (f σ) m eSt) (h2 : Rf (k σ) n eSt) : Rf (eB .add f k σ) (m.bind fun i => n.bind fun j => szT (i.length + j.length) (i ++ j)) eSt :=
  h.bind fun i => h2.bind fun j => .guard (by rw [sD_len, sD_len]; exact id) (rf_ok (by rw [sD_app]; rfl))
theorem rf_addL {e : α → D} (c : Cl e) {m n : R (List α)} (h : Rf (f σ) m (eLs true e)) (h2 : Rf (k σ) n (eLs true e)) : Rf (eB .add f k σ) (m.bind fun i => n.bind fun j => szT (i.length + j.length) (i ++ j)) (eLs true e) :=
  h.bind fun i => h2.bind fun j => .guard (fun q => ⟨by rw [cl_map c, cl_map c]; rfl, by simpa using q⟩) (rf_ok (by simp [eLs]))
theorem rf_addQ {e : α → D} (c : Cl e) {m n : R (List α)} (h : Rf (f σ) m (eSq e)) (h2 : Rf (k σ) n (eSq e)) : Rf (eB .add f k σ) (m.bind fun i => n.bind fun j => szT (i.length + j.length) (i ++ j)) (eSq e) :=
  h.bind fun i => h2.bind fun j => .guard (fun q => ⟨by rw [cl_map c, cl_map c]; rfl, by simpa using q⟩) (rf_ok (by simp [eSq]))
theorem rf_repL {e : α → D} (c : Cl e) {m : R (List α)} {n : R Int} (h : Rf (f σ) m (eLs true e)) (h2 : Rf (k σ) n D.int) : Rf (eB .mul f k σ) (m.bind fun i => n.bind fun j => if small62 j = true ∧ i.length * j.toNat ≤ sizeLine then .ok (List.replicate j.toNat i).flatten else .bad) (eLs true e) :=
  h.bind fun i => h2.bind fun j => .guard (fun q => ⟨cl_map c i, q.1, by simpa using q.2⟩) (rf_ok (by simp [eLs, List.map_flatten, List.map_replicate]))
theorem rf_eq [DecidableEq α] {e e' : α → D} {p : α → PyData} {u u' : Nat} (h : PyE e p u) (h' : PyE e' p u') (q : PyQ p) (hn : u ≤ 64) (hn' : u' ≤ 64) {m n : R α} (h1 : Rf (f σ) m e) (h2 : Rf (k σ) n e') : Rf (eC .eq f k σ) (m.bind fun a => n.bind fun b => .ok (decide (a = b))) D.bl :=
  h1.bind fun a => h2.bind fun b => rf_ok (by rw [cmpD_eq, eqD_ty h h' q hn hn']; rfl)
theorem rf_ne [DecidableEq α] {e e' : α → D} {p : α → PyData} {u u' : Nat} (h : PyE e p u) (h' : PyE e' p u') (q : PyQ p) (hn : u ≤ 64) (hn' : u' ≤ 64) {m n : R α} (h1 : Rf (f σ) m e) (h2 : Rf (k σ) n e') : Rf (eC .ne f k σ) (m.bind fun a => n.bind fun b => .ok (!decide (a = b))) D.bl :=
  h1.bind fun a => h2.bind fun b => rf_ok (by rw [cmpD_ne, eqD_ty h h' q hn hn']; rfl)
theorem rf_inL [DecidableEq α] {o : Bool} {e e' : α → D} {p : α → PyData} {u u' : Nat} (h : PyE e p u) (h' : PyE e' p u') (q : PyQ p) (hn : u ≤ 63) (hn' : u' ≤ 63) {m : R α} {n : R (List α)} (h1 : Rf (f σ) m e) (h2 : Rf (k σ) n (eLs o e')) : Rf (eC .mem f k σ) (m.bind fun a => n.bind fun b => .ok (decide (a ∈ b))) D.bl :=
  h1.bind fun a => h2.bind fun b => rf_ok (by rw [cmpD_mem]; unfold eLs; rw [memD_lst, memS_ty h h' q hn hn']; rfl)
theorem rf_ninL [DecidableEq α] {o : Bool} {e e' : α → D} {p : α → PyData} {u u' : Nat} (h : PyE e p u) (h' : PyE e' p u') (q : PyQ p) (hn : u ≤ 63) (hn' : u' ≤ 63) {m : R α} {n : R (List α)} (h1 : Rf (f σ) m e) (h2 : Rf (k σ) n (eLs o e')) : Rf (eC .nmem f k σ) (m.bind fun a => n.bind fun b => .ok (!decide (a ∈ b))) D.bl :=
  h1.bind fun a => h2.bind fun b => rf_ok (by rw [cmpD_nmem]; unfold eLs; rw [memD_lst, memS_ty h h' q hn hn']; rfl)
theorem rf_inQ [DecidableEq α] {e e' : α → D} {p : α → PyData} {u u' : Nat} (h : PyE e p u) (h' : PyE e' p u') (q : PyQ p) (hn : u ≤ 63) (hn' : u' ≤ 63) {m : R α} {n : R (List α)} (h1 : Rf (f σ) m e) (h2 : Rf (k σ) n (eSq e')) : Rf (eC .mem f k σ) (m.bind fun a => n.bind fun b => .ok (decide (a ∈ b))) D.bl :=
  h1.bind fun a => h2.bind fun b => rf_ok (by rw [cmpD_mem]; unfold eSq; rw [memD_tup, memS_ty h h' q hn hn']; rfl)
theorem rf_ninQ [DecidableEq α] {e e' : α → D} {p : α → PyData} {u u' : Nat} (h : PyE e p u) (h' : PyE e' p u') (q : PyQ p) (hn : u ≤ 63) (hn' : u' ≤ 63) {m : R α} {n : R (List α)} (h1 : Rf (f σ) m e) (h2 : Rf (k σ) n (eSq e')) : Rf (eC .nmem f k σ) (m.bind fun a => n.bind fun b => .ok (!decide (a ∈ b))) D.bl :=
  h1.bind fun a => h2.bind fun b => rf_ok (by rw [cmpD_nmem]; unfold eSq; rw [memD_tup, memS_ty h h' q hn hn']; rfl)
theorem rf_inD [DecidableEq α] {o : Bool} {e : α → D} {κ : α → NestedKey} {e' : β → D} (h : KD e κ) {m : R α} {n : R (List (α × β))} (h1 : Rf (f σ) m e) (h2 : Rf (k σ) n (eDc o κ e')) : Rf (eC .mem f k σ) (m.bind fun a => n.bind fun b => .ok (hasT b a)) D.bl :=
  h1.bind fun a => h2.bind fun b => rf_ok (by rw [cmpD_mem]; unfold eDc; rw [memD_dct]; have := h.keyIn e' b a; unfold encK at this; rw [this]; have := h.dget e' b a; unfold encK at this; rw [R.bind_ok, this, Option.isSome_map, getT_has]; rfl)
theorem rf_ninD [DecidableEq α] {o : Bool} {e : α → D} {κ : α → NestedKey} {e' : β → D} (h : KD e κ) {m : R α} {n : R (List (α × β))} (h1 : Rf (f σ) m e) (h2 : Rf (k σ) n (eDc o κ e')) : Rf (eC .nmem f k σ) (m.bind fun a => n.bind fun b => .ok (!hasT b a)) D.bl :=
  h1.bind fun a => h2.bind fun b => rf_ok (by rw [cmpD_nmem]; unfold eDc; rw [memD_dct]; have := h.keyIn e' b a; unfold encK at this; rw [this]; have := h.dget e' b a; unfold encK at this; rw [R.bind_ok, this, Option.isSome_map, getT_has]; rfl)
theorem char_mem (c : Char) : ∀ s : St, decide (c.toNat ∈ s.map Char.toNat) = decide (c ∈ s) := fun s => decide_eq_decide.mpr ⟨fun h => by
  obtain ⟨d, hd, q⟩ := List.mem_map.mp h
  rw [← toNat_inj q]; exact hd, fun h => List.mem_map_of_mem h⟩
theorem rf_inC {m : R Char} {n : R St} (h1 : Rf (f σ) m eCh) (h2 : Rf (k σ) n eSt) : Rf (eC .mem f k σ) (m.bind fun a => n.bind fun b => .ok (decide (a ∈ b))) D.bl :=
  h1.bind fun a => h2.bind fun b => rf_ok (by
    have := PySem.StrLaws.found_one (sD b) a.toNat
    rw [sD_cps, char_mem] at this
    exact congrArg (fun q => R.ok (D.bl q)) this)
theorem rf_ninC {m : R Char} {n : R St} (h1 : Rf (f σ) m eCh) (h2 : Rf (k σ) n eSt) : Rf (eC .nmem f k σ) (m.bind fun a => n.bind fun b => .ok (!decide (a ∈ b))) D.bl :=
  h1.bind fun a => h2.bind fun b => rf_ok (by
    have := PySem.StrLaws.found_one (sD b) a.toNat
    rw [sD_cps, char_mem] at this
    exact congrArg (fun q => R.ok (D.bl (!q))) this)
theorem rf_isN (b : α → Bool) (hb : ∀ a, isNon (e a) = b a) (h : Rf (f σ) m e) : Rf (eC .isN f (eK .non) σ) (m.bind fun a => .ok (b a)) D.bl :=
  h.bind fun a => rf_ok (by show blR (cmpD .isN (e a) .non) = _; rw [cmpD_isN, hb]; rfl)
theorem rf_ntN (b : α → Bool) (hb : ∀ a, isNon (e a) = b a) (h : Rf (f σ) m e) : Rf (eC .notN f (eK .non) σ) (m.bind fun a => .ok (!b a)) D.bl :=
  h.bind fun a => rf_ok (by show blR (cmpD .notN (e a) .non) = _; rw [cmpD_notN, hb]; rfl)
theorem isN_op (h : ∀ a, isNon (e a) = false) : ∀ a, isNon (eOp e a) = a.isNone
  | none => rfl
  | some a => h a
theorem rf_isi {t : Ty} (b : α → Bool) (hb : ∀ a, isTy t (e a) = .ok (b a)) (h : Rf (f σ) m e) : Rf (eIsi t f σ) (m.bind fun a => .ok (b a)) D.bl :=
  h.bind fun a => rf_ok (by rw [hb]; rfl)
theorem Rf.same {r : R D} {n : R Bool} (h : Rf r n D.bl) : Rf (r.bind fun y => (boolOf y).bind fun r => .ok (D.bl r)) n D.bl := by
  cases n with
  | ok b => rw [show r = .ok (.bl b) from h]; exact rfl
  | err c fs => rw [show r = .err c fs from h]; exact rfl
  | bad => exact True.intro
theorem rf_and {m n : R Bool} (h : Rf (f σ) m D.bl) (h2 : Rf (k σ) n D.bl) : Rf (eAnd f k σ) (m.bind fun i => if i = true then n else .ok false) D.bl :=
  h.bind fun i => by
    cases i with
    | false => exact rfl
    | true => exact Rf.same h2
theorem rf_or {m n : R Bool} (h : Rf (f σ) m D.bl) (h2 : Rf (k σ) n D.bl) : Rf (eOr f k σ) (m.bind fun i => if i = true then .ok true else n) D.bl :=
  h.bind fun i => by
    cases i with
    | true => exact rfl
    | false => exact Rf.same h2
theorem rf_andP {m : R Bool} {b : Bool} (h : Rf (f σ) m D.bl) (h2 : Rf (k σ) (.ok b) D.bl) : Rf (eAnd f k σ) (m.bind fun i => .ok (i && b)) D.bl := by
  have q := rf_and h h2
  cases m with
  | ok i => cases i <;> exact q
  | err c fs => exact q
  | bad => exact q
theorem rf_orP {m : R Bool} {b : Bool} (h : Rf (f σ) m D.bl) (h2 : Rf (k σ) (.ok b) D.bl) : Rf (eOr f k σ) (m.bind fun i => .ok (i || b)) D.bl := by
  have q := rf_or h h2
  cases m with
  | ok i => cases i <;> exact q
  | err c fs => exact q
  | bad => exact q
theorem rf_if {c : Sl → R D} {b : R Bool} {m n : R α} (h : Rf (c σ) b D.bl) (h1 : Rf (f σ) m e) (h2 : Rf (k σ) n e) : Rf (eIf c f k σ) (b.bind fun i => if i = true then m else n) e :=
  h.bind fun i => by cases i; exact h2; exact h1
theorem rf_ifP {c : Sl → R D} {b : R Bool} {x y : α} (h : Rf (c σ) b D.bl) (h1 : Rf (f σ) (.ok x) e) (h2 : Rf (k σ) (.ok y) e) : Rf (eIf c f k σ) (b.bind fun i => .ok (if i = true then x else y)) e :=
  h.bind fun i => by cases i; exact h2; exact h1
/-! items -/
theorem rf_ofR {β : Type} {g : β → D} {x : Option β} : Rf (ofR (x.map g)) (ofR x) g := by cases x; exact True.intro; exact rfl
theorem rf_ixL {o : Bool} {m : R (List α)} {n : R Int} (h : Rf (f σ) m (eLs o e)) (h2 : Rf (k σ) n D.int) : Rf (eIx f k σ) (m.bind fun xs => n.bind fun i => ofR (L2.atI xs i)) e :=
  h.bind fun xs => h2.bind fun i => by unfold eLs; rw [idxD_lst, atI_map]; exact rf_ofR
theorem rf_ixQ {m : R (List α)} {n : R Int} (h : Rf (f σ) m (eSq e)) (h2 : Rf (k σ) n D.int) : Rf (eIx f k σ) (m.bind fun xs => n.bind fun i => ofR (L2.atI xs i)) e :=
  h.bind fun xs => h2.bind fun i => by unfold eSq; rw [idxD_tup, atI_map]; exact rf_ofR
def sixT (s : St) (i : Int) : R Char := if s.length ≤ sizeLine then ofR (L2.atI s i) else .bad
theorem rf_ixS {m : R St} {n : R Int} (h : Rf (f σ) m eSt) (h2 : Rf (k σ) n D.int) : Rf (eIx f k σ) (m.bind fun xs => n.bind fun i => sixT xs i) eCh :=
  h.bind fun xs => h2.bind fun i => by
    refine .guard (by rw [sD_len]; exact id) ?_
    rw [sD_cps, atI_map, Option.map_map]
    exact rf_ofR
theorem rf_ixD [DecidableEq α] {o : Bool} {e : α → D} {κ : α → NestedKey} {e' : β → D} (h : KD e κ) {m : R (List (α × β))} {n : R α} (h1 : Rf (f σ) m (eDc o κ e')) (h2 : Rf (k σ) n e) : Rf (eIx f k σ) (m.bind fun b => n.bind fun a => ofR (getT b a)) e' :=
  h1.bind fun b => h2.bind fun a => by
    unfold eDc
    rw [idxD_dct]
    have q1 := h.keyIn e' b a; unfold encK at q1; rw [q1]
    have q2 := h.dget e' b a; unfold encK at q2; rw [R.bind_ok, q2]
    exact rf_ofR
theorem rf_get1 [DecidableEq α] {o : Bool} {e : α → D} {κ : α → NestedKey} {e' : β → D} (h : KD e κ) {m : R (List (α × β))} {n : R α} (h1 : Rf (f σ) m (eDc o κ e')) (h2 : Rf (k σ) n e) : Rf (eMt .get1 f (aC k aN) σ) (m.bind fun b => n.bind fun a => .ok (getT b a)) (eOp e') :=
  h1.bind fun b => by
    show Rf (if recvOk .get1 (eDc o κ e' b) = true then _ else R.bad) _ _
    rw [if_pos (show recvOk .get1 (eDc o κ e' b) = true from rfl)]
    simp only [u_aC, u_aN, R.bind_assoc, R.bind_ok, tupOf_tup]
    exact h2.bind fun a => by
      unfold eDc
      rw [mtD_get1]
      have q1 := h.keyIn e' b a; unfold encK at q1; rw [q1]
      have q2 := h.dget e' b a; unfold encK at q2; rw [R.bind_ok, q2]
      cases getT b a <;> exact rfl
theorem rf_ix2_0 {e1 : α → D} {e2 : β → D} {m : R (α × β)} (h : Rf (f σ) m (eT2 e1 e2)) : Rf (eIx f (eK (.int 0)) σ) (m.bind fun p => .ok p.1) e1 := h.bind fun _ => rfl
theorem rf_ix2_1 {e1 : α → D} {e2 : β → D} {m : R (α × β)} (h : Rf (f σ) m (eT2 e1 e2)) : Rf (eIx f (eK (.int 1)) σ) (m.bind fun p => .ok p.2) e2 := h.bind fun _ => rfl
theorem rf_ix3_0 {e1 : α → D} {e2 : β → D} {e3 : γ → D} {m : R (α × β × γ)} (h : Rf (f σ) m (eT3 e1 e2 e3)) : Rf (eIx f (eK (.int 0)) σ) (m.bind fun p => .ok p.1) e1 := h.bind fun _ => rfl
theorem rf_ix3_1 {e1 : α → D} {e2 : β → D} {e3 : γ → D} {m : R (α × β × γ)} (h : Rf (f σ) m (eT3 e1 e2 e3)) : Rf (eIx f (eK (.int 1)) σ) (m.bind fun p => .ok p.2.1) e2 := h.bind fun _ => rfl
theorem rf_ix3_2 {e1 : α → D} {e2 : β → D} {e3 : γ → D} {m : R (α × β × γ)} (h : Rf (f σ) m (eT3 e1 e2 e3)) : Rf (eIx f (eK (.int 2)) σ) (m.bind fun p => .ok p.2.2) e3 := h.bind fun _ => rfl
theorem rf_ix4_0 {e1 : α → D} {e2 : β → D} {e3 : γ → D} {e4 : δ → D} {m : R (α × β × γ × δ)} (h : Rf (f σ) m (eT4 e1 e2 e3 e4)) : Rf (eIx f (eK (.int 0)) σ) (m.bind fun p => .ok p.1) e1 := h.bind fun _ => rfl
theorem rf_ix4_1 {e1 : α → D} {e2 : β → D} {e3 : γ → D} {e4 : δ → D} {m : R (α × β × γ × δ)} (h : Rf (f σ) m (eT4 e1 e2 e3 e4)) : Rf (eIx f (eK (.int 1)) σ) (m.bind fun p => .ok p.2.1) e2 := h.bind fun _ => rfl
theorem rf_ix4_2 {e1 : α → D} {e2 : β → D} {e3 : γ → D} {e4 : δ → D} {m : R (α × β × γ × δ)} (h : Rf (f σ) m (eT4 e1 e2 e3 e4)) : Rf (eIx f (eK (.int 2)) σ) (m.bind fun p => .ok p.2.2.1) e3 := h.bind fun _ => rfl
theorem rf_ix4_3 {e1 : α → D} {e2 : β → D} {e3 : γ → D} {e4 : δ → D} {m : R (α × β × γ × δ)} (h : Rf (f σ) m (eT4 e1 e2 e3 e4)) : Rf (eIx f (eK (.int 3)) σ) (m.bind fun p => .ok p.2.2.2) e4 := h.bind fun _ => rfl
theorem rf_ix5_0 {e1 : α → D} {e2 : β → D} {e3 : γ → D} {e4 : δ → D} {e5 : ε → D} {m : R (α × β × γ × δ × ε)} (h : Rf (f σ) m (eT5 e1 e2 e3 e4 e5)) : Rf (eIx f (eK (.int 0)) σ) (m.bind fun p => .ok p.1) e1 := h.bind fun _ => rfl
theorem rf_ix5_1 {e1 : α → D} {e2 : β → D} {e3 : γ → D} {e4 : δ → D} {e5 : ε → D} {m : R (α × β × γ × δ × ε)} (h : Rf (f σ) m (eT5 e1 e2 e3 e4 e5)) : Rf (eIx f (eK (.int 1)) σ) (m.bind fun p => .ok p.2.1) e2 := h.bind fun _ => rfl
theorem rf_ix5_2 {e1 : α → D} {e2 : β → D} {e3 : γ → D} {e4 : δ → D} {e5 : ε → D} {m : R (α × β × γ × δ × ε)} (h : Rf (f σ) m (eT5 e1 e2 e3 e4 e5)) : Rf (eIx f (eK (.int 2)) σ) (m.bind fun p => .ok p.2.2.1) e3 := h.bind fun _ => rfl
theorem rf_ix5_3 {e1 : α → D} {e2 : β → D} {e3 : γ → D} {e4 : δ → D} {e5 : ε → D} {m : R (α × β × γ × δ × ε)} (h : Rf (f σ) m (eT5 e1 e2 e3 e4 e5)) : Rf (eIx f (eK (.int 3)) σ) (m.bind fun p => .ok p.2.2.2.1) e4 := h.bind fun _ => rfl
theorem rf_ix5_4 {e1 : α → D} {e2 : β → D} {e3 : γ → D} {e4 : δ → D} {e5 : ε → D} {m : R (α × β × γ × δ × ε)} (h : Rf (f σ) m (eT5 e1 e2 e3 e4 e5)) : Rf (eIx f (eK (.int 4)) σ) (m.bind fun p => .ok p.2.2.2.2) e5 := h.bind fun _ => rfl
theorem rf_call0 {θ : Type} {h : List D → R D} {eθ : θ → D}   {Φ : R θ} (T : Rf (h []) (Φ ) eθ)  (hc : (True) ∨ Nf eθ)  : Rf (eF h aN σ) (Φ ) eθ := by
  simp only [u_eF, u_aC, u_aN, R.bind_assoc, R.bind_ok, tupOf_tup]
  refine ?_
  have q : frzL [] = [] := by simp
  rw [q]
  have t := T 
  cases y : Φ  with
  | ok b =>
    rw [y] at t
    rw [show h [] = .ok (eθ b) from t]
    show (if (cleanL [] || noFrz (eθ b)) = true then R.ok (eθ b) else .bad) = _
    refine if_pos ?_
    rcases hc with ⟨_⟩ | nf
    · simp
    · simp [nf b]
  | err c fs =>
    rw [y] at t
    rw [show h [] = .err c fs from t]
    exact rfl
  | bad => exact True.intro
theorem rf_tup1 {f1 : Sl → R D} {e1 : α → D} {m1 : R α} (h1 : Rf (f1 σ) m1 e1) : Rf (eTup (aC f1 aN) σ) (m1.bind fun a1 => .ok a1) (eT1 e1) := by
  simp only [u_eTup, u_aC, u_aN, R.bind_assoc, R.bind_ok, tupOf_tup]
  exact h1.bind fun a1 => .guard1 (le_line (by simp)) rfl
theorem rf_call1 {θ : Type} {h : List D → R D} {eθ : θ → D} {f1 : Sl → R D} {e1 : α → D} {m1 : R α} {e1' : α → D} {Φ : α → R θ} (T : ∀ a1, Rf (h [e1' a1]) (Φ a1) eθ) (z1 : Fz e1 e1') (hc : (Cl e1 ∧ True) ∨ Nf eθ) (h1 : Rf (f1 σ) m1 e1) : Rf (eF h (aC f1 aN) σ) (m1.bind fun a1 => Φ a1) eθ := by
  simp only [u_eF, u_aC, u_aN, R.bind_assoc, R.bind_ok, tupOf_tup]
  refine h1.bind fun a1 => ?_
  have q : frzL [e1 a1] = [e1' a1] := by simp [z1 _]
  rw [q]
  have t := T a1
  cases y : Φ a1 with
  | ok b =>
    rw [y] at t
    rw [show h [e1' a1] = .ok (eθ b) from t]
    show (if (cleanL [e1 a1] || noFrz (eθ b)) = true then R.ok (eθ b) else .bad) = _
    refine if_pos ?_
    rcases hc with ⟨c1, _⟩ | nf
    · simp [c1 _]
    · simp [nf b]
  | err c fs =>
    rw [y] at t
    rw [show h [e1' a1] = .err c fs from t]
    exact rfl
  | bad => exact True.intro
theorem rf_bi1 {θ : Type} {b : Bi} {eθ : θ → D} {f1 : Sl → R D} {e1 : α → D} {m1 : R α} {Φ : α → R θ} (T : ∀ a1, Rf (biD b [e1 a1]) (Φ a1) eθ) (h1 : Rf (f1 σ) m1 e1) : Rf (eBi b (aC f1 aN) σ) (m1.bind fun a1 => Φ a1) eθ := by
  simp only [u_eBi, u_aC, u_aN, R.bind_assoc, R.bind_ok, tupOf_tup]
  exact h1.bind fun a1 => T a1
theorem rf_tup2 {f1 : Sl → R D} {e1 : α → D} {m1 : R α} {f2 : Sl → R D} {e2 : β → D} {m2 : R β} (h1 : Rf (f1 σ) m1 e1) (h2 : Rf (f2 σ) m2 e2) : Rf (eTup (aC f1 (aC f2 aN)) σ) (m1.bind fun a1 => m2.bind fun a2 => .ok (a1, a2)) (eT2 e1 e2) := by
  simp only [u_eTup, u_aC, u_aN, R.bind_assoc, R.bind_ok, tupOf_tup]
  exact h1.bind fun a1 => h2.bind fun a2 => .guard1 (le_line (by simp)) rfl
theorem rf_call2 {θ : Type} {h : List D → R D} {eθ : θ → D} {f1 : Sl → R D} {e1 : α → D} {m1 : R α} {f2 : Sl → R D} {e2 : β → D} {m2 : R β} {e1' : α → D} {e2' : β → D} {Φ : α → β → R θ} (T : ∀ a1 a2, Rf (h [e1' a1, e2' a2]) (Φ a1 a2) eθ) (z1 : Fz e1 e1') (z2 : Fz e2 e2') (hc : (Cl e1 ∧ Cl e2 ∧ True) ∨ Nf eθ) (h1 : Rf (f1 σ) m1 e1) (h2 : Rf (f2 σ) m2 e2) : Rf (eF h (aC f1 (aC f2 aN)) σ) (m1.bind fun a1 => m2.bind fun a2 => Φ a1 a2) eθ := by
  simp only [u_eF, u_aC, u_aN, R.bind_assoc, R.bind_ok, tupOf_tup]
  refine h1.bind fun a1 => h2.bind fun a2 => ?_
  have q : frzL [e1 a1, e2 a2] = [e1' a1, e2' a2] := by simp [z1 _, z2 _]
  rw [q]
  have t := T a1 a2
  cases y : Φ a1 a2 with
  | ok b =>
    rw [y] at t
    rw [show h [e1' a1, e2' a2] = .ok (eθ b) from t]
    show (if (cleanL [e1 a1, e2 a2] || noFrz (eθ b)) = true then R.ok (eθ b) else .bad) = _
    refine if_pos ?_
    rcases hc with ⟨c1, c2, _⟩ | nf
    · simp [c1 _, c2 _]
    · simp [nf b]
  | err c fs =>
    rw [y] at t
    rw [show h [e1' a1, e2' a2] = .err c fs from t]
    exact rfl
  | bad => exact True.intro
theorem rf_bi2 {θ : Type} {b : Bi} {eθ : θ → D} {f1 : Sl → R D} {e1 : α → D} {m1 : R α} {f2 : Sl → R D} {e2 : β → D} {m2 : R β} {Φ : α → β → R θ} (T : ∀ a1 a2, Rf (biD b [e1 a1, e2 a2]) (Φ a1 a2) eθ) (h1 : Rf (f1 σ) m1 e1) (h2 : Rf (f2 σ) m2 e2) : Rf (eBi b (aC f1 (aC f2 aN)) σ) (m1.bind fun a1 => m2.bind fun a2 => Φ a1 a2) eθ := by
  simp only [u_eBi, u_aC, u_aN, R.bind_assoc, R.bind_ok, tupOf_tup]
  exact h1.bind fun a1 => h2.bind fun a2 => T a1 a2
theorem rf_tup3 {f1 : Sl → R D} {e1 : α → D} {m1 : R α} {f2 : Sl → R D} {e2 : β → D} {m2 : R β} {f3 : Sl → R D} {e3 : γ → D} {m3 : R γ} (h1 : Rf (f1 σ) m1 e1) (h2 : Rf (f2 σ) m2 e2) (h3 : Rf (f3 σ) m3 e3) : Rf (eTup (aC f1 (aC f2 (aC f3 aN))) σ) (m1.bind fun a1 => m2.bind fun a2 => m3.bind fun a3 => .ok (a1, a2, a3)) (eT3 e1 e2 e3) := by
  simp only [u_eTup, u_aC, u_aN, R.bind_assoc, R.bind_ok, tupOf_tup]
  exact h1.bind fun a1 => h2.bind fun a2 => h3.bind fun a3 => .guard1 (le_line (by simp)) rfl
theorem rf_call3 {θ : Type} {h : List D → R D} {eθ : θ → D} {f1 : Sl → R D} {e1 : α → D} {m1 : R α} {f2 : Sl → R D} {e2 : β → D} {m2 : R β} {f3 : Sl → R D} {e3 : γ → D} {m3 : R γ} {e1' : α → D} {e2' : β → D} {e3' : γ → D} {Φ : α → β → γ → R θ} (T : ∀ a1 a2 a3, Rf (h [e1' a1, e2' a2, e3' a3]) (Φ a1 a2 a3) eθ) (z1 : Fz e1 e1') (z2 : Fz e2 e2') (z3 : Fz e3 e3') (hc : (Cl e1 ∧ Cl e2 ∧ Cl e3 ∧ True) ∨ Nf eθ) (h1 : Rf (f1 σ) m1 e1) (h2 : Rf (f2 σ) m2 e2) (h3 : Rf (f3 σ) m3 e3) : Rf (eF h (aC f1 (aC f2 (aC f3 aN))) σ) (m1.bind fun a1 => m2.bind fun a2 => m3.bind fun a3 => Φ a1 a2 a3) eθ := by
  simp only [u_eF, u_aC, u_aN, R.bind_assoc, R.bind_ok, tupOf_tup]
  refine h1.bind fun a1 => h2.bind fun a2 => h3.bind fun a3 => ?_
  have q : frzL [e1 a1, e2 a2, e3 a3] = [e1' a1, e2' a2, e3' a3] := by simp [z1 _, z2 _, z3 _]
  rw [q]
  have t := T a1 a2 a3
  cases y : Φ a1 a2 a3 with
  | ok b =>
    rw [y] at t
    rw [show h [e1' a1, e2' a2, e3' a3] = .ok (eθ b) from t]
    show (if (cleanL [e1 a1, e2 a2, e3 a3] || noFrz (eθ b)) = true then R.ok (eθ b) else .bad) = _
    refine if_pos ?_
    rcases hc with ⟨c1, c2, c3, _⟩ | nf
    · simp [c1 _, c2 _, c3 _]
    · simp [nf b]
  | err c fs =>
    rw [y] at t
    rw [show h [e1' a1, e2' a2, e3' a3] = .err c fs from t]
    exact rfl
  | bad => exact True.intro
theorem rf_tup4 {f1 : Sl → R D} {e1 : α → D} {m1 : R α} {f2 : Sl → R D} {e2 : β → D} {m2 : R β} {f3 : Sl → R D} {e3 : γ → D} {m3 : R γ} {f4 : Sl → R D} {e4 : δ → D} {m4 : R δ} (h1 : Rf (f1 σ) m1 e1) (h2 : Rf (f2 σ) m2 e2) (h3 : Rf (f3 σ) m3 e3) (h4 : Rf (f4 σ) m4 e4) : Rf (eTup (aC f1 (aC f2 (aC f3 (aC f4 aN)))) σ) (m1.bind fun a1 => m2.bind fun a2 => m3.bind fun a3 => m4.bind fun a4 => .ok (a1, a2, a3, a4)) (eT4 e1 e2 e3 e4) := by
  simp only [u_eTup, u_aC, u_aN, R.bind_assoc, R.bind_ok, tupOf_tup]
  exact h1.bind fun a1 => h2.bind fun a2 => h3.bind fun a3 => h4.bind fun a4 => .guard1 (le_line (by simp)) rfl
theorem rf_call4 {θ : Type} {h : List D → R D} {eθ : θ → D} {f1 : Sl → R D} {e1 : α → D} {m1 : R α} {f2 : Sl → R D} {e2 : β → D} {m2 : R β} {f3 : Sl → R D} {e3 : γ → D} {m3 : R γ} {f4 : Sl → R D} {e4 : δ → D} {m4 : R δ} {e1' : α → D} {e2' : β → D} {e3' : γ → D} {e4' : δ → D} {Φ : α → β → γ → δ → R θ} (T : ∀ a1 a2 a3 a4, Rf (h [e1' a1, e2' a2, e3' a3, e4' a4]) (Φ a1 a2 a3 a4) eθ) (z1 : Fz e1 e1') (z2 : Fz e2 e2') (z3 : Fz e3 e3') (z4 : Fz e4 e4') (hc : (Cl e1 ∧ Cl e2 ∧ Cl e3 ∧ Cl e4 ∧ True) ∨ Nf eθ) (h1 : Rf (f1 σ) m1 e1) (h2 : Rf (f2 σ) m2 e2) (h3 : Rf (f3 σ) m3 e3) (h4 : Rf (f4 σ) m4 e4) : Rf (eF h (aC f1 (aC f2 (aC f3 (aC f4 aN)))) σ) (m1.bind fun a1 => m2.bind fun a2 => m3.bind fun a3 => m4.bind fun a4 => Φ a1 a2 a3 a4) eθ := by
  simp only [u_eF, u_aC, u_aN, R.bind_assoc, R.bind_ok, tupOf_tup]
  refine h1.bind fun a1 => h2.bind fun a2 => h3.bind fun a3 => h4.bind fun a4 => ?_
  have q : frzL [e1 a1, e2 a2, e3 a3, e4 a4] = [e1' a1, e2' a2, e3' a3, e4' a4] := by simp [z1 _, z2 _, z3 _, z4 _]
  rw [q]
  have t := T a1 a2 a3 a4
  cases y : Φ a1 a2 a3 a4 with
  | ok b =>
    rw [y] at t
    rw [show h [e1' a1, e2' a2, e3' a3, e4' a4] = .ok (eθ b) from t]
    show (if (cleanL [e1 a1, e2 a2, e3 a3, e4 a4] || noFrz (eθ b)) = true then R.ok (eθ b) else .bad) = _
    refine if_pos ?_
    rcases hc with ⟨c1, c2, c3, c4, _⟩ | nf
    · simp [c1 _, c2 _, c3 _, c4 _]
    · simp [nf b]
  | err c fs =>
    rw [y] at t
    rw [show h [e1' a1, e2' a2, e3' a3, e4' a4] = .err c fs from t]
    exact rfl
  | bad => exact True.intro
theorem rf_tup5 {f1 : Sl → R D} {e1 : α → D} {m1 : R α} {f2 : Sl → R D} {e2 : β → D} {m2 : R β} {f3 : Sl → R D} {e3 : γ → D} {m3 : R γ} {f4 : Sl → R D} {e4 : δ → D} {m4 : R δ} {f5 : Sl → R D} {e5 : ε → D} {m5 : R ε} (h1 : Rf (f1 σ) m1 e1) (h2 : Rf (f2 σ) m2 e2) (h3 : Rf (f3 σ) m3 e3) (h4 : Rf (f4 σ) m4 e4) (h5 : Rf (f5 σ) m5 e5) : Rf (eTup (aC f1 (aC f2 (aC f3 (aC f4 (aC f5 aN))))) σ) (m1.bind fun a1 => m2.bind fun a2 => m3.bind fun a3 => m4.bind fun a4 => m5.bind fun a5 => .ok (a1, a2, a3, a4, a5)) (eT5 e1 e2 e3 e4 e5) := by
  simp only [u_eTup, u_aC, u_aN, R.bind_assoc, R.bind_ok, tupOf_tup]
  exact h1.bind fun a1 => h2.bind fun a2 => h3.bind fun a3 => h4.bind fun a4 => h5.bind fun a5 => .guard1 (le_line (by simp)) rfl
theorem rf_call5 {θ : Type} {h : List D → R D} {eθ : θ → D} {f1 : Sl → R D} {e1 : α → D} {m1 : R α} {f2 : Sl → R D} {e2 : β → D} {m2 : R β} {f3 : Sl → R D} {e3 : γ → D} {m3 : R γ} {f4 : Sl → R D} {e4 : δ → D} {m4 : R δ} {f5 : Sl → R D} {e5 : ε → D} {m5 : R ε} {e1' : α → D} {e2' : β → D} {e3' : γ → D} {e4' : δ → D} {e5' : ε → D} {Φ : α → β → γ → δ → ε → R θ} (T : ∀ a1 a2 a3 a4 a5, Rf (h [e1' a1, e2' a2, e3' a3, e4' a4, e5' a5]) (Φ a1 a2 a3 a4 a5) eθ) (z1 : Fz e1 e1') (z2 : Fz e2 e2') (z3 : Fz e3 e3') (z4 : Fz e4 e4') (z5 : Fz e5 e5') (hc : (Cl e1 ∧ Cl e2 ∧ Cl e3 ∧ Cl e4 ∧ Cl e5 ∧ True) ∨ Nf eθ) (h1 : Rf (f1 σ) m1 e1) (h2 : Rf (f2 σ) m2 e2) (h3 : Rf (f3 σ) m3 e3) (h4 : Rf (f4 σ) m4 e4) (h5 : Rf (f5 σ) m5 e5) : Rf (eF h (aC f1 (aC f2 (aC f3 (aC f4 (aC f5 aN))))) σ) (m1.bind fun a1 => m2.bind fun a2 => m3.bind fun a3 => m4.bind fun a4 => m5.bind fun a5 => Φ a1 a2 a3 a4 a5) eθ := by
  simp only [u_eF, u_aC, u_aN, R.bind_assoc, R.bind_ok, tupOf_tup]
  refine h1.bind fun a1 => h2.bind fun a2 => h3.bind fun a3 => h4.bind fun a4 => h5.bind fun a5 => ?_
  have q : frzL [e1 a1, e2 a2, e3 a3, e4 a4, e5 a5] = [e1' a1, e2' a2, e3' a3, e4' a4, e5' a5] := by simp [z1 _, z2 _, z3 _, z4 _, z5 _]
  rw [q]
  have t := T a1 a2 a3 a4 a5
  cases y : Φ a1 a2 a3 a4 a5 with
  | ok b =>
    rw [y] at t
    rw [show h [e1' a1, e2' a2, e3' a3, e4' a4, e5' a5] = .ok (eθ b) from t]
    show (if (cleanL [e1 a1, e2 a2, e3 a3, e4 a4, e5 a5] || noFrz (eθ b)) = true then R.ok (eθ b) else .bad) = _
    refine if_pos ?_
    rcases hc with ⟨c1, c2, c3, c4, c5, _⟩ | nf
    · simp [c1 _, c2 _, c3 _, c4 _, c5 _]
    · simp [nf b]
  | err c fs =>
    rw [y] at t
    rw [show h [e1' a1, e2' a2, e3' a3, e4' a4, e5' a5] = .err c fs from t]
    exact rfl
  | bad => exact True.intro
theorem rf_call6 {θ : Type} {h : List D → R D} {eθ : θ → D} {f1 : Sl → R D} {e1 : α → D} {m1 : R α} {f2 : Sl → R D} {e2 : β → D} {m2 : R β} {f3 : Sl → R D} {e3 : γ → D} {m3 : R γ} {f4 : Sl → R D} {e4 : δ → D} {m4 : R δ} {f5 : Sl → R D} {e5 : ε → D} {m5 : R ε} {f6 : Sl → R D} {e6 : ζ → D} {m6 : R ζ} {e1' : α → D} {e2' : β → D} {e3' : γ → D} {e4' : δ → D} {e5' : ε → D} {e6' : ζ → D} {Φ : α → β → γ → δ → ε → ζ → R θ} (T : ∀ a1 a2 a3 a4 a5 a6, Rf (h [e1' a1, e2' a2, e3' a3, e4' a4, e5' a5, e6' a6]) (Φ a1 a2 a3 a4 a5 a6) eθ) (z1 : Fz e1 e1') (z2 : Fz e2 e2') (z3 : Fz e3 e3') (z4 : Fz e4 e4') (z5 : Fz e5 e5') (z6 : Fz e6 e6') (hc : (Cl e1 ∧ Cl e2 ∧ Cl e3 ∧ Cl e4 ∧ Cl e5 ∧ Cl e6 ∧ True) ∨ Nf eθ) (h1 : Rf (f1 σ) m1 e1) (h2 : Rf (f2 σ) m2 e2) (h3 : Rf (f3 σ) m3 e3) (h4 : Rf (f4 σ) m4 e4) (h5 : Rf (f5 σ) m5 e5) (h6 : Rf (f6 σ) m6 e6) : Rf (eF h (aC f1 (aC f2 (aC f3 (aC f4 (aC f5 (aC f6 aN)))))) σ) (m1.bind fun a1 => m2.bind fun a2 => m3.bind fun a3 => m4.bind fun a4 => m5.bind fun a5 => m6.bind fun a6 => Φ a1 a2 a3 a4 a5 a6) eθ := by
  simp only [u_eF, u_aC, u_aN, R.bind_assoc, R.bind_ok, tupOf_tup]
  refine h1.bind fun a1 => h2.bind fun a2 => h3.bind fun a3 => h4.bind fun a4 => h5.bind fun a5 => h6.bind fun a6 => ?_
  have q : frzL [e1 a1, e2 a2, e3 a3, e4 a4, e5 a5, e6 a6] = [e1' a1, e2' a2, e3' a3, e4' a4, e5' a5, e6' a6] := by simp [z1 _, z2 _, z3 _, z4 _, z5 _, z6 _]
  rw [q]
  have t := T a1 a2 a3 a4 a5 a6
  cases y : Φ a1 a2 a3 a4 a5 a6 with
  | ok b =>
    rw [y] at t
    rw [show h [e1' a1, e2' a2, e3' a3, e4' a4, e5' a5, e6' a6] = .ok (eθ b) from t]
    show (if (cleanL [e1 a1, e2 a2, e3 a3, e4 a4, e5 a5, e6 a6] || noFrz (eθ b)) = true then R.ok (eθ b) else .bad) = _
    refine if_pos ?_
    rcases hc with ⟨c1, c2, c3, c4, c5, c6, _⟩ | nf
    · simp [c1 _, c2 _, c3 _, c4 _, c5 _, c6 _]
    · simp [nf b]
  | err c fs =>
    rw [y] at t
    rw [show h [e1' a1, e2' a2, e3' a3, e4' a4, e5' a5, e6' a6] = .err c fs from t]
    exact rfl
  | bad => exact True.intro
theorem rf_call7 {θ : Type} {h : List D → R D} {eθ : θ → D} {f1 : Sl → R D} {e1 : α → D} {m1 : R α} {f2 : Sl → R D} {e2 : β → D} {m2 : R β} {f3 : Sl → R D} {e3 : γ → D} {m3 : R γ} {f4 : Sl → R D} {e4 : δ → D} {m4 : R δ} {f5 : Sl → R D} {e5 : ε → D} {m5 : R ε} {f6 : Sl → R D} {e6 : ζ → D} {m6 : R ζ} {f7 : Sl → R D} {e7 : η → D} {m7 : R η} {e1' : α → D} {e2' : β → D} {e3' : γ → D} {e4' : δ → D} {e5' : ε → D} {e6' : ζ → D} {e7' : η → D} {Φ : α → β → γ → δ → ε → ζ → η → R θ} (T : ∀ a1 a2 a3 a4 a5 a6 a7, Rf (h [e1' a1, e2' a2, e3' a3, e4' a4, e5' a5, e6' a6, e7' a7]) (Φ a1 a2 a3 a4 a5 a6 a7) eθ) (z1 : Fz e1 e1') (z2 : Fz e2 e2') (z3 : Fz e3 e3') (z4 : Fz e4 e4') (z5 : Fz e5 e5') (z6 : Fz e6 e6') (z7 : Fz e7 e7') (hc : (Cl e1 ∧ Cl e2 ∧ Cl e3 ∧ Cl e4 ∧ Cl e5 ∧ Cl e6 ∧ Cl e7 ∧ True) ∨ Nf eθ) (h1 : Rf (f1 σ) m1 e1) (h2 : Rf (f2 σ) m2 e2) (h3 : Rf (f3 σ) m3 e3) (h4 : Rf (f4 σ) m4 e4) (h5 : Rf (f5 σ) m5 e5) (h6 : Rf (f6 σ) m6 e6) (h7 : Rf (f7 σ) m7 e7) : Rf (eF h (aC f1 (aC f2 (aC f3 (aC f4 (aC f5 (aC f6 (aC f7 aN))))))) σ) (m1.bind fun a1 => m2.bind fun a2 => m3.bind fun a3 => m4.bind fun a4 => m5.bind fun a5 => m6.bind fun a6 => m7.bind fun a7 => Φ a1 a2 a3 a4 a5 a6 a7) eθ := by
  simp only [u_eF, u_aC, u_aN, R.bind_assoc, R.bind_ok, tupOf_tup]
  refine h1.bind fun a1 => h2.bind fun a2 => h3.bind fun a3 => h4.bind fun a4 => h5.bind fun a5 => h6.bind fun a6 => h7.bind fun a7 => ?_
  have q : frzL [e1 a1, e2 a2, e3 a3, e4 a4, e5 a5, e6 a6, e7 a7] = [e1' a1, e2' a2, e3' a3, e4' a4, e5' a5, e6' a6, e7' a7] := by simp [z1 _, z2 _, z3 _, z4 _, z5 _, z6 _, z7 _]
  rw [q]
  have t := T a1 a2 a3 a4 a5 a6 a7
  cases y : Φ a1 a2 a3 a4 a5 a6 a7 with
  | ok b =>
    rw [y] at t
    rw [show h [e1' a1, e2' a2, e3' a3, e4' a4, e5' a5, e6' a6, e7' a7] = .ok (eθ b) from t]
    show (if (cleanL [e1 a1, e2 a2, e3 a3, e4 a4, e5 a5, e6 a6, e7 a7] || noFrz (eθ b)) = true then R.ok (eθ b) else .bad) = _
    refine if_pos ?_
    rcases hc with ⟨c1, c2, c3, c4, c5, c6, c7, _⟩ | nf
    · simp [c1 _, c2 _, c3 _, c4 _, c5 _, c6 _, c7 _]
    · simp [nf b]
  | err c fs =>
    rw [y] at t
    rw [show h [e1' a1, e2' a2, e3' a3, e4' a4, e5' a5, e6' a6, e7' a7] = .err c fs from t]
    exact rfl
  | bad => exact True.intro
/-! builtins -/
theorem bt_lenL {o : Bool} (xs : List α) : Rf (biD .len [eLs o e xs]) (.ok (xs.length : Int)) D.int := rf_ok (by unfold eLs; rw [biD_lenL, List.length_map])
theorem bt_lenQ (xs : List α) : Rf (biD .len [eSq e xs]) (.ok (xs.length : Int)) D.int := rf_ok (by unfold eSq; rw [biD_lenT, List.length_map])
def lenT (s : St) : R Int := szT s.length (s.length : Int)
theorem bt_lenS (s : St) : Rf (biD .len [eSt s]) (lenT s) D.int := by
  unfold eSt lenT; rw [biD_lenS]; exact .guard (by rw [sD_len]; exact id) (rf_ok (by rw [sD_len]))
theorem bt_lenD {o : Bool} {κ : α → NestedKey} (xs : List (α × β)) : Rf (biD .len [eDc o κ e' xs]) (.ok (xs.length : Int)) D.int := rf_ok (by unfold eDc; rw [biD_lenD, List.length_map])
theorem bt_tupL {o : Bool} (c : Cl e) (xs : List α) : Rf (biD .tuple [eLs o e xs]) (.ok xs) (eSq e) := rf_ok (by unfold eLs; rw [biD_tupleL, if_pos (cl_map c xs)]; rfl)
theorem bt_tupQ (c : Cl e) (xs : List α) : Rf (biD .tuple [eSq e xs]) (.ok xs) (eSq e) := rf_ok (by unfold eSq; rw [biD_tupleT, if_pos (cl_map c xs)])
theorem bt_lstL {o : Bool} (c : Cl e) (xs : List α) : Rf (biD .list [eLs o e xs]) (.ok xs) (eLs true e) := rf_ok (by unfold eLs; rw [biD_listL, if_pos (cl_map c xs)])
theorem bt_lstQ (c : Cl e) (xs : List α) : Rf (biD .list [eSq e xs]) (.ok xs) (eLs true e) := rf_ok (by unfold eSq; rw [biD_listT, if_pos (cl_map c xs)]; rfl)
theorem bt_intB (b : Bool) : Rf (biD .int [.bl b]) (.ok (if b = true then 1 else 0)) D.int := rfl
theorem bt_intI (b : Int) : Rf (biD .int [.int b]) (.ok b) D.int := rfl
theorem bt_abs (b : Int) : Rf (biD .abs [.int b]) (.ok (if b < 0 then -b else b)) D.int := rfl
theorem bt_min (i j : Int) : Rf (biD .min [.int i, .int j]) (.ok (if j < i then j else i)) D.int := rfl
theorem bt_max (i j : Int) : Rf (biD .max [.int i, .int j]) (.ok (if j > i then j else i)) D.int := rfl
theorem intsD_map : ∀ xs : List Int, intsD (xs.map D.int) = some xs
  | [] => rfl
  | x :: xs => by rw [List.map_cons, intsD, intsD_map xs]; rfl
theorem blsD_map : ∀ xs : List Bool, blsD (xs.map D.bl) = some xs
  | [] => rfl
  | x :: xs => by rw [List.map_cons, blsD, blsD_map xs]; rfl
theorem bt_sum {o : Bool} (xs : List Int) : Rf (biD .sum [eLs o D.int xs]) (.ok xs.sum) D.int := by
  unfold eLs; show Rf (match intsD (xs.map D.int) with | some ns => .ok (.int ns.sum) | none => .bad) _ _
  rw [intsD_map]; exact rfl
theorem bt_all {o : Bool} (xs : List Bool) : Rf (biD .all [eLs o D.bl xs]) (.ok (xs.all id)) D.bl := by
  unfold eLs; show Rf (match blsD (xs.map D.bl) with | some ns => .ok (.bl (ns.all id)) | none => .bad) _ _
  rw [blsD_map]; exact rfl
/-! displays of lists -/
def Rl (r : R D) (m : R (List α)) (e : α → D) : Prop := Rf r m fun xs => .tup (xs.map e)
theorem rl_nil : Rl (aN σ) (.ok ([] : List α)) e := rfl
theorem rl_cons {m : R α} {ms : R (List α)} (h : Rf (f σ) m e) (h2 : Rl (k σ) ms e) : Rl (aC f k σ) (m.bind fun a => ms.bind fun as => .ok (a :: as)) e :=
  h.bind fun a => Rf.bind h2 fun as => rf_ok rfl
theorem rf_lst {ms : R (List α)} (h : Rl (f σ) ms e) : Rf (eLst f σ) (ms.bind fun as => szT as.length as) (eLs true e) :=
  Rf.bind h fun as => .guard (c := (as.map e).length ≤ sizeLine) (by rw [List.length_map]; exact id) rfl
theorem rf_lstP {as : List α} (h : Rl (f σ) (.ok as) e) (hn : as.length ≤ 1000000) : Rf (eLst f σ) (.ok as) (eLs true e) := by
  have q := rf_lst h
  unfold szT at q
  rw [R.bind_ok, if_pos (le_line hn)] at q
  exact q
theorem rf_tupQ {ms : R (List α)} (h : Rl (f σ) ms e) : Rf (eTup f σ) (ms.bind fun as => szT as.length as) (eSq e) :=
  Rf.bind h fun as => .guard (c := (as.map e).length ≤ sizeLine) (by rw [List.length_map]; exact id) rfl
theorem rf_tupQP {as : List α} (h : Rl (f σ) (.ok as) e) (hn : as.length ≤ 1000000) : Rf (eTup f σ) (.ok as) (eSq e) := by
  have q := rf_tupQ h
  unfold szT at q
  rw [R.bind_ok, if_pos (le_line hn)] at q
  exact q
theorem rf_d0 {κ : α → NestedKey} {e' : β → D} : Rf (eD0 σ) (.ok ([] : List (α × β))) (eDc true κ e') := rfl
/-! slices -/
theorem rf_slL {o : Bool} {nb nc : Bool} {m : R (List α)} {lo hi : R (Option Int)} (c : Cl e) (h : Rf (f σ) m (eLs o e))
    (h1 : ∀ i, lo = .ok i → (k σ).bind (fun l' => partD (if nb = true then none else some l')) = .ok i) (h2 : ∀ i, hi = .ok i → (l σ).bind (fun l' => partD (if nc = true then none else some l')) = .ok i) (n1 : ∀ c fs, lo ≠ .err c fs) (n2 : ∀ c fs, hi ≠ .err c fs) :
    Rf (eSl f nb k nc l σ) (m.bind fun xs => lo.bind fun i => hi.bind fun j => .ok (cutL xs i j)) (eLs true e) := by
  refine h.bind fun xs => ?_
  cases lo with
  | err c fs => exact absurd rfl (n1 c fs)
  | bad => exact True.intro
  | ok i => cases hi with
    | err c fs => exact absurd rfl (n2 c fs)
    | bad => exact True.intro
    | ok j =>
      have a := h1 i rfl
      have b := h2 j rfl
      rw [show ((k σ).bind fun l' => (partD (if nb = true then none else some l')).bind fun l' => (l σ).bind fun h => (partD (if nc = true then none else some h)).bind fun h => slD (eLs o e xs) l' h) = (((k σ).bind fun l' => partD (if nb = true then none else some l')).bind fun l' => ((l σ).bind fun h => partD (if nc = true then none else some h)).bind fun h => slD (eLs o e xs) l' h) by simp only [R.bind_assoc], a, b]
      refine rf_ok ?_
      show (if cleanL (xs.map e) = true then R.ok (D.lst true (cutL (xs.map e) i j)) else .bad) = _
      rw [if_pos (cl_map c xs)]
      simp [cutL, eLs, List.map_take, List.map_drop]
theorem rf_slQ {nb nc : Bool} {m : R (List α)} {lo hi : R (Option Int)} (c : Cl e) (h : Rf (f σ) m (eSq e))
    (h1 : ∀ i, lo = .ok i → (k σ).bind (fun l' => partD (if nb = true then none else some l')) = .ok i) (h2 : ∀ i, hi = .ok i → (l σ).bind (fun l' => partD (if nc = true then none else some l')) = .ok i) (n1 : ∀ c fs, lo ≠ .err c fs) (n2 : ∀ c fs, hi ≠ .err c fs) :
    Rf (eSl f nb k nc l σ) (m.bind fun xs => lo.bind fun i => hi.bind fun j => .ok (cutL xs i j)) (eSq e) := by
  refine h.bind fun xs => ?_
  cases lo with
  | err c fs => exact absurd rfl (n1 c fs)
  | bad => exact True.intro
  | ok i => cases hi with
    | err c fs => exact absurd rfl (n2 c fs)
    | bad => exact True.intro
    | ok j =>
      have a := h1 i rfl
      have b := h2 j rfl
      rw [show ((k σ).bind fun l' => (partD (if nb = true then none else some l')).bind fun l' => (l σ).bind fun h => (partD (if nc = true then none else some h)).bind fun h => slD (eSq e xs) l' h) = (((k σ).bind fun l' => partD (if nb = true then none else some l')).bind fun l' => ((l σ).bind fun h => partD (if nc = true then none else some h)).bind fun h => slD (eSq e xs) l' h) by simp only [R.bind_assoc], a, b]
      refine rf_ok ?_
      show (if cleanL (xs.map e) = true then R.ok (D.tup (cutL (xs.map e) i j)) else .bad) = _
      rw [if_pos (cl_map c xs)]
      simp [cutL, eSq, List.map_take, List.map_drop]
theorem cutS_sD (s : St) (i j : Option Int) : L2.cutS (sD s) i j = sD (cutL s i j) := by
  unfold L2.cutS cutL
  rw [sD_cps, sD_len]
  unfold sD
  simp [List.map_take, List.map_drop]
theorem rf_slS {nb nc : Bool} {m : R St} {lo hi : R (Option Int)} (h : Rf (f σ) m eSt)
    (h1 : ∀ i, lo = .ok i → (k σ).bind (fun l' => partD (if nb = true then none else some l')) = .ok i) (h2 : ∀ i, hi = .ok i → (l σ).bind (fun l' => partD (if nc = true then none else some l')) = .ok i) (n1 : ∀ c fs, lo ≠ .err c fs) (n2 : ∀ c fs, hi ≠ .err c fs) :
    Rf (eSl f nb k nc l σ) (m.bind fun xs => lo.bind fun i => hi.bind fun j => szT xs.length (cutL xs i j)) eSt := by
  refine h.bind fun xs => ?_
  cases lo with
  | err c fs => exact absurd rfl (n1 c fs)
  | bad => exact True.intro
  | ok i => cases hi with
    | err c fs => exact absurd rfl (n2 c fs)
    | bad => exact True.intro
    | ok j =>
      have a := h1 i rfl
      have b := h2 j rfl
      rw [show ((k σ).bind fun l' => (partD (if nb = true then none else some l')).bind fun l' => (l σ).bind fun h => (partD (if nc = true then none else some h)).bind fun h => slD (eSt xs) l' h) = (((k σ).bind fun l' => partD (if nb = true then none else some l')).bind fun l' => ((l σ).bind fun h => partD (if nc = true then none else some h)).bind fun h => slD (eSt xs) l' h) by simp only [R.bind_assoc], a, b]
      refine .guard (c := (sD xs).length ≤ sizeLine) (by rw [sD_len]; exact id) (rf_ok ?_)
      rw [cutS_sD]; rfl
def okN (m : R Int) : R (Option Int) := match m with | .ok i => .ok (some i) | _ => .bad
theorem sl_no {k : Sl → R D} {i : Option Int} (hk : k σ = .ok .non) (h : (R.ok none : R (Option Int)) = .ok i) : (k σ).bind (fun l' => partD (if true = true then none else some l')) = .ok i := by
  rw [hk]; exact h
theorem sl_yes {m : R Int} {i : Option Int} (hk : Rf (k σ) m D.int) (h : okN m = .ok i) : (k σ).bind (fun l' => partD (if false = true then none else some l')) = .ok i := by
  cases m with
  | ok j => rw [show k σ = .ok (.int j) from hk]; exact h
  | err _ _ => cases h
  | bad => cases h
theorem ne_no {i : Option Int} : ∀ c fs, (R.ok i : R (Option Int)) ≠ .err c fs := fun _ _ h => by cases h
theorem ne_okN {m : R Int} : ∀ c fs, okN m ≠ .err c fs := fun _ _ h => by cases m <;> cases h
end
end DI
/-! TL, walks, comprehensions, statements -/
namespace DI
open PySem
section
variable {α β γ δ S S' L L' : Type} {σ : Sl} {f k c : Sl → R D} {e : α → D} {e' : β → D} {m : R α} {n : R β}
def Ri (r : R (List D)) (m : R (List α)) (e : α → D) : Prop :=
  match m with
  | .ok xs => r = .ok (xs.map e)
  | .err c fs => r = .err c fs
  | .bad => True
theorem Rf.bindI {r : R D} {m : R α} {e : α → D} {k : D → R (List D)} {M : α → R (List β)} {e' : β → D} (h : Rf r m e) (h2 : ∀ a, Ri (k (e a)) (M a) e') : Ri (r.bind k) (m.bind M) e' := by
  cases m with
  | ok a => rw [show r = .ok (e a) from h]; exact h2 a
  | err c fs => rw [show r = .err c fs from h]; exact rfl
  | bad => exact True.intro
theorem Ri.guard {c c' : Prop} [Decidable c] [Decidable c'] {r : R (List D)} {m : R (List α)} {e : α → D} (hc : c' → c) (h : Ri r m e) : Ri (if c then r else .bad) (if c' then m else .bad) e := by
  by_cases q : c'
  · rw [if_pos q, if_pos (hc q)]; exact h
  · rw [if_neg q]; exact True.intro
def rg (lo : Int) (n : Nat) : List Int := (List.range n).map fun (k : Nat) => lo + (k : Int)
theorem rg_map (lo : Int) (n : Nat) : rngL lo n = (rg lo n).map D.int := by
  unfold rngL rg
  rw [List.map_map]; rfl
noncomputable def rngT (n : Int) : R (List Int) := if small62 n = true then .ok (rg 0 n.toNat) else .bad
noncomputable def rng2T (i j : Int) : R (List Int) := if (small62 i && small62 j) = true then .ok (rg i (j - i).toNat) else .bad
theorem ri_r1 {m : R Int} (h : Rf (f σ) m D.int) : Ri (iR1 (aC f aN) σ) (m.bind fun n => rngT n) D.int := by
  simp only [u_iR1, u_aC, u_aN, R.bind_assoc, R.bind_ok, tupOf_tup]
  exact h.bindI fun n => .guard id (by rw [rg_map]; exact rfl)
theorem ri_r2 {m n : R Int} (h : Rf (f σ) m D.int) (h2 : Rf (k σ) n D.int) : Ri (iR2 (aC f (aC k aN)) σ) (m.bind fun i => n.bind fun j => rng2T i j) D.int := by
  simp only [u_iR2, u_aC, u_aN, R.bind_assoc, R.bind_ok, tupOf_tup]
  exact h.bindI fun i => h2.bindI fun j => .guard id (by rw [rg_map]; exact rfl)
theorem it_L {o : Bool} (cl : Cl e) (xs : List α) : itemsD (eLs o e xs) = .ok (xs.map e) := by unfold eLs; rw [itemsD_lst, if_pos (cl_map cl xs)]
theorem it_Q (cl : Cl e) (xs : List α) : itemsD (eSq e xs) = .ok (xs.map e) := by unfold eSq; rw [itemsD_tup, if_pos (cl_map cl xs)]
theorem it_S (s : St) : itemsD (eSt s) = .ok (s.map eCh) := by unfold eSt; rw [itemsD_str, sD_cps, List.map_map]; rfl
theorem ri_L {o : Bool} {m : R (List α)} (cl : Cl e) (h : Rf (f σ) m (eLs o e)) : Ri (iSeq' f σ) (m.bind fun xs => .ok xs) e := h.bindI fun xs => it_L cl xs
theorem ri_Q {m : R (List α)} (cl : Cl e) (h : Rf (f σ) m (eSq e)) : Ri (iSeq' f σ) (m.bind fun xs => .ok xs) e := h.bindI fun xs => it_Q cl xs
theorem ri_S {m : R St} (h : Rf (f σ) m eSt) : Ri (iSeq' f σ) (m.bind fun xs => .ok xs) eCh := h.bindI fun xs => it_S xs
def enT : Nat → List α → List (Int × α)
  | _, [] => []
  | k, x :: xs => ((k : Int), x) :: enT (k + 1) xs
theorem enT_map (e : α → D) : ∀ (k : Nat) (xs : List α), enumL k (xs.map e) = (enT k xs).map (eT2 D.int e)
  | _, [] => rfl
  | k, x :: xs => by rw [List.map_cons, enumL, enT_map e (k + 1) xs]; rfl
theorem ri_enOf {g : γ → D} {h' : γ → List α} (hi : ∀ x, itemsD (g x) = .ok ((h' x).map e)) {m : R γ} (h : Rf (f σ) m g) : Ri (iEn (aC f aN) σ) (m.bind fun xs => .ok (enT 0 (h' xs))) (eT2 D.int e) := by
  simp only [u_iEn, u_aC, u_aN, R.bind_assoc, R.bind_ok, tupOf_tup]
  exact h.bindI fun xs => by
    rw [enumD_one, hi, R.bind_ok, enT_map]; exact rfl
theorem ri_enL {o : Bool} {m : R (List α)} (cl : Cl e) (h : Rf (f σ) m (eLs o e)) : Ri (iEn (aC f aN) σ) (m.bind fun xs => .ok (enT 0 xs)) (eT2 D.int e) := ri_enOf (h' := fun xs => xs) (it_L cl) h
theorem ri_enQ {m : R (List α)} (cl : Cl e) (h : Rf (f σ) m (eSq e)) : Ri (iEn (aC f aN) σ) (m.bind fun xs => .ok (enT 0 xs)) (eT2 D.int e) := ri_enOf (h' := fun xs => xs) (it_Q cl) h
theorem ri_enS {m : R St} (h : Rf (f σ) m eSt) : Ri (iEn (aC f aN) σ) (m.bind fun xs => .ok (enT 0 xs)) (eT2 D.int eCh) := ri_enOf (h' := fun (xs : St) => (xs : List Char)) it_S h
theorem zip_map (e : α → D) (e' : β → D) : ∀ (xs : List α) (ys : List β), zipL (xs.map e) (ys.map e') = (xs.zip ys).map (eT2 e e')
  | [], _ => by simp [zipL]
  | _ :: _, [] => by simp [zipL]
  | x :: xs, y :: ys => by rw [List.map_cons, List.map_cons, zipL, zip_map e e' xs ys]; rfl
theorem ri_zL {o o' : Bool} {m : R (List α)} {n : R (List β)} (cl : Cl e) (cl' : Cl e') (h : Rf (f σ) m (eLs o e)) (h2 : Rf (k σ) n (eLs o' e')) : Ri (iZ (aC f (aC k aN)) σ) (m.bind fun xs => n.bind fun ys => .ok (xs.zip ys)) (eT2 e e') := by
  simp only [u_iZ, u_aC, u_aN, R.bind_assoc, R.bind_ok, tupOf_tup]
  exact h.bindI fun xs => h2.bindI fun ys => by
    show Ri ((itemsD (eLs o e xs)).bind fun xs => (itemsD (eLs o' e' ys)).bind fun ys => .ok (zipL xs ys)) _ _
    rw [it_L cl, it_L cl', R.bind_ok, R.bind_ok, zip_map]; exact rfl
theorem ri_zQ {m : R (List α)} {n : R (List β)} (cl : Cl e) (cl' : Cl e') (h : Rf (f σ) m (eSq e)) (h2 : Rf (k σ) n (eSq e')) : Ri (iZ (aC f (aC k aN)) σ) (m.bind fun xs => n.bind fun ys => .ok (xs.zip ys)) (eT2 e e') := by
  simp only [u_iZ, u_aC, u_aN, R.bind_assoc, R.bind_ok, tupOf_tup]
  exact h.bindI fun xs => h2.bindI fun ys => by
    show Ri ((itemsD (eSq e xs)).bind fun xs => (itemsD (eSq e' ys)).bind fun ys => .ok (zipL xs ys)) _ _
    rw [it_Q cl, it_Q cl', R.bind_ok, R.bind_ok, zip_map]; exact rfl
/-! comprehensions -/
def mpT (F : α → R β) : List α → R (List β)
  | [] => .ok []
  | x :: xs => match F x with
    | .ok y => (mpT F xs).bind fun ys => .ok (y :: ys)
    | _ => .bad
def fpT (C : α → R Bool) (F : α → R β) : List α → R (List β)
  | [] => .ok []
  | x :: xs => match C x with
    | .ok true => (match F x with
      | .ok y => (fpT C F xs).bind fun ys => .ok (y :: ys)
      | _ => .bad)
    | .ok false => fpT C F xs
    | _ => .bad
def cmT (xs : List α) (F : α → R β) : R (List β) := (mpT F xs).bind fun ys => if ys.length ≤ sizeLine then .ok ys else .bad
def cfT (xs : List α) (C : α → R Bool) (F : α → R β) : R (List β) := (fpT C F xs).bind fun ys => if ys.length ≤ sizeLine then .ok ys else .bad
theorem mpT_no {F : α → R β} : ∀ (xs : List α) c fs, mpT F xs ≠ .err c fs
  | [], c, fs, h => by cases h
  | x :: xs, c, fs, h => by
    rw [mpT] at h
    cases hf : F x with
    | ok y =>
      rw [hf] at h
      cases hr : mpT F xs with
      | ok ys => rw [hr] at h; cases h
      | err c' fs' => exact mpT_no xs c' fs' hr
      | bad => rw [hr] at h; cases h
    | err _ _ => rw [hf] at h; cases h
    | bad => rw [hf] at h; cases h
theorem fpT_no {C : α → R Bool} {F : α → R β} : ∀ (xs : List α) c fs, fpT C F xs ≠ .err c fs
  | [], c, fs, h => by cases h
  | x :: xs, c, fs, h => by
    rw [fpT] at h
    cases hc : C x with
    | ok b =>
      rw [hc] at h
      cases b with
      | false => exact fpT_no xs c fs h
      | true =>
        cases hf : F x with
        | ok y =>
          rw [hf] at h
          cases hr : fpT C F xs with
          | ok ys => rw [hr] at h; cases h
          | err c' fs' => exact fpT_no xs c' fs' hr
          | bad => rw [hr] at h; cases h
        | err _ _ => rw [hf] at h; cases h
        | bad => rw [hf] at h; cases h
    | err _ _ => rw [hc] at h; cases h
    | bad => rw [hc] at h; cases h
theorem fpT_ok {g : D → R (Option D)} {C : α → R Bool} {F : α → R β} {e : α → D} {e' : β → D} (h : ∀ x, (C x = .ok false → g (e x) = .ok none) ∧ ∀ y, C x = .ok true → F x = .ok y → g (e x) = .ok (some (e' y))) : ∀ (xs : List α) (ys : List β), fpT C F xs = .ok ys → compR g (xs.map e) = .ok (ys.map e')
  | [], ys, q => by cases q; rfl
  | x :: xs, ys, q => by
    rw [fpT] at q
    cases hc : C x with
    | ok b =>
      rw [hc] at q
      cases b with
      | false =>
        rw [List.map_cons, compR, (h x).1 hc, R.bind_ok, fpT_ok h xs ys q]; rfl
      | true =>
        cases hf : F x with
        | ok y =>
          rw [hf] at q
          cases hr : fpT C F xs with
          | ok zs =>
            rw [hr] at q
            cases q
            rw [List.map_cons, compR, (h x).2 y hc hf, R.bind_ok, fpT_ok h xs zs hr]; rfl
          | err _ _ => rw [hr] at q; cases q
          | bad => rw [hr] at q; cases q
        | err _ _ => rw [hf] at q; cases q
        | bad => rw [hf] at q; cases q
    | err _ _ => rw [hc] at q; cases q
    | bad => rw [hc] at q; cases q
theorem mpT_fpT {F : α → R β} : ∀ xs : List α, mpT F xs = fpT (fun _ => .ok true) F xs
  | [] => rfl
  | x :: xs => by rw [mpT, fpT, mpT_fpT xs]
theorem rf_cf {vs : List Nat} {p : Pat} {fi : Sl → R (List D)} {fc fe : Sl → R D} {m : R (List α)} {C : α → R Bool} {F : α → R β} (hi : Ri (fi σ) m e) (hb : ∀ x, ∃ σ1, bindP (wipeL σ vs) p (e x) = .ok σ1 ∧ Rf (fc σ1) (C x) D.bl ∧ Rf (fe σ1) (F x) e') : Rf (eComp vs p fi fc fe σ) (m.bind fun xs => cfT xs C F) (eLs true e') := by
  cases m with
  | bad => exact True.intro
  | err c fs => unfold eComp; rw [show fi σ = .err c fs from hi]; exact rfl
  | ok xs =>
    unfold eComp
    rw [show fi σ = .ok (xs.map e) from hi, R.bind_ok, R.bind_ok]
    unfold cfT
    cases hf : fpT C F xs with
    | bad => exact True.intro
    | err c fs => exact absurd hf (fpT_no xs c fs)
    | ok ys =>
      rw [fpT_ok (g := cBody vs p fc fe σ) (fun x => ?_) xs ys hf, R.bind_ok, R.bind_ok]
      · exact .guard (by rw [List.length_map]; exact id) rfl
      · obtain ⟨σ1, b, hc, he⟩ := hb x
        unfold cBody
        rw [b, R.bind_ok]
        refine ⟨fun q => ?_, fun y q q2 => ?_⟩
        · rw [q] at hc; rw [show fc σ1 = .ok (.bl false) from hc]; rfl
        · rw [q] at hc; rw [q2] at he; rw [show fc σ1 = .ok (.bl true) from hc]; simp only [R.bind_ok, boolOf_bl, if_pos]; rw [show fe σ1 = .ok (e' y) from he]; rfl
theorem rf_cm {vs : List Nat} {p : Pat} {fi : Sl → R (List D)} {fe : Sl → R D} {m : R (List α)} {F : α → R β} (hi : Ri (fi σ) m e) (hb : ∀ x, ∃ σ1, bindP (wipeL σ vs) p (e x) = .ok σ1 ∧ Rf (fe σ1) (F x) e') : Rf (eComp vs p fi eT fe σ) (m.bind fun xs => cmT xs F) (eLs true e') := by
  have q := rf_cf (C := fun _ => .ok true) hi fun x => by
    obtain ⟨σ1, b, h⟩ := hb x
    exact ⟨σ1, b, rfl, h⟩
  unfold cfT at q
  unfold cmT
  simp only [mpT_fpT]
  exact q

/-! ### statements -/
inductive O (S L α : Type) where
  | nx (s : S) | rt (a : α) | bk (l : L) | ct (l : L) | er (c : Nat) (fs : List D) | bad
def bnd (m : R β) (M : β → O S L α) : O S L α :=
  match m with
  | .ok a => M a
  | .err c fs => .er c fs
  | .bad => .bad
def O.thn (m : O S L α) (M : S → O S' L α) : O S' L α :=
  match m with
  | .nx s => M s
  | .rt a => .rt a
  | .bk l => .bk l
  | .ct l => .ct l
  | .er c fs => .er c fs
  | .bad => .bad
def runO (m : O S L α) : R α :=
  match m with
  | .rt a => .ok a
  | .er c fs => .err c fs
  | _ => .bad
def lpT (C : S → R Bool) (F : S → O S S α) : Nat → S → O S L α
  | 0, _ => .bad
  | n + 1, s => match C s with
    | .ok true => (match F s with
      | .nx s' => lpT C F n s'
      | .ct s' => lpT C F n s'
      | .bk s' => .nx s'
      | .rt a => .rt a
      | .er c fs => .er c fs
      | .bad => .bad)
    | .ok false => .nx s
    | .err c fs => .er c fs
    | .bad => .bad
open Classical in
noncomputable def whlT (C : S → R Bool) (F : S → O S S α) (s : S) : O S L α := if h : ∃ n, (lpT C F n s : O S L α) ≠ .bad then lpT C F (Classical.choose h) s else .bad
def forT : List β → (β → S → O S S α) → S → O S L α
  | [], _, s => .nx s
  | x :: xs, F, s => match F x s with
    | .nx s' => forT xs F s'
    | .ct s' => forT xs F s'
    | .bk s' => .nx s'
    | .rt a => .rt a
    | .er c fs => .er c fs
    | .bad => .bad
def apT (xs : List α) (a : α) : R (List α) := if xs.length < sizeLine then .ok (xs ++ [a]) else .bad
def puT [DecidableEq α] (kvs : List (α × β)) (k : α) (v : β) : R (List (α × β)) := if kvs.length < sizeLine then .ok (putT kvs k v) else .bad
def Gs (I : S → Sl → Prop) (J : L → Sl → Prop) (E : Sl → Prop) (e : α → D) (r : RS) (m : O S L α) : Prop :=
  match m with
  | .nx s => ∃ σ', r = .nx σ' ∧ I s σ'
  | .rt a => r = .rt (e a)
  | .bk l => ∃ σ', r = .bk σ' ∧ J l σ'
  | .ct l => ∃ σ', r = .ct σ' ∧ J l σ'
  | .er c fs => ∃ σ', r = .er c fs σ' ∧ E σ'
  | .bad => True
variable {I : S → Sl → Prop} {I' : S' → Sl → Prop} {J : L → Sl → Prop} {E : Sl → Prop} {K F G : SF}
theorem andThen_nx (r : RS) : r.andThen .nx = r := by cases r <;> rfl
theorem g_last {M : O S L α} (h : Gs I J E e ((F σ).andThen .nx) M) : Gs I J E e (F σ) M := by rw [andThen_nx] at h; exact h
theorem g_fun {M : O Unit Unit α} (h : Gs (fun _ _ => True) (fun _ _ => True) (fun _ => True) e (F σ) M) : Rf (resR (F σ)) (runO M) e := by
  cases M with
  | rt a => exact (congrArg resR (show F σ = .rt (e a) from h))
  | er c fs => obtain ⟨σ', q, _⟩ := h; exact congrArg resR q
  | _ => exact True.intro
theorem g_seq {M : O S L α} (h : Gs I J E e ((F σ).andThen fun σ => (G σ).andThen K) M) : Gs I J E e ((sSeq F G σ).andThen K) M := by
  have : (sSeq F G σ).andThen K = (F σ).andThen fun σ => (G σ).andThen K := by
    unfold sSeq
    cases F σ <;> rfl
  rw [this]; exact h
theorem g_nx {s : S} (h : I s σ) : Gs I J E e (RS.nx σ) (.nx s) := ⟨σ, rfl, h⟩
theorem g_skip {M : O S L α} (h : Gs I J E e (K σ) M) : Gs I J E e ((sSkip σ).andThen K) M := h
/-- a value computed first -/
theorem g_val {m : R β} {k : D → RS} {M : β → O S L α} (h : Rf (f σ) m e') (hE : E σ) (h2 : ∀ a, Gs I J E e ((k (e' a)).andThen K) (M a)) : Gs I J E e ((rS (f σ) σ k).andThen K) (bnd m M) := by
  cases m with
  | ok a => rw [show f σ = .ok (e' a) from h]; exact h2 a
  | err c fs => rw [show f σ = .err c fs from h]; exact ⟨σ, rfl, hE⟩
  | bad => exact True.intro
theorem g_set {i : Nat} {m : R β} {M : β → O S L α} (h : Rf (f σ) m e') (hE : E σ) (h2 : ∀ a, Gs I J E e (K (σ.set i (some (e' a)))) (M a)) : Gs I J E e ((sSet i f σ).andThen K) (bnd m M) := g_val h hE h2
theorem g_app {i : Nat} {m : R β} {xs : List β} {M : List β → O S L α} (e' : β → D) (hx : getS σ i = .ok (eLs true e' xs)) (h : Rf (f σ) m e') (hE : E σ) (h2 : ∀ ys, Gs I J E e (K (σ.set i (some (eLs true e' ys)))) (M ys)) : Gs I J E e ((sApp i f σ).andThen K) (bnd m fun a => bnd (apT xs a) M) := by
  have q : sApp i f σ = rS (f σ) σ fun y => if (xs.map e').length < sizeLine then .nx (σ.set i (some (.lst true (xs.map e' ++ [y])))) else .bad := by
    rw [u_sApp, hx]; rfl
  rw [q]
  refine g_val h hE fun a => ?_
  unfold apT
  by_cases hl : xs.length < sizeLine
  · rw [if_pos (by rw [List.length_map]; exact hl), if_pos hl]
    have := h2 (xs ++ [a])
    unfold eLs at this
    rw [List.map_append] at this
    exact this
  · rw [if_neg hl]; exact True.intro
theorem g_putk [DecidableEq β] {i : Nat} {fk fe : Sl → R D} {kvs : List (β × γ)} {κ : β → NestedKey} {ek : β → D} {mk : R β} {mv : R γ} {M : List (β × γ) → O S L α} (ev : γ → D) (kd : KD ek κ) (cl : Cl ev) (hx : getS σ i = .ok (eDc true κ ev kvs)) (hv : Rf (fe σ) mv ev) (hk : Rf (fk σ) mk ek) (hE : E σ)
    (h2 : ∀ ys, Gs I J E e (K (σ.set i (some (eDc true κ ev ys)))) (M ys)) : Gs I J E e ((sPutK i fk fe σ).andThen K) (bnd mv fun v => bnd mk fun k => bnd (puT kvs k v) M) := by
  rw [u_sPutK, hx]
  refine g_val hv hE fun v => ?_
  show Gs I J E e ((rS (fk σ) σ fun x => rS (keyIn x (encK κ ev kvs)) σ fun k => if clean (ev v) = true ∧ (encK κ ev kvs).length < sizeLine then .nx (σ.set i (some (.dct true (dput (encK κ ev kvs) k (ev v))))) else .bad).andThen K) _
  refine g_val hk hE fun a => ?_
  rw [kd.keyIn]
  show Gs I J E e ((if clean (ev v) = true ∧ (encK κ ev kvs).length < sizeLine then RS.nx (σ.set i (some (.dct true (dput (encK κ ev kvs) (κ a) (ev v))))) else .bad).andThen K) _
  unfold puT
  by_cases hl : kvs.length < sizeLine
  · rw [if_pos ⟨cl v, by unfold encK; rw [List.length_map]; exact hl⟩, if_pos hl, kd.dput]
    exact h2 _
  · rw [if_neg hl]; exact True.intro
theorem g_unp {p : Pat} {m : R β} {M : β → O S L α} (cl : Cl e') (h : Rf (f σ) m e') (hE : E σ) (h2 : ∀ a, ∃ σ', bindP σ p (e' a) = .ok σ' ∧ Gs I J E e (K σ') (M a)) : Gs I J E e ((sUnp p f σ).andThen K) (bnd m M) := by
  rw [u_sUnp]
  refine g_val h hE fun a => ?_
  obtain ⟨σ', q, g⟩ := h2 a
  rw [if_pos (cl a), q]
  exact g
theorem g_fz {i : Nat} {M : O S L α} {a : β} {e1 : β → D} (e' : β → D) (hx : getS σ i = .ok (e' a)) (z : Fz e' e1) (h : Gs I J E e ((G (σ.set i (some (e1 a)))).andThen K) M) : Gs I J E e ((sFz i G σ).andThen K) M := by
  rw [u_sFz, hx]
  show Gs I J E e ((G (σ.set i (some (frz (e' a))))).andThen K) M
  rw [z a]; exact h
theorem g_if {m : R Bool} {M1 M2 : O S L α} (h : Rf (c σ) m D.bl) (hE : E σ) (h1 : Gs I J E e ((F σ).andThen K) M1) (h2 : Gs I J E e ((G σ).andThen K) M2) : Gs I J E e ((sIf c F G σ).andThen K) (bnd m fun b => if b = true then M1 else M2) := by
  rw [u_sIf]
  refine g_val h hE fun b => ?_
  cases b
  · exact h2
  · exact h1
theorem g_ret {m : R α} (h : Rf (f σ) m e) (hE : E σ) : Gs I J E e ((sRet f σ).andThen K) (bnd m .rt) := by
  rw [u_sRet]
  exact g_val h hE fun a => rfl
theorem g_retV {i : Nat} {a : α} (hx : getS σ i = .ok (e a)) : Gs I J E e ((sRetV i σ).andThen K) (.rt a) := by
  rw [u_sRetV, hx]; exact rfl
theorem g_retN {a : α} (hx : e a = .non) : Gs I J E e ((sRetN σ).andThen K) (.rt a) := by
  show RS.rt .non = RS.rt (e a)
  rw [hx]
theorem g_brk {s : L} (h : J s σ) : Gs I J E e ((sBrk σ).andThen K) (.bk s) := ⟨σ, rfl, h⟩
theorem g_cnt {s : L} (h : J s σ) : Gs I J E e ((sCnt σ).andThen K) (.ct s) := ⟨σ, rfl, h⟩
theorem g_bad : Gs I J E e ((sBad σ).andThen K) (O.bad : O S L α) := True.intro
theorem g_drop {m : R β} {M : O S L α} (h : Rf (f σ) m e') (hE : E σ) (h2 : Gs I J E e (K σ) M) : Gs I J E e ((sDrop f σ).andThen K) (bnd m fun _ => M) := by
  rw [u_sDrop]; exact g_val h hE fun a => h2
theorem g_thn {M : S' → O S L α} {n : O S' L α} (h : Gs I' J E e (F σ) n) (h2 : ∀ s σ', I' s σ' → Gs I J E e (K σ') (M s)) : Gs I J E e ((F σ).andThen K) (n.thn M) := by
  cases n with
  | nx s => obtain ⟨σ', q, i⟩ := h; rw [q]; exact h2 s σ' i
  | rt a => rw [show F σ = .rt (e a) from h]; exact rfl
  | bk l => obtain ⟨σ', q, i⟩ := h; rw [q]; exact ⟨σ', rfl, i⟩
  | ct l => obtain ⟨σ', q, i⟩ := h; rw [q]; exact ⟨σ', rfl, i⟩
  | er c fs => obtain ⟨σ', q, i⟩ := h; rw [q]; exact ⟨σ', rfl, i⟩
  | bad => exact True.intro
theorem g_lp {C : S → R Bool} {B : S → O S S α} (hc : ∀ s σ, I s σ → Rf (c σ) (C s) D.bl) (hb : ∀ s σ, I s σ → Gs I I E e (F σ) (B s)) (hE : ∀ s σ, I s σ → E σ) : ∀ (n : Nat) (s : S) (σ : Sl), I s σ → (lpT C B n s : O S L α) ≠ .bad → Gs I J E e (lp c F n σ) (lpT C B n s : O S L α)
  | 0, s, σ, hi, h => absurd rfl h
  | n + 1, s, σ, hi, h => by
    have ih := fun s' σ' (i : I s' σ') (h : (lpT C B n s' : O S L α) ≠ .bad) => g_lp hc hb hE n s' σ' i h
    rw [lpT] at h ⊢
    rw [lp]
    have q := hc s σ hi
    have b := hb s σ hi
    cases hC : C s with
    | bad => exact True.intro
    | err cc fs => rw [hC] at q; rw [show c σ = .err cc fs from q]; exact ⟨σ, rfl, hE s σ hi⟩
    | ok v =>
      rw [hC] at q h
      rw [show c σ = .ok (.bl v) from q]
      cases v with
      | false => exact ⟨σ, rfl, hi⟩
      | true =>
        simp only [rS_ok, if_pos] at h ⊢
        cases hB : B s with
        | nx s' => rw [hB] at b h; obtain ⟨σ', q, i⟩ := b; rw [q]; exact ih s' σ' i h
        | ct s' => rw [hB] at b h; obtain ⟨σ', q, i⟩ := b; rw [q]; exact ih s' σ' i h
        | bk s' => rw [hB] at b; obtain ⟨σ', q, i⟩ := b; rw [q]; exact ⟨σ', rfl, i⟩
        | rt a => rw [hB] at b; rw [show F σ = .rt (e a) from b]; exact rfl
        | er cc fs => rw [hB] at b; obtain ⟨σ', q, i⟩ := b; rw [q]; exact ⟨σ', rfl, i⟩
        | bad => exact True.intro
theorem g_whl {C : S → R Bool} {B : S → O S S α} {s : S} (hi : I s σ) (hE : ∀ s σ, I s σ → E σ) (hc : ∀ s σ, I s σ → Rf (c σ) (C s) D.bl) (hb : ∀ s σ, I s σ → Gs I I E e (F σ) (B s)) : Gs I J E e (sWhl c F σ) (whlT C B s : O S L α) := by
  unfold whlT
  by_cases h : ∃ n, (lpT C B n s : O S L α) ≠ .bad
  · rw [dif_pos h]
    have nb := Classical.choose_spec h
    have q := g_lp (J := J) hc hb hE _ s σ hi nb
    rw [whl_eq (n := Classical.choose h) rfl]
    · exact q
    · intro z
      rw [z] at q
      revert q nb
      generalize (lpT C B (Classical.choose h) s : O S L α) = m
      intro nb q
      cases m with
      | bad => exact nb rfl
      | rt a => cases q
      | _ => obtain ⟨_, q, _⟩ := q; cases q
  · rw [dif_neg h]; exact True.intro
theorem g_fr {p : Pat} {B : β → S → O S S α} (hb : ∀ x s σ, I s σ → ∃ σ1, bindP σ p (e' x) = .ok σ1 ∧ Gs I I E e (F σ1) (B x s)) : ∀ (xs : List β) (s : S) (σ : Sl), I s σ → Gs I J E e (fr p F (xs.map e') σ) (forT xs B s : O S L α)
  | [], s, σ, hi => ⟨σ, rfl, hi⟩
  | x :: xs, s, σ, hi => by
    have ih := fun s' σ' (i : I s' σ') => g_fr hb xs s' σ' i
    rw [forT, List.map_cons, fr]
    obtain ⟨σ1, q1, b⟩ := hb x s σ hi
    rw [q1, rS_ok]
    cases hB : B x s with
    | nx s' => rw [hB] at b; obtain ⟨σ', q, i⟩ := b; rw [q]; exact ih s' σ' i
    | ct s' => rw [hB] at b; obtain ⟨σ', q, i⟩ := b; rw [q]; exact ih s' σ' i
    | bk s' => rw [hB] at b; obtain ⟨σ', q, i⟩ := b; rw [q]; exact ⟨σ', rfl, i⟩
    | rt a => rw [hB] at b; rw [show F σ1 = .rt (e a) from b]; exact rfl
    | er cc fs => rw [hB] at b; obtain ⟨σ', q, i⟩ := b; rw [q]; exact ⟨σ', rfl, i⟩
    | bad => exact True.intro
theorem g_for {p : Pat} {src : Sl → R (List D)} {B : β → S → O S S α} {m : R (List β)} {s : S} (hs : Ri (src σ) m e') (hi : I s σ) (hE : E σ) (hb : ∀ x s σ, I s σ → ∃ σ1, bindP σ p (e' x) = .ok σ1 ∧ Gs I I E e (F σ1) (B x s)) : Gs I J E e (sFor p src F σ) (bnd m fun xs => (forT xs B s : O S L α)) := by
  unfold sFor
  cases m with
  | ok xs => rw [show src σ = .ok (xs.map e') from hs]; exact g_fr hb xs s σ hi
  | err c fs => rw [show src σ = .err c fs from hs]; exact ⟨σ, rfl, hE⟩
  | bad => exact True.intro
end
end DI
namespace DI
open PySem
section
variable {α β γ δ ε S S' L L' : Type} {σ : Sl} {f k c : Sl → R D} {e : α → D} {e' : β → D} {I : S → Sl → Prop} {J : L → Sl → Prop} {E : Sl → Prop} {K F G : SF}
theorem g_ifP {b : Bool} {M1 M2 : O S L α} (h : Rf (c σ) (.ok b) D.bl) (h1 : Gs I J E e ((F σ).andThen K) M1) (h2 : Gs I J E e ((G σ).andThen K) M2) : Gs I J E e ((sIf c F G σ).andThen K) (if b = true then M1 else M2) := by
  rw [u_sIf, show c σ = .ok (.bl b) from h]
  cases b
  · exact h2
  · exact h1
theorem g_retP {a : α} (h : Rf (f σ) (.ok a) e) : Gs I J E e ((sRet f σ).andThen K) (.rt a) := by
  rw [u_sRet, show f σ = .ok (e a) from h]
  exact rfl
theorem g_retR {i : Nat} {m : R α} (h : Rf (eV i σ) m e) (hE : E σ) : Gs I J E e ((sRetV i σ).andThen K) (bnd m .rt) := by
  rw [u_sRetV]
  exact g_val (f := eV i) h hE fun a => rfl
theorem g_appP {i : Nat} {a : β} {xs : List β} {M : List β → O S L α} (e' : β → D) (hx : getS σ i = .ok (eLs true e' xs)) (h : Rf (f σ) (.ok a) e') (hE : E σ) (h2 : ∀ ys, Gs I J E e (K (σ.set i (some (eLs true e' ys)))) (M ys)) : Gs I J E e ((sApp i f σ).andThen K) (bnd (apT xs a) M) :=
  g_app e' hx h hE h2
theorem g_forP {p : Pat} {src : Sl → R (List D)} {B : β → S → O S S α} {xs : List β} {s : S} (hs : Ri (src σ) (.ok xs) e') (hi : I s σ) (hE : E σ) (hb : ∀ x s σ, I s σ → ∃ σ1, bindP σ p (e' x) = .ok σ1 ∧ Gs I I E e (F σ1) (B x s)) : Gs I J E e (sFor p src F σ) ((forT xs B s : O S L α)) :=
  g_for hs hi hE hb
theorem k_str (s : String) : D.str (Str.ofString s) = eSt s.toList := congrArg D.str (Str.ofString_eq_toList s)
/-! widening, narrowing -/
theorem wd_id : Wd e e (fun a => a) := fun _ => rfl
theorem wd_chr : Wd eCh eSt (fun c => [c]) := fun _ => rfl
theorem wd_ti : Wd D.int eTu Sum.inl := fun _ => rfl
theorem wd_ts : Wd eSt eTu Sum.inr := fun _ => rfl
theorem wd_some : Wd e (eOp e) some := fun _ => rfl
theorem wd_none : Wd eNon (eOp e) (fun _ => none) := fun _ => rfl
theorem wd_dy : Wd e eDy e := fun _ => rfl
theorem wd_comp {e1 : α → D} {e2 : β → D} {e3 : γ → D} {w : α → β} {w' : β → γ} (h : Wd e1 e2 w) (h' : Wd e2 e3 w') : Wd e1 e3 (fun a => w' (w a)) := fun a => (h' _).trans (h a)
theorem wd_op {w : α → β} (h : Wd e e' w) : Wd (eOp e) (eOp e') (Option.map w) := fun a => by cases a with
  | none => rfl
  | some a => exact h a
theorem wd_map {w : α → β} (h : Wd e e' w) (xs : List α) : (xs.map w).map e' = xs.map e := by
  rw [List.map_map]
  exact List.map_congr_left fun a _ => h a
theorem wd_sq {w : α → β} (h : Wd e e' w) : Wd (eSq e) (eSq e') (List.map w) := fun a => congrArg D.tup (wd_map h a)
theorem wd_ls {o : Bool} {w : α → β} (h : Wd e e' w) : Wd (eLs o e) (eLs o e') (List.map w) := fun a => congrArg (D.lst o) (wd_map h a)
theorem wd_t1 {w : α → β} (h : Wd e e' w) : Wd (eT1 e) (eT1 e') w := fun a => by unfold eT1; rw [h]
theorem wd_t2 {α2 β2 : Type} {f : α2 → D} {f' : β2 → D} {w : α → β} {w2 : α2 → β2} (h : Wd e e' w) (h2 : Wd f f' w2) : Wd (eT2 e f) (eT2 e' f') (fun p => (w p.1, w2 p.2)) := fun a => by unfold eT2; rw [h, h2]
theorem wd_t3 {α2 β2 α3 β3 : Type} {f : α2 → D} {f' : β2 → D} {g : α3 → D} {g' : β3 → D} {w : α → β} {w2 : α2 → β2} {w3 : α3 → β3} (h : Wd e e' w) (h2 : Wd f f' w2) (h3 : Wd g g' w3) : Wd (eT3 e f g) (eT3 e' f' g') (fun p => (w p.1, w2 p.2.1, w3 p.2.2)) := fun a => by unfold eT3; rw [h, h2, h3]
theorem wd_q1 {w : α → β} (h : Wd e e' w) : Wd (eT1 e) (eSq e') (fun p => [w p]) := fun a => by unfold eT1 eSq; rw [List.map_cons, h]; rfl
theorem wd_q2 {α2 : Type} {f : α2 → D} {w : α → β} {w2 : α2 → β} (h : Wd e e' w) (h2 : Wd f e' w2) : Wd (eT2 e f) (eSq e') (fun p => [w p.1, w2 p.2]) := fun a => by unfold eT2 eSq; rw [List.map_cons, List.map_cons, h, h2]; rfl
theorem wd_q3 {α2 α3 : Type} {f : α2 → D} {g : α3 → D} {w : α → β} {w2 : α2 → β} {w3 : α3 → β} (h : Wd e e' w) (h2 : Wd f e' w2) (h3 : Wd g e' w3) : Wd (eT3 e f g) (eSq e') (fun p => [w p.1, w2 p.2.1, w3 p.2.2]) := fun a => by unfold eT3 eSq; rw [List.map_cons, List.map_cons, List.map_cons, h, h2, h3]; rfl
def tuI : Turn → R Int
  | .inl i => .ok i
  | .inr _ => .bad
def tuS : Turn → R St
  | .inr s => .ok s
  | .inl _ => .bad
def unO : Option α → R α
  | some a => .ok a
  | none => .bad
def dyI : D → R Int
  | .int i => .ok i
  | _ => .bad
def dyB : D → R Bool
  | .bl i => .ok i
  | _ => .bad
def q2T : List α → R (α × α)
  | [a, b] => .ok (a, b)
  | _ => .bad
theorem nw_tuI : Nw eTu D.int tuI := fun a => by cases a; exact rfl; exact True.intro
theorem nw_tuS : Nw eTu eSt tuS := fun a => by cases a; exact True.intro; exact rfl
theorem nw_unO : Nw (eOp e) e unO := fun a => by cases a; exact True.intro; exact rfl
theorem nw_dyI : Nw eDy D.int dyI := fun a => by cases a <;> first | exact rfl | exact True.intro
theorem nw_dyB : Nw eDy D.bl dyB := fun a => by cases a <;> first | exact rfl | exact True.intro
theorem nw_q2 : Nw (eSq e) (eT2 e e) q2T := fun a => by
  match a with
  | [] => exact True.intro
  | [_] => exact True.intro
  | [_, _] => exact rfl
  | _ :: _ :: _ :: _ => exact True.intro
theorem rf_sl3_1 {f : Sl → R D} {g : β → D} {h' : γ → D} {m : R (α × β × γ)} (c1 : Cl e) (c2 : Cl g) (c3 : Cl h') (h : Rf (f σ) m (eT3 e g h')) : Rf (eSl f false (eK (.int 1)) true (eK .non) σ) (m.bind fun p => .ok (p.2.1, p.2.2)) (eT2 g h') :=
  h.bind fun p => by
    refine rf_ok ?_
    show (if cleanL [e p.1, g p.2.1, h' p.2.2] = true then R.ok (D.tup (cutL [e p.1, g p.2.1, h' p.2.2] (some 1) none)) else .bad) = _
    rw [if_pos (by simp [c1 _, c2 _, c3 _])]
    rfl
theorem rf_cat12 {f k : Sl → R D} {g : β → D} {h' : γ → D} {m : R α} {n : R (β × γ)} (c1 : Cl e) (c2 : Cl g) (c3 : Cl h') (h : Rf (f σ) m (eT1 e)) (h2 : Rf (k σ) n (eT2 g h')) : Rf (eB .add f k σ) (m.bind fun a => n.bind fun p => .ok (a, p)) (eT3 e g h') :=
  h.bind fun a => h2.bind fun p => by
    refine rf_ok ?_
    show (if (cleanL [e a] && cleanL [g p.1, h' p.2]) = true ∧ [e a].length + [g p.1, h' p.2].length ≤ sizeLine then R.ok (D.tup ([e a] ++ [g p.1, h' p.2])) else .bad) = _
    rw [if_pos ⟨by simp [c1 _, c2 _, c3 _], le_line (by simp)⟩]
    rfl
theorem rf_isiD {f : Sl → R D} {t : Ty} {m : R D} (h : Rf (f σ) m eDy) : Rf (eIsi t f σ) (m.bind fun d => isTy t d) D.bl :=
  h.bind fun d => by
    show Rf (blR (isTy t d)) (isTy t d) D.bl
    cases isTy t d <;> first | exact rfl | exact True.intro
theorem tu_isStr : ∀ a, isTy .str (eTu a) = .ok a.isRight := fun a => by cases a <;> rfl
theorem tu_isInt : ∀ a, isTy .int (eTu a) = .ok a.isLeft := fun a => by cases a <;> rfl
theorem op_isTy {t : Ty} {b : Bool} (h : ∀ a, isTy t (e a) = .ok b) (h0 : isTy t .non = .ok false) : ∀ a, isTy t (eOp e a) = .ok (a.isSome && b) := fun a => by
  cases a with
  | none => exact h0
  | some a => exact (h a).trans rfl
/-! methods of texts -/
def fndT (s t : St) : Int := Txt.find (sD s) (sD t)
def idxT (s t : St) : R Int := match Builtin.Str.occurrences (sD s) (sD t) 0 (sD s).length 1 with
  | [] => .bad
  | k :: _ => .ok (k : Nat)
theorem rf_find {f k : Sl → R D} {m n : R St} (h : Rf (f σ) m eSt) (h2 : Rf (k σ) n eSt) : Rf (eMt .find f (aC k aN) σ) (m.bind fun s => n.bind fun t => .ok (fndT s t)) D.int := by
  simp only [u_eMt, u_aC, u_aN, R.bind_assoc, R.bind_ok, tupOf_tup]
  refine h.bind fun s => ?_
  rw [if_pos (show recvOk .find (eSt s) = true from rfl)]
  exact h2.bind fun t => rfl
theorem rf_sidx {f k : Sl → R D} {m n : R St} (h : Rf (f σ) m eSt) (h2 : Rf (k σ) n eSt) : Rf (eMt .strIndex f (aC k aN) σ) (m.bind fun s => n.bind fun t => idxT s t) D.int := by
  simp only [u_eMt, u_aC, u_aN, R.bind_assoc, R.bind_ok, tupOf_tup]
  refine h.bind fun s => ?_
  rw [if_pos (show recvOk .strIndex (eSt s) = true from rfl)]
  refine h2.bind fun t => ?_
  show Rf (match Builtin.Str.occurrences (sD s) (sD t) 0 (sD s).length 1 with | [] => R.bad | k :: _ => R.ok (D.int (k : Nat))) (idxT s t) D.int
  unfold idxT
  cases Builtin.Str.occurrences (sD s) (sD t) 0 (sD s).length 1 with
  | nil => exact True.intro
  | cons k _ => exact rfl
def lixT [DecidableEq α] (xs : List α) (a : α) : R Int := match xs.findIdx? fun z => decide (z = a) with
  | some n => .ok (n : Nat)
  | none => .bad
theorem rf_lidx [DecidableEq α] {o : Bool} {f k : Sl → R D} {e e' : α → D} {p : α → PyData} {u u' : Nat} (hp : PyE e p u) (hp' : PyE e' p u') (q : PyQ p) (hn : u ≤ 63) (hn' : u' ≤ 63) {m : R (List α)} {n : R α} (h : Rf (f σ) m (eLs o e)) (h2 : Rf (k σ) n e') : Rf (eMt .lstIndex f (aC k aN) σ) (m.bind fun s => n.bind fun t => lixT s t) D.int := by
  simp only [u_eMt, u_aC, u_aN, R.bind_assoc, R.bind_ok, tupOf_tup]
  refine h.bind fun s => ?_
  rw [if_pos (show recvOk .lstIndex (eLs o e s) = true from rfl)]
  refine h2.bind fun t => ?_
  show Rf ((idxL (e' t) (s.map e)).bind fun n => .ok (.int n)) (lixT s t) D.int
  unfold idxL lixT
  rw [hp'.py, pyL_map hp.py]
  have s1 : SeqAt.shaped (p t) = true := by
    unfold SeqAt.shaped
    rw [Bool.and_eq_true, decide_eq_true_iff]
    exact ⟨hp'.lay t, Nat.le_trans (hp'.dep t) (by omega)⟩
  have s2 : SeqAt.shaped (.list (s.map p)) = true := by
    unfold SeqAt.shaped
    have := dep_map hp.dep s
    rw [Bool.and_eq_true, decide_eq_true_iff]
    exact ⟨by rw [PyData.canLay0]; exact lay_map hp.lay s, by rw [PyData.depth]; omega⟩
  simp only [s1, s2, Bool.and_self, if_pos]
  have hf : (s.map p).findIdx? (fun z => PyData.eqv z (p t)) = s.findIdx? fun z => decide (z = t) := by
    rw [List.findIdx?_map]
    congr 1
    funext z
    exact q z t
  rw [hf]
  cases s.findIdx? fun z => decide (z = t) with
  | none => exact True.intro
  | some n => exact rfl
def jnS (s : St) : List St → St
  | [] => []
  | [x] => x
  | x :: xs => x ++ s ++ jnS s xs
def joT (s : St) (ys : List St) : R St := if (ys.map (·.length)).sum + ys.length * s.length ≤ 16777216 then .ok (jnS s ys) else .bad
end
end DI
namespace DI
open PySem
section
variable {σ : Sl} {f k l : Sl → R D}
theorem rf_lt {m n : R Int} (h : Rf (f σ) m D.int) (h2 : Rf (k σ) n D.int) : Rf (eC .lt f k σ) (m.bind fun i => n.bind fun j => .ok (decide (i < j))) D.bl := h.bind fun _ => h2.bind fun _ => rfl
theorem rf_le {m n : R Int} (h : Rf (f σ) m D.int) (h2 : Rf (k σ) n D.int) : Rf (eC .le f k σ) (m.bind fun i => n.bind fun j => .ok (decide (i ≤ j))) D.bl := h.bind fun _ => h2.bind fun _ => rfl
theorem rf_gt {m n : R Int} (h : Rf (f σ) m D.int) (h2 : Rf (k σ) n D.int) : Rf (eC .gt f k σ) (m.bind fun i => n.bind fun j => .ok (decide (j < i))) D.bl := h.bind fun _ => h2.bind fun _ => rfl
theorem rf_ge {m n : R Int} (h : Rf (f σ) m D.int) (h2 : Rf (k σ) n D.int) : Rf (eC .ge f k σ) (m.bind fun i => n.bind fun j => .ok (decide (j ≤ i))) D.bl := h.bind fun _ => h2.bind fun _ => rfl
theorem rf_cc_ltlt {m n : R Int} {z : Int} (h : Rf (f σ) m D.int) (h2 : Rf (k σ) n D.int) (h3 : Rf (l σ) (.ok z) D.int) : Rf (eCC .lt .lt f k l σ) (m.bind fun i => n.bind fun j => .ok (decide (i < j) && decide (j < z))) D.bl := h.bind fun i => h2.bind fun j => by
  rw [show cmpD .lt (.int i) (.int j) = .ok (decide (i < j)) from rfl, R.bind_ok, show l σ = .ok (.int z) from h3]
  by_cases q : i < j <;> simp [q] <;> exact rfl
theorem rf_cc_ltle {m n : R Int} {z : Int} (h : Rf (f σ) m D.int) (h2 : Rf (k σ) n D.int) (h3 : Rf (l σ) (.ok z) D.int) : Rf (eCC .lt .le f k l σ) (m.bind fun i => n.bind fun j => .ok (decide (i < j) && decide (j ≤ z))) D.bl := h.bind fun i => h2.bind fun j => by
  rw [show cmpD .lt (.int i) (.int j) = .ok (decide (i < j)) from rfl, R.bind_ok, show l σ = .ok (.int z) from h3]
  by_cases q : i < j <;> simp [q] <;> exact rfl
theorem rf_cc_ltgt {m n : R Int} {z : Int} (h : Rf (f σ) m D.int) (h2 : Rf (k σ) n D.int) (h3 : Rf (l σ) (.ok z) D.int) : Rf (eCC .lt .gt f k l σ) (m.bind fun i => n.bind fun j => .ok (decide (i < j) && decide (z < j))) D.bl := h.bind fun i => h2.bind fun j => by
  rw [show cmpD .lt (.int i) (.int j) = .ok (decide (i < j)) from rfl, R.bind_ok, show l σ = .ok (.int z) from h3]
  by_cases q : i < j <;> simp [q] <;> exact rfl
theorem rf_cc_ltge {m n : R Int} {z : Int} (h : Rf (f σ) m D.int) (h2 : Rf (k σ) n D.int) (h3 : Rf (l σ) (.ok z) D.int) : Rf (eCC .lt .ge f k l σ) (m.bind fun i => n.bind fun j => .ok (decide (i < j) && decide (z ≤ j))) D.bl := h.bind fun i => h2.bind fun j => by
  rw [show cmpD .lt (.int i) (.int j) = .ok (decide (i < j)) from rfl, R.bind_ok, show l σ = .ok (.int z) from h3]
  by_cases q : i < j <;> simp [q] <;> exact rfl
theorem rf_cc_lelt {m n : R Int} {z : Int} (h : Rf (f σ) m D.int) (h2 : Rf (k σ) n D.int) (h3 : Rf (l σ) (.ok z) D.int) : Rf (eCC .le .lt f k l σ) (m.bind fun i => n.bind fun j => .ok (decide (i ≤ j) && decide (j < z))) D.bl := h.bind fun i => h2.bind fun j => by
  rw [show cmpD .le (.int i) (.int j) = .ok (decide (i ≤ j)) from rfl, R.bind_ok, show l σ = .ok (.int z) from h3]
  by_cases q : i ≤ j <;> simp [q] <;> exact rfl
theorem rf_cc_lele {m n : R Int} {z : Int} (h : Rf (f σ) m D.int) (h2 : Rf (k σ) n D.int) (h3 : Rf (l σ) (.ok z) D.int) : Rf (eCC .le .le f k l σ) (m.bind fun i => n.bind fun j => .ok (decide (i ≤ j) && decide (j ≤ z))) D.bl := h.bind fun i => h2.bind fun j => by
  rw [show cmpD .le (.int i) (.int j) = .ok (decide (i ≤ j)) from rfl, R.bind_ok, show l σ = .ok (.int z) from h3]
  by_cases q : i ≤ j <;> simp [q] <;> exact rfl
theorem rf_cc_legt {m n : R Int} {z : Int} (h : Rf (f σ) m D.int) (h2 : Rf (k σ) n D.int) (h3 : Rf (l σ) (.ok z) D.int) : Rf (eCC .le .gt f k l σ) (m.bind fun i => n.bind fun j => .ok (decide (i ≤ j) && decide (z < j))) D.bl := h.bind fun i => h2.bind fun j => by
  rw [show cmpD .le (.int i) (.int j) = .ok (decide (i ≤ j)) from rfl, R.bind_ok, show l σ = .ok (.int z) from h3]
  by_cases q : i ≤ j <;> simp [q] <;> exact rfl
theorem rf_cc_lege {m n : R Int} {z : Int} (h : Rf (f σ) m D.int) (h2 : Rf (k σ) n D.int) (h3 : Rf (l σ) (.ok z) D.int) : Rf (eCC .le .ge f k l σ) (m.bind fun i => n.bind fun j => .ok (decide (i ≤ j) && decide (z ≤ j))) D.bl := h.bind fun i => h2.bind fun j => by
  rw [show cmpD .le (.int i) (.int j) = .ok (decide (i ≤ j)) from rfl, R.bind_ok, show l σ = .ok (.int z) from h3]
  by_cases q : i ≤ j <;> simp [q] <;> exact rfl
theorem rf_cc_gtlt {m n : R Int} {z : Int} (h : Rf (f σ) m D.int) (h2 : Rf (k σ) n D.int) (h3 : Rf (l σ) (.ok z) D.int) : Rf (eCC .gt .lt f k l σ) (m.bind fun i => n.bind fun j => .ok (decide (j < i) && decide (j < z))) D.bl := h.bind fun i => h2.bind fun j => by
  rw [show cmpD .gt (.int i) (.int j) = .ok (decide (j < i)) from rfl, R.bind_ok, show l σ = .ok (.int z) from h3]
  by_cases q : j < i <;> simp [q] <;> exact rfl
theorem rf_cc_gtle {m n : R Int} {z : Int} (h : Rf (f σ) m D.int) (h2 : Rf (k σ) n D.int) (h3 : Rf (l σ) (.ok z) D.int) : Rf (eCC .gt .le f k l σ) (m.bind fun i => n.bind fun j => .ok (decide (j < i) && decide (j ≤ z))) D.bl := h.bind fun i => h2.bind fun j => by
  rw [show cmpD .gt (.int i) (.int j) = .ok (decide (j < i)) from rfl, R.bind_ok, show l σ = .ok (.int z) from h3]
  by_cases q : j < i <;> simp [q] <;> exact rfl
theorem rf_cc_gtgt {m n : R Int} {z : Int} (h : Rf (f σ) m D.int) (h2 : Rf (k σ) n D.int) (h3 : Rf (l σ) (.ok z) D.int) : Rf (eCC .gt .gt f k l σ) (m.bind fun i => n.bind fun j => .ok (decide (j < i) && decide (z < j))) D.bl := h.bind fun i => h2.bind fun j => by
  rw [show cmpD .gt (.int i) (.int j) = .ok (decide (j < i)) from rfl, R.bind_ok, show l σ = .ok (.int z) from h3]
  by_cases q : j < i <;> simp [q] <;> exact rfl
theorem rf_cc_gtge {m n : R Int} {z : Int} (h : Rf (f σ) m D.int) (h2 : Rf (k σ) n D.int) (h3 : Rf (l σ) (.ok z) D.int) : Rf (eCC .gt .ge f k l σ) (m.bind fun i => n.bind fun j => .ok (decide (j < i) && decide (z ≤ j))) D.bl := h.bind fun i => h2.bind fun j => by
  rw [show cmpD .gt (.int i) (.int j) = .ok (decide (j < i)) from rfl, R.bind_ok, show l σ = .ok (.int z) from h3]
  by_cases q : j < i <;> simp [q] <;> exact rfl
theorem rf_cc_gelt {m n : R Int} {z : Int} (h : Rf (f σ) m D.int) (h2 : Rf (k σ) n D.int) (h3 : Rf (l σ) (.ok z) D.int) : Rf (eCC .ge .lt f k l σ) (m.bind fun i => n.bind fun j => .ok (decide (j ≤ i) && decide (j < z))) D.bl := h.bind fun i => h2.bind fun j => by
  rw [show cmpD .ge (.int i) (.int j) = .ok (decide (j ≤ i)) from rfl, R.bind_ok, show l σ = .ok (.int z) from h3]
  by_cases q : j ≤ i <;> simp [q] <;> exact rfl
theorem rf_cc_gele {m n : R Int} {z : Int} (h : Rf (f σ) m D.int) (h2 : Rf (k σ) n D.int) (h3 : Rf (l σ) (.ok z) D.int) : Rf (eCC .ge .le f k l σ) (m.bind fun i => n.bind fun j => .ok (decide (j ≤ i) && decide (j ≤ z))) D.bl := h.bind fun i => h2.bind fun j => by
  rw [show cmpD .ge (.int i) (.int j) = .ok (decide (j ≤ i)) from rfl, R.bind_ok, show l σ = .ok (.int z) from h3]
  by_cases q : j ≤ i <;> simp [q] <;> exact rfl
theorem rf_cc_gegt {m n : R Int} {z : Int} (h : Rf (f σ) m D.int) (h2 : Rf (k σ) n D.int) (h3 : Rf (l σ) (.ok z) D.int) : Rf (eCC .ge .gt f k l σ) (m.bind fun i => n.bind fun j => .ok (decide (j ≤ i) && decide (z < j))) D.bl := h.bind fun i => h2.bind fun j => by
  rw [show cmpD .ge (.int i) (.int j) = .ok (decide (j ≤ i)) from rfl, R.bind_ok, show l σ = .ok (.int z) from h3]
  by_cases q : j ≤ i <;> simp [q] <;> exact rfl
theorem rf_cc_gege {m n : R Int} {z : Int} (h : Rf (f σ) m D.int) (h2 : Rf (k σ) n D.int) (h3 : Rf (l σ) (.ok z) D.int) : Rf (eCC .ge .ge f k l σ) (m.bind fun i => n.bind fun j => .ok (decide (j ≤ i) && decide (z ≤ j))) D.bl := h.bind fun i => h2.bind fun j => by
  rw [show cmpD .ge (.int i) (.int j) = .ok (decide (j ≤ i)) from rfl, R.bind_ok, show l σ = .ok (.int z) from h3]
  by_cases q : j ≤ i <;> simp [q] <;> exact rfl
theorem join_sD (s : St) : ∀ ys : List St, Str.join (sD s) (ys.map sD) = sD (jnS s ys)
  | [] => rfl
  | [x] => rfl
  | x :: y :: ys => by
    have e := join_sD s (y :: ys)
    show sD x ++ sD s ++ Str.join (sD s) ((y :: ys).map sD) = _
    rw [e, sD_app, sD_app]
    rfl
theorem glued_sD (s : St) (ys : List St) : Txt.join (sD s) (ys.map sD) = sD (jnS s ys) := (PySem.StrLaws.glued_eq_join _ _).trans (join_sD s ys)
theorem strsD_map : ∀ ys : List St, strsD (ys.map eSt) = some (ys.map sD)
  | [] => rfl
  | x :: ys => by rw [List.map_cons, List.map_cons]; show (strsD (ys.map eSt)).map _ = _; rw [strsD_map ys]; rfl
theorem rf_join {o : Bool} {m : R St} {n : R (List St)} (h : Rf (f σ) m eSt) (h2 : Rf (k σ) n (eLs o eSt)) : Rf (eMt .join f (aC k aN) σ) (m.bind fun s => n.bind fun t => joT s t) eSt := by
  simp only [u_eMt, u_aC, u_aN, R.bind_assoc, R.bind_ok, tupOf_tup]
  refine h.bind fun s => ?_
  rw [if_pos (show recvOk .join (eSt s) = true from rfl)]
  refine h2.bind fun t => ?_
  show Rf (match strsD (t.map eSt) with | some ys => if (ys.map (·.length)).sum + ys.length * (sD s).length ≤ 16777216 then R.ok (D.str (Txt.join (sD s) ys)) else .bad | none => .bad) (joT s t) eSt
  rw [strsD_map]
  unfold joT
  have e1 : ((t.map sD).map (·.length)) = t.map (·.length) := by rw [List.map_map]; exact List.map_congr_left fun x _ => sD_len x
  refine .guard (by rw [e1, List.length_map, sD_len]; exact id) (rf_ok ?_)
  rw [glued_sD]; rfl
def strT (i : Int) : R St := if i.natAbs.log2 < 1920 then .ok (toString i).toList else .bad
theorem bt_str (i : Int) : Rf (biD .str [.int i]) (strT i) eSt := .guard (c := i.natAbs.log2 < 1920) id (rf_ok (congrArg R.ok (k_str _)))
end
end DI
/-! TL, the variants for pure arguments (p) and others (m) -/
namespace DI
open PySem
section
variable {α β γ δ ε ζ η α' β' : Type} {σ : Sl} {f k l : Sl → R D} {e : α → D} {e' : β → D}
theorem rf_neg_p  {i : Int}  (h0 : Rf (f σ) (.ok i) D.int) : Rf (eNeg f σ) (.ok (-i)) D.int := rf_neg  h0
theorem rf_neg_m  {m0 : R (Int)}  (h0 : Rf (f σ) m0 D.int) : Rf (eNeg f σ) (m0.bind fun i => .ok (-i)) D.int := rf_neg  h0
theorem rf_not_p  {i : Bool}  (h0 : Rf (f σ) (.ok i) D.bl) : Rf (eNot f σ) (.ok (!i)) D.bl := rf_not  h0
theorem rf_not_m  {m0 : R (Bool)}  (h0 : Rf (f σ) m0 D.bl) : Rf (eNot f σ) (m0.bind fun i => .ok (!i)) D.bl := rf_not  h0
theorem rf_add_pp  {i : Int} {j : Int}  (h0 : Rf (f σ) (.ok i) D.int) (h1 : Rf (k σ) (.ok j) D.int) : Rf (eB .add f k σ) (.ok (i + j)) D.int := rf_add  h0 h1
theorem rf_add_pm  {i : Int} {m1 : R (Int)}  (h0 : Rf (f σ) (.ok i) D.int) (h1 : Rf (k σ) m1 D.int) : Rf (eB .add f k σ) (m1.bind fun j => .ok (i + j)) D.int := rf_add  h0 h1
theorem rf_add_mp  {m0 : R (Int)} {j : Int}  (h0 : Rf (f σ) m0 D.int) (h1 : Rf (k σ) (.ok j) D.int) : Rf (eB .add f k σ) (m0.bind fun i => .ok (i + j)) D.int := rf_add  h0 h1
theorem rf_add_mm  {m0 : R (Int)} {m1 : R (Int)}  (h0 : Rf (f σ) m0 D.int) (h1 : Rf (k σ) m1 D.int) : Rf (eB .add f k σ) (m0.bind fun i => m1.bind fun j => .ok (i + j)) D.int := rf_add  h0 h1
theorem rf_sub_pp  {i : Int} {j : Int}  (h0 : Rf (f σ) (.ok i) D.int) (h1 : Rf (k σ) (.ok j) D.int) : Rf (eB .sub f k σ) (.ok (i - j)) D.int := rf_sub  h0 h1
theorem rf_sub_pm  {i : Int} {m1 : R (Int)}  (h0 : Rf (f σ) (.ok i) D.int) (h1 : Rf (k σ) m1 D.int) : Rf (eB .sub f k σ) (m1.bind fun j => .ok (i - j)) D.int := rf_sub  h0 h1
theorem rf_sub_mp  {m0 : R (Int)} {j : Int}  (h0 : Rf (f σ) m0 D.int) (h1 : Rf (k σ) (.ok j) D.int) : Rf (eB .sub f k σ) (m0.bind fun i => .ok (i - j)) D.int := rf_sub  h0 h1
theorem rf_sub_mm  {m0 : R (Int)} {m1 : R (Int)}  (h0 : Rf (f σ) m0 D.int) (h1 : Rf (k σ) m1 D.int) : Rf (eB .sub f k σ) (m0.bind fun i => m1.bind fun j => .ok (i - j)) D.int := rf_sub  h0 h1
theorem rf_mul_pp  {i : Int} {j : Int}  (h0 : Rf (f σ) (.ok i) D.int) (h1 : Rf (k σ) (.ok j) D.int) : Rf (eB .mul f k σ) (mulT i j) D.int := rf_mul  h0 h1
theorem rf_mul_pm  {i : Int} {m1 : R (Int)}  (h0 : Rf (f σ) (.ok i) D.int) (h1 : Rf (k σ) m1 D.int) : Rf (eB .mul f k σ) (m1.bind fun j => mulT i j) D.int := rf_mul  h0 h1
theorem rf_mul_mp  {m0 : R (Int)} {j : Int}  (h0 : Rf (f σ) m0 D.int) (h1 : Rf (k σ) (.ok j) D.int) : Rf (eB .mul f k σ) (m0.bind fun i => mulT i j) D.int := rf_mul  h0 h1
theorem rf_mul_mm  {m0 : R (Int)} {m1 : R (Int)}  (h0 : Rf (f σ) m0 D.int) (h1 : Rf (k σ) m1 D.int) : Rf (eB .mul f k σ) (m0.bind fun i => m1.bind fun j => mulT i j) D.int := rf_mul  h0 h1
theorem rf_fdiv_pp  {i : Int} {j : Int}  (h0 : Rf (f σ) (.ok i) D.int) (h1 : Rf (k σ) (.ok j) D.int) : Rf (eB .fdiv f k σ) (fdivT i j) D.int := rf_fdiv  h0 h1
theorem rf_fdiv_pm  {i : Int} {m1 : R (Int)}  (h0 : Rf (f σ) (.ok i) D.int) (h1 : Rf (k σ) m1 D.int) : Rf (eB .fdiv f k σ) (m1.bind fun j => fdivT i j) D.int := rf_fdiv  h0 h1
theorem rf_fdiv_mp  {m0 : R (Int)} {j : Int}  (h0 : Rf (f σ) m0 D.int) (h1 : Rf (k σ) (.ok j) D.int) : Rf (eB .fdiv f k σ) (m0.bind fun i => fdivT i j) D.int := rf_fdiv  h0 h1
theorem rf_fdiv_mm  {m0 : R (Int)} {m1 : R (Int)}  (h0 : Rf (f σ) m0 D.int) (h1 : Rf (k σ) m1 D.int) : Rf (eB .fdiv f k σ) (m0.bind fun i => m1.bind fun j => fdivT i j) D.int := rf_fdiv  h0 h1
theorem rf_mod_pp  {i : Int} {j : Int}  (h0 : Rf (f σ) (.ok i) D.int) (h1 : Rf (k σ) (.ok j) D.int) : Rf (eB .mod f k σ) (modT i j) D.int := rf_mod  h0 h1
theorem rf_mod_pm  {i : Int} {m1 : R (Int)}  (h0 : Rf (f σ) (.ok i) D.int) (h1 : Rf (k σ) m1 D.int) : Rf (eB .mod f k σ) (m1.bind fun j => modT i j) D.int := rf_mod  h0 h1
theorem rf_mod_mp  {m0 : R (Int)} {j : Int}  (h0 : Rf (f σ) m0 D.int) (h1 : Rf (k σ) (.ok j) D.int) : Rf (eB .mod f k σ) (m0.bind fun i => modT i j) D.int := rf_mod  h0 h1
theorem rf_mod_mm  {m0 : R (Int)} {m1 : R (Int)}  (h0 : Rf (f σ) m0 D.int) (h1 : Rf (k σ) m1 D.int) : Rf (eB .mod f k σ) (m0.bind fun i => m1.bind fun j => modT i j) D.int := rf_mod  h0 h1
theorem rf_pow_pp  {i : Int} {j : Int}  (h0 : Rf (f σ) (.ok i) D.int) (h1 : Rf (k σ) (.ok j) D.int) : Rf (eB .pow f k σ) (powT i j) D.int := rf_pow  h0 h1
theorem rf_pow_pm  {i : Int} {m1 : R (Int)}  (h0 : Rf (f σ) (.ok i) D.int) (h1 : Rf (k σ) m1 D.int) : Rf (eB .pow f k σ) (m1.bind fun j => powT i j) D.int := rf_pow  h0 h1
theorem rf_pow_mp  {m0 : R (Int)} {j : Int}  (h0 : Rf (f σ) m0 D.int) (h1 : Rf (k σ) (.ok j) D.int) : Rf (eB .pow f k σ) (m0.bind fun i => powT i j) D.int := rf_pow  h0 h1
theorem rf_pow_mm  {m0 : R (Int)} {m1 : R (Int)}  (h0 : Rf (f σ) m0 D.int) (h1 : Rf (k σ) m1 D.int) : Rf (eB .pow f k σ) (m0.bind fun i => m1.bind fun j => powT i j) D.int := rf_pow  h0 h1
theorem rf_mulR_p {j : Int} {i : Int} (b : -18446744073709551616 < j ∧ j < 18446744073709551616) (h0 : Rf (f σ) (.ok i) D.int) : Rf (eB .mul f (eK (.int j)) σ) (.ok (i * j)) D.int := rf_mulR b h0
theorem rf_mulR_m {j : Int} {m0 : R (Int)} (b : -18446744073709551616 < j ∧ j < 18446744073709551616) (h0 : Rf (f σ) m0 D.int) : Rf (eB .mul f (eK (.int j)) σ) (m0.bind fun i => .ok (i * j)) D.int := rf_mulR b h0
theorem rf_mulL_p {j : Int} {i : Int} (b : -18446744073709551616 < j ∧ j < 18446744073709551616) (h0 : Rf (f σ) (.ok i) D.int) : Rf (eB .mul (eK (.int j)) f σ) (.ok (j * i)) D.int := rf_mulL b h0
theorem rf_mulL_m {j : Int} {m0 : R (Int)} (b : -18446744073709551616 < j ∧ j < 18446744073709551616) (h0 : Rf (f σ) m0 D.int) : Rf (eB .mul (eK (.int j)) f σ) (m0.bind fun i => .ok (j * i)) D.int := rf_mulL b h0
theorem rf_fdivK_p {j : Int} {i : Int} (b : 0 < j ∧ j < 18446744073709551616) (h0 : Rf (f σ) (.ok i) D.int) : Rf (eB .fdiv f (eK (.int j)) σ) (.ok (i / j)) D.int := rf_fdivK b h0
theorem rf_fdivK_m {j : Int} {m0 : R (Int)} (b : 0 < j ∧ j < 18446744073709551616) (h0 : Rf (f σ) m0 D.int) : Rf (eB .fdiv f (eK (.int j)) σ) (m0.bind fun i => .ok (i / j)) D.int := rf_fdivK b h0
theorem rf_modK_p {j : Int} {i : Int} (b : 0 < j) (h0 : Rf (f σ) (.ok i) D.int) : Rf (eB .mod f (eK (.int j)) σ) (.ok (i % j)) D.int := rf_modK b h0
theorem rf_modK_m {j : Int} {m0 : R (Int)} (b : 0 < j) (h0 : Rf (f σ) m0 D.int) : Rf (eB .mod f (eK (.int j)) σ) (m0.bind fun i => .ok (i % j)) D.int := rf_modK b h0
theorem rf_addS_pp  {i : St} {j : St}  (h0 : Rf (f σ) (.ok i) eSt) (h1 : Rf (k σ) (.ok j) eSt) : Rf (eB .add f k σ) (szT (i.length + j.length) (i ++ j)) eSt := rf_addS  h0 h1
theorem rf_addS_pm  {i : St} {m1 : R (St)}  (h0 : Rf (f σ) (.ok i) eSt) (h1 : Rf (k σ) m1 eSt) : Rf (eB .add f k σ) (m1.bind fun j => szT (i.length + j.length) (i ++ j)) eSt := rf_addS  h0 h1
theorem rf_addS_mp  {m0 : R (St)} {j : St}  (h0 : Rf (f σ) m0 eSt) (h1 : Rf (k σ) (.ok j) eSt) : Rf (eB .add f k σ) (m0.bind fun i => szT (i.length + j.length) (i ++ j)) eSt := rf_addS  h0 h1
theorem rf_addS_mm  {m0 : R (St)} {m1 : R (St)}  (h0 : Rf (f σ) m0 eSt) (h1 : Rf (k σ) m1 eSt) : Rf (eB .add f k σ) (m0.bind fun i => m1.bind fun j => szT (i.length + j.length) (i ++ j)) eSt := rf_addS  h0 h1
theorem rf_addL_pp  {i : List α} {j : List α} (c : Cl e) (h0 : Rf (f σ) (.ok i) (eLs true e)) (h1 : Rf (k σ) (.ok j) (eLs true e)) : Rf (eB .add f k σ) (szT (i.length + j.length) (i ++ j)) (eLs true e) := rf_addL c h0 h1
theorem rf_addL_pm  {i : List α} {m1 : R (List α)} (c : Cl e) (h0 : Rf (f σ) (.ok i) (eLs true e)) (h1 : Rf (k σ) m1 (eLs true e)) : Rf (eB .add f k σ) (m1.bind fun j => szT (i.length + j.length) (i ++ j)) (eLs true e) := rf_addL c h0 h1
theorem rf_addL_mp  {m0 : R (List α)} {j : List α} (c : Cl e) (h0 : Rf (f σ) m0 (eLs true e)) (h1 : Rf (k σ) (.ok j) (eLs true e)) : Rf (eB .add f k σ) (m0.bind fun i => szT (i.length + j.length) (i ++ j)) (eLs true e) := rf_addL c h0 h1
theorem rf_addL_mm  {m0 : R (List α)} {m1 : R (List α)} (c : Cl e) (h0 : Rf (f σ) m0 (eLs true e)) (h1 : Rf (k σ) m1 (eLs true e)) : Rf (eB .add f k σ) (m0.bind fun i => m1.bind fun j => szT (i.length + j.length) (i ++ j)) (eLs true e) := rf_addL c h0 h1
theorem rf_addQ_pp  {i : List α} {j : List α} (c : Cl e) (h0 : Rf (f σ) (.ok i) (eSq e)) (h1 : Rf (k σ) (.ok j) (eSq e)) : Rf (eB .add f k σ) (szT (i.length + j.length) (i ++ j)) (eSq e) := rf_addQ c h0 h1
theorem rf_addQ_pm  {i : List α} {m1 : R (List α)} (c : Cl e) (h0 : Rf (f σ) (.ok i) (eSq e)) (h1 : Rf (k σ) m1 (eSq e)) : Rf (eB .add f k σ) (m1.bind fun j => szT (i.length + j.length) (i ++ j)) (eSq e) := rf_addQ c h0 h1
theorem rf_addQ_mp  {m0 : R (List α)} {j : List α} (c : Cl e) (h0 : Rf (f σ) m0 (eSq e)) (h1 : Rf (k σ) (.ok j) (eSq e)) : Rf (eB .add f k σ) (m0.bind fun i => szT (i.length + j.length) (i ++ j)) (eSq e) := rf_addQ c h0 h1
theorem rf_addQ_mm  {m0 : R (List α)} {m1 : R (List α)} (c : Cl e) (h0 : Rf (f σ) m0 (eSq e)) (h1 : Rf (k σ) m1 (eSq e)) : Rf (eB .add f k σ) (m0.bind fun i => m1.bind fun j => szT (i.length + j.length) (i ++ j)) (eSq e) := rf_addQ c h0 h1
theorem rf_repL_pp  {i : List α} {j : Int} (c : Cl e) (h0 : Rf (f σ) (.ok i) (eLs true e)) (h1 : Rf (k σ) (.ok j) D.int) : Rf (eB .mul f k σ) (if small62 j = true ∧ i.length * j.toNat ≤ sizeLine then .ok (List.replicate j.toNat i).flatten else .bad) (eLs true e) := rf_repL c h0 h1
theorem rf_repL_pm  {i : List α} {m1 : R (Int)} (c : Cl e) (h0 : Rf (f σ) (.ok i) (eLs true e)) (h1 : Rf (k σ) m1 D.int) : Rf (eB .mul f k σ) (m1.bind fun j => if small62 j = true ∧ i.length * j.toNat ≤ sizeLine then .ok (List.replicate j.toNat i).flatten else .bad) (eLs true e) := rf_repL c h0 h1
theorem rf_repL_mp  {m0 : R (List α)} {j : Int} (c : Cl e) (h0 : Rf (f σ) m0 (eLs true e)) (h1 : Rf (k σ) (.ok j) D.int) : Rf (eB .mul f k σ) (m0.bind fun i => if small62 j = true ∧ i.length * j.toNat ≤ sizeLine then .ok (List.replicate j.toNat i).flatten else .bad) (eLs true e) := rf_repL c h0 h1
theorem rf_repL_mm  {m0 : R (List α)} {m1 : R (Int)} (c : Cl e) (h0 : Rf (f σ) m0 (eLs true e)) (h1 : Rf (k σ) m1 D.int) : Rf (eB .mul f k σ) (m0.bind fun i => m1.bind fun j => if small62 j = true ∧ i.length * j.toNat ≤ sizeLine then .ok (List.replicate j.toNat i).flatten else .bad) (eLs true e) := rf_repL c h0 h1
theorem rf_eq_pp [DecidableEq α] {e2 : α → D} {p : α → PyData} {u u' : Nat} {a : α} {b : α} (h : PyE e p u) (h' : PyE e2 p u') (q : PyQ p) (hn : u ≤ 64) (hn' : u' ≤ 64) (h0 : Rf (f σ) (.ok a) e) (h1 : Rf (k σ) (.ok b) e2) : Rf (eC .eq f k σ) (.ok (decide (a = b))) D.bl := rf_eq h h' q hn hn' h0 h1
theorem rf_eq_pm [DecidableEq α] {e2 : α → D} {p : α → PyData} {u u' : Nat} {a : α} {m1 : R (α)} (h : PyE e p u) (h' : PyE e2 p u') (q : PyQ p) (hn : u ≤ 64) (hn' : u' ≤ 64) (h0 : Rf (f σ) (.ok a) e) (h1 : Rf (k σ) m1 e2) : Rf (eC .eq f k σ) (m1.bind fun b => .ok (decide (a = b))) D.bl := rf_eq h h' q hn hn' h0 h1
theorem rf_eq_mp [DecidableEq α] {e2 : α → D} {p : α → PyData} {u u' : Nat} {m0 : R (α)} {b : α} (h : PyE e p u) (h' : PyE e2 p u') (q : PyQ p) (hn : u ≤ 64) (hn' : u' ≤ 64) (h0 : Rf (f σ) m0 e) (h1 : Rf (k σ) (.ok b) e2) : Rf (eC .eq f k σ) (m0.bind fun a => .ok (decide (a = b))) D.bl := rf_eq h h' q hn hn' h0 h1
theorem rf_eq_mm [DecidableEq α] {e2 : α → D} {p : α → PyData} {u u' : Nat} {m0 : R (α)} {m1 : R (α)} (h : PyE e p u) (h' : PyE e2 p u') (q : PyQ p) (hn : u ≤ 64) (hn' : u' ≤ 64) (h0 : Rf (f σ) m0 e) (h1 : Rf (k σ) m1 e2) : Rf (eC .eq f k σ) (m0.bind fun a => m1.bind fun b => .ok (decide (a = b))) D.bl := rf_eq h h' q hn hn' h0 h1
theorem rf_ne_pp [DecidableEq α] {e2 : α → D} {p : α → PyData} {u u' : Nat} {a : α} {b : α} (h : PyE e p u) (h' : PyE e2 p u') (q : PyQ p) (hn : u ≤ 64) (hn' : u' ≤ 64) (h0 : Rf (f σ) (.ok a) e) (h1 : Rf (k σ) (.ok b) e2) : Rf (eC .ne f k σ) (.ok (!decide (a = b))) D.bl := rf_ne h h' q hn hn' h0 h1
theorem rf_ne_pm [DecidableEq α] {e2 : α → D} {p : α → PyData} {u u' : Nat} {a : α} {m1 : R (α)} (h : PyE e p u) (h' : PyE e2 p u') (q : PyQ p) (hn : u ≤ 64) (hn' : u' ≤ 64) (h0 : Rf (f σ) (.ok a) e) (h1 : Rf (k σ) m1 e2) : Rf (eC .ne f k σ) (m1.bind fun b => .ok (!decide (a = b))) D.bl := rf_ne h h' q hn hn' h0 h1
theorem rf_ne_mp [DecidableEq α] {e2 : α → D} {p : α → PyData} {u u' : Nat} {m0 : R (α)} {b : α} (h : PyE e p u) (h' : PyE e2 p u') (q : PyQ p) (hn : u ≤ 64) (hn' : u' ≤ 64) (h0 : Rf (f σ) m0 e) (h1 : Rf (k σ) (.ok b) e2) : Rf (eC .ne f k σ) (m0.bind fun a => .ok (!decide (a = b))) D.bl := rf_ne h h' q hn hn' h0 h1
theorem rf_ne_mm [DecidableEq α] {e2 : α → D} {p : α → PyData} {u u' : Nat} {m0 : R (α)} {m1 : R (α)} (h : PyE e p u) (h' : PyE e2 p u') (q : PyQ p) (hn : u ≤ 64) (hn' : u' ≤ 64) (h0 : Rf (f σ) m0 e) (h1 : Rf (k σ) m1 e2) : Rf (eC .ne f k σ) (m0.bind fun a => m1.bind fun b => .ok (!decide (a = b))) D.bl := rf_ne h h' q hn hn' h0 h1
theorem rf_inL_pp [DecidableEq α] {e2 : α → D} {p : α → PyData} {u u' : Nat} {o : Bool} {a : α} {b : List α} (h : PyE e p u) (h' : PyE e2 p u') (q : PyQ p) (hn : u ≤ 63) (hn' : u' ≤ 63) (h0 : Rf (f σ) (.ok a) e) (h1 : Rf (k σ) (.ok b) (eLs o e2)) : Rf (eC .mem f k σ) (.ok (decide (a ∈ b))) D.bl := rf_inL h h' q hn hn' h0 h1
theorem rf_inL_pm [DecidableEq α] {e2 : α → D} {p : α → PyData} {u u' : Nat} {o : Bool} {a : α} {m1 : R (List α)} (h : PyE e p u) (h' : PyE e2 p u') (q : PyQ p) (hn : u ≤ 63) (hn' : u' ≤ 63) (h0 : Rf (f σ) (.ok a) e) (h1 : Rf (k σ) m1 (eLs o e2)) : Rf (eC .mem f k σ) (m1.bind fun b => .ok (decide (a ∈ b))) D.bl := rf_inL h h' q hn hn' h0 h1
theorem rf_inL_mp [DecidableEq α] {e2 : α → D} {p : α → PyData} {u u' : Nat} {o : Bool} {m0 : R (α)} {b : List α} (h : PyE e p u) (h' : PyE e2 p u') (q : PyQ p) (hn : u ≤ 63) (hn' : u' ≤ 63) (h0 : Rf (f σ) m0 e) (h1 : Rf (k σ) (.ok b) (eLs o e2)) : Rf (eC .mem f k σ) (m0.bind fun a => .ok (decide (a ∈ b))) D.bl := rf_inL h h' q hn hn' h0 h1
theorem rf_inL_mm [DecidableEq α] {e2 : α → D} {p : α → PyData} {u u' : Nat} {o : Bool} {m0 : R (α)} {m1 : R (List α)} (h : PyE e p u) (h' : PyE e2 p u') (q : PyQ p) (hn : u ≤ 63) (hn' : u' ≤ 63) (h0 : Rf (f σ) m0 e) (h1 : Rf (k σ) m1 (eLs o e2)) : Rf (eC .mem f k σ) (m0.bind fun a => m1.bind fun b => .ok (decide (a ∈ b))) D.bl := rf_inL h h' q hn hn' h0 h1
theorem rf_ninL_pp [DecidableEq α] {e2 : α → D} {p : α → PyData} {u u' : Nat} {o : Bool} {a : α} {b : List α} (h : PyE e p u) (h' : PyE e2 p u') (q : PyQ p) (hn : u ≤ 63) (hn' : u' ≤ 63) (h0 : Rf (f σ) (.ok a) e) (h1 : Rf (k σ) (.ok b) (eLs o e2)) : Rf (eC .nmem f k σ) (.ok (!decide (a ∈ b))) D.bl := rf_ninL h h' q hn hn' h0 h1
theorem rf_ninL_pm [DecidableEq α] {e2 : α → D} {p : α → PyData} {u u' : Nat} {o : Bool} {a : α} {m1 : R (List α)} (h : PyE e p u) (h' : PyE e2 p u') (q : PyQ p) (hn : u ≤ 63) (hn' : u' ≤ 63) (h0 : Rf (f σ) (.ok a) e) (h1 : Rf (k σ) m1 (eLs o e2)) : Rf (eC .nmem f k σ) (m1.bind fun b => .ok (!decide (a ∈ b))) D.bl := rf_ninL h h' q hn hn' h0 h1
theorem rf_ninL_mp [DecidableEq α] {e2 : α → D} {p : α → PyData} {u u' : Nat} {o : Bool} {m0 : R (α)} {b : List α} (h : PyE e p u) (h' : PyE e2 p u') (q : PyQ p) (hn : u ≤ 63) (hn' : u' ≤ 63) (h0 : Rf (f σ) m0 e) (h1 : Rf (k σ) (.ok b) (eLs o e2)) : Rf (eC .nmem f k σ) (m0.bind fun a => .ok (!decide (a ∈ b))) D.bl := rf_ninL h h' q hn hn' h0 h1
theorem rf_ninL_mm [DecidableEq α] {e2 : α → D} {p : α → PyData} {u u' : Nat} {o : Bool} {m0 : R (α)} {m1 : R (List α)} (h : PyE e p u) (h' : PyE e2 p u') (q : PyQ p) (hn : u ≤ 63) (hn' : u' ≤ 63) (h0 : Rf (f σ) m0 e) (h1 : Rf (k σ) m1 (eLs o e2)) : Rf (eC .nmem f k σ) (m0.bind fun a => m1.bind fun b => .ok (!decide (a ∈ b))) D.bl := rf_ninL h h' q hn hn' h0 h1
theorem rf_inQ_pp [DecidableEq α] {e2 : α → D} {p : α → PyData} {u u' : Nat} {a : α} {b : List α} (h : PyE e p u) (h' : PyE e2 p u') (q : PyQ p) (hn : u ≤ 63) (hn' : u' ≤ 63) (h0 : Rf (f σ) (.ok a) e) (h1 : Rf (k σ) (.ok b) (eSq e2)) : Rf (eC .mem f k σ) (.ok (decide (a ∈ b))) D.bl := rf_inQ h h' q hn hn' h0 h1
theorem rf_inQ_pm [DecidableEq α] {e2 : α → D} {p : α → PyData} {u u' : Nat} {a : α} {m1 : R (List α)} (h : PyE e p u) (h' : PyE e2 p u') (q : PyQ p) (hn : u ≤ 63) (hn' : u' ≤ 63) (h0 : Rf (f σ) (.ok a) e) (h1 : Rf (k σ) m1 (eSq e2)) : Rf (eC .mem f k σ) (m1.bind fun b => .ok (decide (a ∈ b))) D.bl := rf_inQ h h' q hn hn' h0 h1
theorem rf_inQ_mp [DecidableEq α] {e2 : α → D} {p : α → PyData} {u u' : Nat} {m0 : R (α)} {b : List α} (h : PyE e p u) (h' : PyE e2 p u') (q : PyQ p) (hn : u ≤ 63) (hn' : u' ≤ 63) (h0 : Rf (f σ) m0 e) (h1 : Rf (k σ) (.ok b) (eSq e2)) : Rf (eC .mem f k σ) (m0.bind fun a => .ok (decide (a ∈ b))) D.bl := rf_inQ h h' q hn hn' h0 h1
theorem rf_inQ_mm [DecidableEq α] {e2 : α → D} {p : α → PyData} {u u' : Nat} {m0 : R (α)} {m1 : R (List α)} (h : PyE e p u) (h' : PyE e2 p u') (q : PyQ p) (hn : u ≤ 63) (hn' : u' ≤ 63) (h0 : Rf (f σ) m0 e) (h1 : Rf (k σ) m1 (eSq e2)) : Rf (eC .mem f k σ) (m0.bind fun a => m1.bind fun b => .ok (decide (a ∈ b))) D.bl := rf_inQ h h' q hn hn' h0 h1
theorem rf_ninQ_pp [DecidableEq α] {e2 : α → D} {p : α → PyData} {u u' : Nat} {a : α} {b : List α} (h : PyE e p u) (h' : PyE e2 p u') (q : PyQ p) (hn : u ≤ 63) (hn' : u' ≤ 63) (h0 : Rf (f σ) (.ok a) e) (h1 : Rf (k σ) (.ok b) (eSq e2)) : Rf (eC .nmem f k σ) (.ok (!decide (a ∈ b))) D.bl := rf_ninQ h h' q hn hn' h0 h1
theorem rf_ninQ_pm [DecidableEq α] {e2 : α → D} {p : α → PyData} {u u' : Nat} {a : α} {m1 : R (List α)} (h : PyE e p u) (h' : PyE e2 p u') (q : PyQ p) (hn : u ≤ 63) (hn' : u' ≤ 63) (h0 : Rf (f σ) (.ok a) e) (h1 : Rf (k σ) m1 (eSq e2)) : Rf (eC .nmem f k σ) (m1.bind fun b => .ok (!decide (a ∈ b))) D.bl := rf_ninQ h h' q hn hn' h0 h1
theorem rf_ninQ_mp [DecidableEq α] {e2 : α → D} {p : α → PyData} {u u' : Nat} {m0 : R (α)} {b : List α} (h : PyE e p u) (h' : PyE e2 p u') (q : PyQ p) (hn : u ≤ 63) (hn' : u' ≤ 63) (h0 : Rf (f σ) m0 e) (h1 : Rf (k σ) (.ok b) (eSq e2)) : Rf (eC .nmem f k σ) (m0.bind fun a => .ok (!decide (a ∈ b))) D.bl := rf_ninQ h h' q hn hn' h0 h1
theorem rf_ninQ_mm [DecidableEq α] {e2 : α → D} {p : α → PyData} {u u' : Nat} {m0 : R (α)} {m1 : R (List α)} (h : PyE e p u) (h' : PyE e2 p u') (q : PyQ p) (hn : u ≤ 63) (hn' : u' ≤ 63) (h0 : Rf (f σ) m0 e) (h1 : Rf (k σ) m1 (eSq e2)) : Rf (eC .nmem f k σ) (m0.bind fun a => m1.bind fun b => .ok (!decide (a ∈ b))) D.bl := rf_ninQ h h' q hn hn' h0 h1
theorem rf_inD_pp {κ : α → NestedKey} {o : Bool} [DecidableEq α] {a : α} {b : List (α × β)} (h : KD e κ) (h0 : Rf (f σ) (.ok a) e) (h1 : Rf (k σ) (.ok b) (eDc o κ e')) : Rf (eC .mem f k σ) (.ok (hasT b a)) D.bl := rf_inD h h0 h1
theorem rf_inD_pm {κ : α → NestedKey} {o : Bool} [DecidableEq α] {a : α} {m1 : R (List (α × β))} (h : KD e κ) (h0 : Rf (f σ) (.ok a) e) (h1 : Rf (k σ) m1 (eDc o κ e')) : Rf (eC .mem f k σ) (m1.bind fun b => .ok (hasT b a)) D.bl := rf_inD h h0 h1
theorem rf_inD_mp {κ : α → NestedKey} {o : Bool} [DecidableEq α] {m0 : R (α)} {b : List (α × β)} (h : KD e κ) (h0 : Rf (f σ) m0 e) (h1 : Rf (k σ) (.ok b) (eDc o κ e')) : Rf (eC .mem f k σ) (m0.bind fun a => .ok (hasT b a)) D.bl := rf_inD h h0 h1
theorem rf_inD_mm {κ : α → NestedKey} {o : Bool} [DecidableEq α] {m0 : R (α)} {m1 : R (List (α × β))} (h : KD e κ) (h0 : Rf (f σ) m0 e) (h1 : Rf (k σ) m1 (eDc o κ e')) : Rf (eC .mem f k σ) (m0.bind fun a => m1.bind fun b => .ok (hasT b a)) D.bl := rf_inD h h0 h1
theorem rf_ninD_pp {κ : α → NestedKey} {o : Bool} [DecidableEq α] {a : α} {b : List (α × β)} (h : KD e κ) (h0 : Rf (f σ) (.ok a) e) (h1 : Rf (k σ) (.ok b) (eDc o κ e')) : Rf (eC .nmem f k σ) (.ok (!hasT b a)) D.bl := rf_ninD h h0 h1
theorem rf_ninD_pm {κ : α → NestedKey} {o : Bool} [DecidableEq α] {a : α} {m1 : R (List (α × β))} (h : KD e κ) (h0 : Rf (f σ) (.ok a) e) (h1 : Rf (k σ) m1 (eDc o κ e')) : Rf (eC .nmem f k σ) (m1.bind fun b => .ok (!hasT b a)) D.bl := rf_ninD h h0 h1
theorem rf_ninD_mp {κ : α → NestedKey} {o : Bool} [DecidableEq α] {m0 : R (α)} {b : List (α × β)} (h : KD e κ) (h0 : Rf (f σ) m0 e) (h1 : Rf (k σ) (.ok b) (eDc o κ e')) : Rf (eC .nmem f k σ) (m0.bind fun a => .ok (!hasT b a)) D.bl := rf_ninD h h0 h1
theorem rf_ninD_mm {κ : α → NestedKey} {o : Bool} [DecidableEq α] {m0 : R (α)} {m1 : R (List (α × β))} (h : KD e κ) (h0 : Rf (f σ) m0 e) (h1 : Rf (k σ) m1 (eDc o κ e')) : Rf (eC .nmem f k σ) (m0.bind fun a => m1.bind fun b => .ok (!hasT b a)) D.bl := rf_ninD h h0 h1
theorem rf_inC_pp  {a : Char} {b : St}  (h0 : Rf (f σ) (.ok a) eCh) (h1 : Rf (k σ) (.ok b) eSt) : Rf (eC .mem f k σ) (.ok (decide (a ∈ b))) D.bl := rf_inC  h0 h1
theorem rf_inC_pm  {a : Char} {m1 : R (St)}  (h0 : Rf (f σ) (.ok a) eCh) (h1 : Rf (k σ) m1 eSt) : Rf (eC .mem f k σ) (m1.bind fun b => .ok (decide (a ∈ b))) D.bl := rf_inC  h0 h1
theorem rf_inC_mp  {m0 : R (Char)} {b : St}  (h0 : Rf (f σ) m0 eCh) (h1 : Rf (k σ) (.ok b) eSt) : Rf (eC .mem f k σ) (m0.bind fun a => .ok (decide (a ∈ b))) D.bl := rf_inC  h0 h1
theorem rf_inC_mm  {m0 : R (Char)} {m1 : R (St)}  (h0 : Rf (f σ) m0 eCh) (h1 : Rf (k σ) m1 eSt) : Rf (eC .mem f k σ) (m0.bind fun a => m1.bind fun b => .ok (decide (a ∈ b))) D.bl := rf_inC  h0 h1
theorem rf_ninC_pp  {a : Char} {b : St}  (h0 : Rf (f σ) (.ok a) eCh) (h1 : Rf (k σ) (.ok b) eSt) : Rf (eC .nmem f k σ) (.ok (!decide (a ∈ b))) D.bl := rf_ninC  h0 h1
theorem rf_ninC_pm  {a : Char} {m1 : R (St)}  (h0 : Rf (f σ) (.ok a) eCh) (h1 : Rf (k σ) m1 eSt) : Rf (eC .nmem f k σ) (m1.bind fun b => .ok (!decide (a ∈ b))) D.bl := rf_ninC  h0 h1
theorem rf_ninC_mp  {m0 : R (Char)} {b : St}  (h0 : Rf (f σ) m0 eCh) (h1 : Rf (k σ) (.ok b) eSt) : Rf (eC .nmem f k σ) (m0.bind fun a => .ok (!decide (a ∈ b))) D.bl := rf_ninC  h0 h1
theorem rf_ninC_mm  {m0 : R (Char)} {m1 : R (St)}  (h0 : Rf (f σ) m0 eCh) (h1 : Rf (k σ) m1 eSt) : Rf (eC .nmem f k σ) (m0.bind fun a => m1.bind fun b => .ok (!decide (a ∈ b))) D.bl := rf_ninC  h0 h1
theorem rf_isN_p {b : α → Bool} {a : α} (hb : ∀ a, isNon (e a) = b a) (h0 : Rf (f σ) (.ok a) e) : Rf (eC .isN f (eK .non) σ) (.ok (b a)) D.bl := rf_isN b hb h0
theorem rf_isN_m {b : α → Bool} {m0 : R (α)} (hb : ∀ a, isNon (e a) = b a) (h0 : Rf (f σ) m0 e) : Rf (eC .isN f (eK .non) σ) (m0.bind fun a => .ok (b a)) D.bl := rf_isN b hb h0
theorem rf_ntN_p {b : α → Bool} {a : α} (hb : ∀ a, isNon (e a) = b a) (h0 : Rf (f σ) (.ok a) e) : Rf (eC .notN f (eK .non) σ) (.ok (!b a)) D.bl := rf_ntN b hb h0
theorem rf_ntN_m {b : α → Bool} {m0 : R (α)} (hb : ∀ a, isNon (e a) = b a) (h0 : Rf (f σ) m0 e) : Rf (eC .notN f (eK .non) σ) (m0.bind fun a => .ok (!b a)) D.bl := rf_ntN b hb h0
theorem rf_isi_p {b : α → Bool} {t : Ty} {a : α} (hb : ∀ a, isTy t (e a) = .ok (b a)) (h0 : Rf (f σ) (.ok a) e) : Rf (eIsi t f σ) (.ok (b a)) D.bl := rf_isi b hb h0
theorem rf_isi_m {b : α → Bool} {t : Ty} {m0 : R (α)} (hb : ∀ a, isTy t (e a) = .ok (b a)) (h0 : Rf (f σ) m0 e) : Rf (eIsi t f σ) (m0.bind fun a => .ok (b a)) D.bl := rf_isi b hb h0
theorem rf_isiD_p {t : Ty} {a : D}  (h0 : Rf (f σ) (.ok a) eDy) : Rf (eIsi t f σ) (isTy t a) D.bl := rf_isiD  h0
theorem rf_isiD_m {t : Ty} {m0 : R (D)}  (h0 : Rf (f σ) m0 eDy) : Rf (eIsi t f σ) (m0.bind fun a => isTy t a) D.bl := rf_isiD  h0
theorem rf_lt_pp  {i : Int} {j : Int}  (h0 : Rf (f σ) (.ok i) D.int) (h1 : Rf (k σ) (.ok j) D.int) : Rf (eC .lt f k σ) (.ok (decide (i < j))) D.bl := rf_lt  h0 h1
theorem rf_lt_pm  {i : Int} {m1 : R (Int)}  (h0 : Rf (f σ) (.ok i) D.int) (h1 : Rf (k σ) m1 D.int) : Rf (eC .lt f k σ) (m1.bind fun j => .ok (decide (i < j))) D.bl := rf_lt  h0 h1
theorem rf_lt_mp  {m0 : R (Int)} {j : Int}  (h0 : Rf (f σ) m0 D.int) (h1 : Rf (k σ) (.ok j) D.int) : Rf (eC .lt f k σ) (m0.bind fun i => .ok (decide (i < j))) D.bl := rf_lt  h0 h1
theorem rf_lt_mm  {m0 : R (Int)} {m1 : R (Int)}  (h0 : Rf (f σ) m0 D.int) (h1 : Rf (k σ) m1 D.int) : Rf (eC .lt f k σ) (m0.bind fun i => m1.bind fun j => .ok (decide (i < j))) D.bl := rf_lt  h0 h1
theorem rf_le_pp  {i : Int} {j : Int}  (h0 : Rf (f σ) (.ok i) D.int) (h1 : Rf (k σ) (.ok j) D.int) : Rf (eC .le f k σ) (.ok (decide (i ≤ j))) D.bl := rf_le  h0 h1
theorem rf_le_pm  {i : Int} {m1 : R (Int)}  (h0 : Rf (f σ) (.ok i) D.int) (h1 : Rf (k σ) m1 D.int) : Rf (eC .le f k σ) (m1.bind fun j => .ok (decide (i ≤ j))) D.bl := rf_le  h0 h1
theorem rf_le_mp  {m0 : R (Int)} {j : Int}  (h0 : Rf (f σ) m0 D.int) (h1 : Rf (k σ) (.ok j) D.int) : Rf (eC .le f k σ) (m0.bind fun i => .ok (decide (i ≤ j))) D.bl := rf_le  h0 h1
theorem rf_le_mm  {m0 : R (Int)} {m1 : R (Int)}  (h0 : Rf (f σ) m0 D.int) (h1 : Rf (k σ) m1 D.int) : Rf (eC .le f k σ) (m0.bind fun i => m1.bind fun j => .ok (decide (i ≤ j))) D.bl := rf_le  h0 h1
theorem rf_gt_pp  {i : Int} {j : Int}  (h0 : Rf (f σ) (.ok i) D.int) (h1 : Rf (k σ) (.ok j) D.int) : Rf (eC .gt f k σ) (.ok (decide (j < i))) D.bl := rf_gt  h0 h1
theorem rf_gt_pm  {i : Int} {m1 : R (Int)}  (h0 : Rf (f σ) (.ok i) D.int) (h1 : Rf (k σ) m1 D.int) : Rf (eC .gt f k σ) (m1.bind fun j => .ok (decide (j < i))) D.bl := rf_gt  h0 h1
theorem rf_gt_mp  {m0 : R (Int)} {j : Int}  (h0 : Rf (f σ) m0 D.int) (h1 : Rf (k σ) (.ok j) D.int) : Rf (eC .gt f k σ) (m0.bind fun i => .ok (decide (j < i))) D.bl := rf_gt  h0 h1
theorem rf_gt_mm  {m0 : R (Int)} {m1 : R (Int)}  (h0 : Rf (f σ) m0 D.int) (h1 : Rf (k σ) m1 D.int) : Rf (eC .gt f k σ) (m0.bind fun i => m1.bind fun j => .ok (decide (j < i))) D.bl := rf_gt  h0 h1
theorem rf_ge_pp  {i : Int} {j : Int}  (h0 : Rf (f σ) (.ok i) D.int) (h1 : Rf (k σ) (.ok j) D.int) : Rf (eC .ge f k σ) (.ok (decide (j ≤ i))) D.bl := rf_ge  h0 h1
theorem rf_ge_pm  {i : Int} {m1 : R (Int)}  (h0 : Rf (f σ) (.ok i) D.int) (h1 : Rf (k σ) m1 D.int) : Rf (eC .ge f k σ) (m1.bind fun j => .ok (decide (j ≤ i))) D.bl := rf_ge  h0 h1
theorem rf_ge_mp  {m0 : R (Int)} {j : Int}  (h0 : Rf (f σ) m0 D.int) (h1 : Rf (k σ) (.ok j) D.int) : Rf (eC .ge f k σ) (m0.bind fun i => .ok (decide (j ≤ i))) D.bl := rf_ge  h0 h1
theorem rf_ge_mm  {m0 : R (Int)} {m1 : R (Int)}  (h0 : Rf (f σ) m0 D.int) (h1 : Rf (k σ) m1 D.int) : Rf (eC .ge f k σ) (m0.bind fun i => m1.bind fun j => .ok (decide (j ≤ i))) D.bl := rf_ge  h0 h1
theorem rf_cc_ltlt_pp {i : Int} {j : Int} {z : Int} (h : Rf (f σ) (.ok i) D.int) (h2 : Rf (k σ) (.ok j) D.int) (h3 : Rf (l σ) (.ok z) D.int) : Rf (eCC .lt .lt f k l σ) (.ok (decide (i < j) && decide (j < z))) D.bl := rf_cc_ltlt h h2 h3
theorem rf_cc_ltlt_pm {i : Int} {mj : R Int} {z : Int} (h : Rf (f σ) (.ok i) D.int) (h2 : Rf (k σ) mj D.int) (h3 : Rf (l σ) (.ok z) D.int) : Rf (eCC .lt .lt f k l σ) (mj.bind fun j => .ok (decide (i < j) && decide (j < z))) D.bl := rf_cc_ltlt h h2 h3
theorem rf_cc_ltlt_mp {mi : R Int} {j : Int} {z : Int} (h : Rf (f σ) mi D.int) (h2 : Rf (k σ) (.ok j) D.int) (h3 : Rf (l σ) (.ok z) D.int) : Rf (eCC .lt .lt f k l σ) (mi.bind fun i => .ok (decide (i < j) && decide (j < z))) D.bl := rf_cc_ltlt h h2 h3
theorem rf_cc_ltlt_mm {mi : R Int} {mj : R Int} {z : Int} (h : Rf (f σ) mi D.int) (h2 : Rf (k σ) mj D.int) (h3 : Rf (l σ) (.ok z) D.int) : Rf (eCC .lt .lt f k l σ) (mi.bind fun i => mj.bind fun j => .ok (decide (i < j) && decide (j < z))) D.bl := rf_cc_ltlt h h2 h3
theorem rf_cc_ltle_pp {i : Int} {j : Int} {z : Int} (h : Rf (f σ) (.ok i) D.int) (h2 : Rf (k σ) (.ok j) D.int) (h3 : Rf (l σ) (.ok z) D.int) : Rf (eCC .lt .le f k l σ) (.ok (decide (i < j) && decide (j ≤ z))) D.bl := rf_cc_ltle h h2 h3
theorem rf_cc_ltle_pm {i : Int} {mj : R Int} {z : Int} (h : Rf (f σ) (.ok i) D.int) (h2 : Rf (k σ) mj D.int) (h3 : Rf (l σ) (.ok z) D.int) : Rf (eCC .lt .le f k l σ) (mj.bind fun j => .ok (decide (i < j) && decide (j ≤ z))) D.bl := rf_cc_ltle h h2 h3
theorem rf_cc_ltle_mp {mi : R Int} {j : Int} {z : Int} (h : Rf (f σ) mi D.int) (h2 : Rf (k σ) (.ok j) D.int) (h3 : Rf (l σ) (.ok z) D.int) : Rf (eCC .lt .le f k l σ) (mi.bind fun i => .ok (decide (i < j) && decide (j ≤ z))) D.bl := rf_cc_ltle h h2 h3
theorem rf_cc_ltle_mm {mi : R Int} {mj : R Int} {z : Int} (h : Rf (f σ) mi D.int) (h2 : Rf (k σ) mj D.int) (h3 : Rf (l σ) (.ok z) D.int) : Rf (eCC .lt .le f k l σ) (mi.bind fun i => mj.bind fun j => .ok (decide (i < j) && decide (j ≤ z))) D.bl := rf_cc_ltle h h2 h3
theorem rf_cc_ltgt_pp {i : Int} {j : Int} {z : Int} (h : Rf (f σ) (.ok i) D.int) (h2 : Rf (k σ) (.ok j) D.int) (h3 : Rf (l σ) (.ok z) D.int) : Rf (eCC .lt .gt f k l σ) (.ok (decide (i < j) && decide (z < j))) D.bl := rf_cc_ltgt h h2 h3
theorem rf_cc_ltgt_pm {i : Int} {mj : R Int} {z : Int} (h : Rf (f σ) (.ok i) D.int) (h2 : Rf (k σ) mj D.int) (h3 : Rf (l σ) (.ok z) D.int) : Rf (eCC .lt .gt f k l σ) (mj.bind fun j => .ok (decide (i < j) && decide (z < j))) D.bl := rf_cc_ltgt h h2 h3
theorem rf_cc_ltgt_mp {mi : R Int} {j : Int} {z : Int} (h : Rf (f σ) mi D.int) (h2 : Rf (k σ) (.ok j) D.int) (h3 : Rf (l σ) (.ok z) D.int) : Rf (eCC .lt .gt f k l σ) (mi.bind fun i => .ok (decide (i < j) && decide (z < j))) D.bl := rf_cc_ltgt h h2 h3
theorem rf_cc_ltgt_mm {mi : R Int} {mj : R Int} {z : Int} (h : Rf (f σ) mi D.int) (h2 : Rf (k σ) mj D.int) (h3 : Rf (l σ) (.ok z) D.int) : Rf (eCC .lt .gt f k l σ) (mi.bind fun i => mj.bind fun j => .ok (decide (i < j) && decide (z < j))) D.bl := rf_cc_ltgt h h2 h3
theorem rf_cc_ltge_pp {i : Int} {j : Int} {z : Int} (h : Rf (f σ) (.ok i) D.int) (h2 : Rf (k σ) (.ok j) D.int) (h3 : Rf (l σ) (.ok z) D.int) : Rf (eCC .lt .ge f k l σ) (.ok (decide (i < j) && decide (z ≤ j))) D.bl := rf_cc_ltge h h2 h3
theorem rf_cc_ltge_pm {i : Int} {mj : R Int} {z : Int} (h : Rf (f σ) (.ok i) D.int) (h2 : Rf (k σ) mj D.int) (h3 : Rf (l σ) (.ok z) D.int) : Rf (eCC .lt .ge f k l σ) (mj.bind fun j => .ok (decide (i < j) && decide (z ≤ j))) D.bl := rf_cc_ltge h h2 h3
theorem rf_cc_ltge_mp {mi : R Int} {j : Int} {z : Int} (h : Rf (f σ) mi D.int) (h2 : Rf (k σ) (.ok j) D.int) (h3 : Rf (l σ) (.ok z) D.int) : Rf (eCC .lt .ge f k l σ) (mi.bind fun i => .ok (decide (i < j) && decide (z ≤ j))) D.bl := rf_cc_ltge h h2 h3
theorem rf_cc_ltge_mm {mi : R Int} {mj : R Int} {z : Int} (h : Rf (f σ) mi D.int) (h2 : Rf (k σ) mj D.int) (h3 : Rf (l σ) (.ok z) D.int) : Rf (eCC .lt .ge f k l σ) (mi.bind fun i => mj.bind fun j => .ok (decide (i < j) && decide (z ≤ j))) D.bl := rf_cc_ltge h h2 h3
theorem rf_cc_lelt_pp {i : Int} {j : Int} {z : Int} (h : Rf (f σ) (.ok i) D.int) (h2 : Rf (k σ) (.ok j) D.int) (h3 : Rf (l σ) (.ok z) D.int) : Rf (eCC .le .lt f k l σ) (.ok (decide (i ≤ j) && decide (j < z))) D.bl := rf_cc_lelt h h2 h3
theorem rf_cc_lelt_pm {i : Int} {mj : R Int} {z : Int} (h : Rf (f σ) (.ok i) D.int) (h2 : Rf (k σ) mj D.int) (h3 : Rf (l σ) (.ok z) D.int) : Rf (eCC .le .lt f k l σ) (mj.bind fun j => .ok (decide (i ≤ j) && decide (j < z))) D.bl := rf_cc_lelt h h2 h3
theorem rf_cc_lelt_mp {mi : R Int} {j : Int} {z : Int} (h : Rf (f σ) mi D.int) (h2 : Rf (k σ) (.ok j) D.int) (h3 : Rf (l σ) (.ok z) D.int) : Rf (eCC .le .lt f k l σ) (mi.bind fun i => .ok (decide (i ≤ j) && decide (j < z))) D.bl := rf_cc_lelt h h2 h3
theorem rf_cc_lelt_mm {mi : R Int} {mj : R Int} {z : Int} (h : Rf (f σ) mi D.int) (h2 : Rf (k σ) mj D.int) (h3 : Rf (l σ) (.ok z) D.int) : Rf (eCC .le .lt f k l σ) (mi.bind fun i => mj.bind fun j => .ok (decide (i ≤ j) && decide (j < z))) D.bl := rf_cc_lelt h h2 h3
theorem rf_cc_lele_pp {i : Int} {j : Int} {z : Int} (h : Rf (f σ) (.ok i) D.int) (h2 : Rf (k σ) (.ok j) D.int) (h3 : Rf (l σ) (.ok z) D.int) : Rf (eCC .le .le f k l σ) (.ok (decide (i ≤ j) && decide (j ≤ z))) D.bl := rf_cc_lele h h2 h3
theorem rf_cc_lele_pm {i : Int} {mj : R Int} {z : Int} (h : Rf (f σ) (.ok i) D.int) (h2 : Rf (k σ) mj D.int) (h3 : Rf (l σ) (.ok z) D.int) : Rf (eCC .le .le f k l σ) (mj.bind fun j => .ok (decide (i ≤ j) && decide (j ≤ z))) D.bl := rf_cc_lele h h2 h3
theorem rf_cc_lele_mp {mi : R Int} {j : Int} {z : Int} (h : Rf (f σ) mi D.int) (h2 : Rf (k σ) (.ok j) D.int) (h3 : Rf (l σ) (.ok z) D.int) : Rf (eCC .le .le f k l σ) (mi.bind fun i => .ok (decide (i ≤ j) && decide (j ≤ z))) D.bl := rf_cc_lele h h2 h3
theorem rf_cc_lele_mm {mi : R Int} {mj : R Int} {z : Int} (h : Rf (f σ) mi D.int) (h2 : Rf (k σ) mj D.int) (h3 : Rf (l σ) (.ok z) D.int) : Rf (eCC .le .le f k l σ) (mi.bind fun i => mj.bind fun j => .ok (decide (i ≤ j) && decide (j ≤ z))) D.bl := rf_cc_lele h h2 h3
theorem rf_cc_legt_pp {i : Int} {j : Int} {z : Int} (h : Rf (f σ) (.ok i) D.int) (h2 : Rf (k σ) (.ok j) D.int) (h3 : Rf (l σ) (.ok z) D.int) : Rf (eCC .le .gt f k l σ) (.ok (decide (i ≤ j) && decide (z < j))) D.bl := rf_cc_legt h h2 h3
theorem rf_cc_legt_pm {i : Int} {mj : R Int} {z : Int} (h : Rf (f σ) (.ok i) D.int) (h2 : Rf (k σ) mj D.int) (h3 : Rf (l σ) (.ok z) D.int) : Rf (eCC .le .gt f k l σ) (mj.bind fun j => .ok (decide (i ≤ j) && decide (z < j))) D.bl := rf_cc_legt h h2 h3
theorem rf_cc_legt_mp {mi : R Int} {j : Int} {z : Int} (h : Rf (f σ) mi D.int) (h2 : Rf (k σ) (.ok j) D.int) (h3 : Rf (l σ) (.ok z) D.int) : Rf (eCC .le .gt f k l σ) (mi.bind fun i => .ok (decide (i ≤ j) && decide (z < j))) D.bl := rf_cc_legt h h2 h3
theorem rf_cc_legt_mm {mi : R Int} {mj : R Int} {z : Int} (h : Rf (f σ) mi D.int) (h2 : Rf (k σ) mj D.int) (h3 : Rf (l σ) (.ok z) D.int) : Rf (eCC .le .gt f k l σ) (mi.bind fun i => mj.bind fun j => .ok (decide (i ≤ j) && decide (z < j))) D.bl := rf_cc_legt h h2 h3
theorem rf_cc_lege_pp {i : Int} {j : Int} {z : Int} (h : Rf (f σ) (.ok i) D.int) (h2 : Rf (k σ) (.ok j) D.int) (h3 : Rf (l σ) (.ok z) D.int) : Rf (eCC .le .ge f k l σ) (.ok (decide (i ≤ j) && decide (z ≤ j))) D.bl := rf_cc_lege h h2 h3
theorem rf_cc_lege_pm {i : Int} {mj : R Int} {z : Int} (h : Rf (f σ) (.ok i) D.int) (h2 : Rf (k σ) mj D.int) (h3 : Rf (l σ) (.ok z) D.int) : Rf (eCC .le .ge f k l σ) (mj.bind fun j => .ok (decide (i ≤ j) && decide (z ≤ j))) D.bl := rf_cc_lege h h2 h3
theorem rf_cc_lege_mp {mi : R Int} {j : Int} {z : Int} (h : Rf (f σ) mi D.int) (h2 : Rf (k σ) (.ok j) D.int) (h3 : Rf (l σ) (.ok z) D.int) : Rf (eCC .le .ge f k l σ) (mi.bind fun i => .ok (decide (i ≤ j) && decide (z ≤ j))) D.bl := rf_cc_lege h h2 h3
theorem rf_cc_lege_mm {mi : R Int} {mj : R Int} {z : Int} (h : Rf (f σ) mi D.int) (h2 : Rf (k σ) mj D.int) (h3 : Rf (l σ) (.ok z) D.int) : Rf (eCC .le .ge f k l σ) (mi.bind fun i => mj.bind fun j => .ok (decide (i ≤ j) && decide (z ≤ j))) D.bl := rf_cc_lege h h2 h3
theorem rf_cc_gtlt_pp {i : Int} {j : Int} {z : Int} (h : Rf (f σ) (.ok i) D.int) (h2 : Rf (k σ) (.ok j) D.int) (h3 : Rf (l σ) (.ok z) D.int) : Rf (eCC .gt .lt f k l σ) (.ok (decide (j < i) && decide (j < z))) D.bl := rf_cc_gtlt h h2 h3
theorem rf_cc_gtlt_pm {i : Int} {mj : R Int} {z : Int} (h : Rf (f σ) (.ok i) D.int) (h2 : Rf (k σ) mj D.int) (h3 : Rf (l σ) (.ok z) D.int) : Rf (eCC .gt .lt f k l σ) (mj.bind fun j => .ok (decide (j < i) && decide (j < z))) D.bl := rf_cc_gtlt h h2 h3
theorem rf_cc_gtlt_mp {mi : R Int} {j : Int} {z : Int} (h : Rf (f σ) mi D.int) (h2 : Rf (k σ) (.ok j) D.int) (h3 : Rf (l σ) (.ok z) D.int) : Rf (eCC .gt .lt f k l σ) (mi.bind fun i => .ok (decide (j < i) && decide (j < z))) D.bl := rf_cc_gtlt h h2 h3
theorem rf_cc_gtlt_mm {mi : R Int} {mj : R Int} {z : Int} (h : Rf (f σ) mi D.int) (h2 : Rf (k σ) mj D.int) (h3 : Rf (l σ) (.ok z) D.int) : Rf (eCC .gt .lt f k l σ) (mi.bind fun i => mj.bind fun j => .ok (decide (j < i) && decide (j < z))) D.bl := rf_cc_gtlt h h2 h3
theorem rf_cc_gtle_pp {i : Int} {j : Int} {z : Int} (h : Rf (f σ) (.ok i) D.int) (h2 : Rf (k σ) (.ok j) D.int) (h3 : Rf (l σ) (.ok z) D.int) : Rf (eCC .gt .le f k l σ) (.ok (decide (j < i) && decide (j ≤ z))) D.bl := rf_cc_gtle h h2 h3
theorem rf_cc_gtle_pm {i : Int} {mj : R Int} {z : Int} (h : Rf (f σ) (.ok i) D.int) (h2 : Rf (k σ) mj D.int) (h3 : Rf (l σ) (.ok z) D.int) : Rf (eCC .gt .le f k l σ) (mj.bind fun j => .ok (decide (j < i) && decide (j ≤ z))) D.bl := rf_cc_gtle h h2 h3
theorem rf_cc_gtle_mp {mi : R Int} {j : Int} {z : Int} (h : Rf (f σ) mi D.int) (h2 : Rf (k σ) (.ok j) D.int) (h3 : Rf (l σ) (.ok z) D.int) : Rf (eCC .gt .le f k l σ) (mi.bind fun i => .ok (decide (j < i) && decide (j ≤ z))) D.bl := rf_cc_gtle h h2 h3
theorem rf_cc_gtle_mm {mi : R Int} {mj : R Int} {z : Int} (h : Rf (f σ) mi D.int) (h2 : Rf (k σ) mj D.int) (h3 : Rf (l σ) (.ok z) D.int) : Rf (eCC .gt .le f k l σ) (mi.bind fun i => mj.bind fun j => .ok (decide (j < i) && decide (j ≤ z))) D.bl := rf_cc_gtle h h2 h3
theorem rf_cc_gtgt_pp {i : Int} {j : Int} {z : Int} (h : Rf (f σ) (.ok i) D.int) (h2 : Rf (k σ) (.ok j) D.int) (h3 : Rf (l σ) (.ok z) D.int) : Rf (eCC .gt .gt f k l σ) (.ok (decide (j < i) && decide (z < j))) D.bl := rf_cc_gtgt h h2 h3
theorem rf_cc_gtgt_pm {i : Int} {mj : R Int} {z : Int} (h : Rf (f σ) (.ok i) D.int) (h2 : Rf (k σ) mj D.int) (h3 : Rf (l σ) (.ok z) D.int) : Rf (eCC .gt .gt f k l σ) (mj.bind fun j => .ok (decide (j < i) && decide (z < j))) D.bl := rf_cc_gtgt h h2 h3
theorem rf_cc_gtgt_mp {mi : R Int} {j : Int} {z : Int} (h : Rf (f σ) mi D.int) (h2 : Rf (k σ) (.ok j) D.int) (h3 : Rf (l σ) (.ok z) D.int) : Rf (eCC .gt .gt f k l σ) (mi.bind fun i => .ok (decide (j < i) && decide (z < j))) D.bl := rf_cc_gtgt h h2 h3
theorem rf_cc_gtgt_mm {mi : R Int} {mj : R Int} {z : Int} (h : Rf (f σ) mi D.int) (h2 : Rf (k σ) mj D.int) (h3 : Rf (l σ) (.ok z) D.int) : Rf (eCC .gt .gt f k l σ) (mi.bind fun i => mj.bind fun j => .ok (decide (j < i) && decide (z < j))) D.bl := rf_cc_gtgt h h2 h3
theorem rf_cc_gtge_pp {i : Int} {j : Int} {z : Int} (h : Rf (f σ) (.ok i) D.int) (h2 : Rf (k σ) (.ok j) D.int) (h3 : Rf (l σ) (.ok z) D.int) : Rf (eCC .gt .ge f k l σ) (.ok (decide (j < i) && decide (z ≤ j))) D.bl := rf_cc_gtge h h2 h3
theorem rf_cc_gtge_pm {i : Int} {mj : R Int} {z : Int} (h : Rf (f σ) (.ok i) D.int) (h2 : Rf (k σ) mj D.int) (h3 : Rf (l σ) (.ok z) D.int) : Rf (eCC .gt .ge f k l σ) (mj.bind fun j => .ok (decide (j < i) && decide (z ≤ j))) D.bl := rf_cc_gtge h h2 h3
theorem rf_cc_gtge_mp {mi : R Int} {j : Int} {z : Int} (h : Rf (f σ) mi D.int) (h2 : Rf (k σ) (.ok j) D.int) (h3 : Rf (l σ) (.ok z) D.int) : Rf (eCC .gt .ge f k l σ) (mi.bind fun i => .ok (decide (j < i) && decide (z ≤ j))) D.bl := rf_cc_gtge h h2 h3
theorem rf_cc_gtge_mm {mi : R Int} {mj : R Int} {z : Int} (h : Rf (f σ) mi D.int) (h2 : Rf (k σ) mj D.int) (h3 : Rf (l σ) (.ok z) D.int) : Rf (eCC .gt .ge f k l σ) (mi.bind fun i => mj.bind fun j => .ok (decide (j < i) && decide (z ≤ j))) D.bl := rf_cc_gtge h h2 h3
theorem rf_cc_gelt_pp {i : Int} {j : Int} {z : Int} (h : Rf (f σ) (.ok i) D.int) (h2 : Rf (k σ) (.ok j) D.int) (h3 : Rf (l σ) (.ok z) D.int) : Rf (eCC .ge .lt f k l σ) (.ok (decide (j ≤ i) && decide (j < z))) D.bl := rf_cc_gelt h h2 h3
theorem rf_cc_gelt_pm {i : Int} {mj : R Int} {z : Int} (h : Rf (f σ) (.ok i) D.int) (h2 : Rf (k σ) mj D.int) (h3 : Rf (l σ) (.ok z) D.int) : Rf (eCC .ge .lt f k l σ) (mj.bind fun j => .ok (decide (j ≤ i) && decide (j < z))) D.bl := rf_cc_gelt h h2 h3
theorem rf_cc_gelt_mp {mi : R Int} {j : Int} {z : Int} (h : Rf (f σ) mi D.int) (h2 : Rf (k σ) (.ok j) D.int) (h3 : Rf (l σ) (.ok z) D.int) : Rf (eCC .ge .lt f k l σ) (mi.bind fun i => .ok (decide (j ≤ i) && decide (j < z))) D.bl := rf_cc_gelt h h2 h3
theorem rf_cc_gelt_mm {mi : R Int} {mj : R Int} {z : Int} (h : Rf (f σ) mi D.int) (h2 : Rf (k σ) mj D.int) (h3 : Rf (l σ) (.ok z) D.int) : Rf (eCC .ge .lt f k l σ) (mi.bind fun i => mj.bind fun j => .ok (decide (j ≤ i) && decide (j < z))) D.bl := rf_cc_gelt h h2 h3
theorem rf_cc_gele_pp {i : Int} {j : Int} {z : Int} (h : Rf (f σ) (.ok i) D.int) (h2 : Rf (k σ) (.ok j) D.int) (h3 : Rf (l σ) (.ok z) D.int) : Rf (eCC .ge .le f k l σ) (.ok (decide (j ≤ i) && decide (j ≤ z))) D.bl := rf_cc_gele h h2 h3
theorem rf_cc_gele_pm {i : Int} {mj : R Int} {z : Int} (h : Rf (f σ) (.ok i) D.int) (h2 : Rf (k σ) mj D.int) (h3 : Rf (l σ) (.ok z) D.int) : Rf (eCC .ge .le f k l σ) (mj.bind fun j => .ok (decide (j ≤ i) && decide (j ≤ z))) D.bl := rf_cc_gele h h2 h3
theorem rf_cc_gele_mp {mi : R Int} {j : Int} {z : Int} (h : Rf (f σ) mi D.int) (h2 : Rf (k σ) (.ok j) D.int) (h3 : Rf (l σ) (.ok z) D.int) : Rf (eCC .ge .le f k l σ) (mi.bind fun i => .ok (decide (j ≤ i) && decide (j ≤ z))) D.bl := rf_cc_gele h h2 h3
theorem rf_cc_gele_mm {mi : R Int} {mj : R Int} {z : Int} (h : Rf (f σ) mi D.int) (h2 : Rf (k σ) mj D.int) (h3 : Rf (l σ) (.ok z) D.int) : Rf (eCC .ge .le f k l σ) (mi.bind fun i => mj.bind fun j => .ok (decide (j ≤ i) && decide (j ≤ z))) D.bl := rf_cc_gele h h2 h3
theorem rf_cc_gegt_pp {i : Int} {j : Int} {z : Int} (h : Rf (f σ) (.ok i) D.int) (h2 : Rf (k σ) (.ok j) D.int) (h3 : Rf (l σ) (.ok z) D.int) : Rf (eCC .ge .gt f k l σ) (.ok (decide (j ≤ i) && decide (z < j))) D.bl := rf_cc_gegt h h2 h3
theorem rf_cc_gegt_pm {i : Int} {mj : R Int} {z : Int} (h : Rf (f σ) (.ok i) D.int) (h2 : Rf (k σ) mj D.int) (h3 : Rf (l σ) (.ok z) D.int) : Rf (eCC .ge .gt f k l σ) (mj.bind fun j => .ok (decide (j ≤ i) && decide (z < j))) D.bl := rf_cc_gegt h h2 h3
theorem rf_cc_gegt_mp {mi : R Int} {j : Int} {z : Int} (h : Rf (f σ) mi D.int) (h2 : Rf (k σ) (.ok j) D.int) (h3 : Rf (l σ) (.ok z) D.int) : Rf (eCC .ge .gt f k l σ) (mi.bind fun i => .ok (decide (j ≤ i) && decide (z < j))) D.bl := rf_cc_gegt h h2 h3
theorem rf_cc_gegt_mm {mi : R Int} {mj : R Int} {z : Int} (h : Rf (f σ) mi D.int) (h2 : Rf (k σ) mj D.int) (h3 : Rf (l σ) (.ok z) D.int) : Rf (eCC .ge .gt f k l σ) (mi.bind fun i => mj.bind fun j => .ok (decide (j ≤ i) && decide (z < j))) D.bl := rf_cc_gegt h h2 h3
theorem rf_cc_gege_pp {i : Int} {j : Int} {z : Int} (h : Rf (f σ) (.ok i) D.int) (h2 : Rf (k σ) (.ok j) D.int) (h3 : Rf (l σ) (.ok z) D.int) : Rf (eCC .ge .ge f k l σ) (.ok (decide (j ≤ i) && decide (z ≤ j))) D.bl := rf_cc_gege h h2 h3
theorem rf_cc_gege_pm {i : Int} {mj : R Int} {z : Int} (h : Rf (f σ) (.ok i) D.int) (h2 : Rf (k σ) mj D.int) (h3 : Rf (l σ) (.ok z) D.int) : Rf (eCC .ge .ge f k l σ) (mj.bind fun j => .ok (decide (j ≤ i) && decide (z ≤ j))) D.bl := rf_cc_gege h h2 h3
theorem rf_cc_gege_mp {mi : R Int} {j : Int} {z : Int} (h : Rf (f σ) mi D.int) (h2 : Rf (k σ) (.ok j) D.int) (h3 : Rf (l σ) (.ok z) D.int) : Rf (eCC .ge .ge f k l σ) (mi.bind fun i => .ok (decide (j ≤ i) && decide (z ≤ j))) D.bl := rf_cc_gege h h2 h3
theorem rf_cc_gege_mm {mi : R Int} {mj : R Int} {z : Int} (h : Rf (f σ) mi D.int) (h2 : Rf (k σ) mj D.int) (h3 : Rf (l σ) (.ok z) D.int) : Rf (eCC .ge .ge f k l σ) (mi.bind fun i => mj.bind fun j => .ok (decide (j ≤ i) && decide (z ≤ j))) D.bl := rf_cc_gege h h2 h3
theorem rf_ccm_ltlt_pp {i : Int} {j : Int} {mz : R Int} (h : Rf (f σ) (.ok i) D.int) (h2 : Rf (k σ) (.ok j) D.int) (h3 : Rf (l σ) mz D.int) : Rf (eCC .lt .lt f k l σ) (if decide (i < j) = true then mz.bind fun z => .ok (decide (j < z)) else .ok false) D.bl :=
  Rf.bind (M := fun i => R.bind (.ok j) fun j => if decide (i < j) = true then mz.bind fun z => .ok (decide (j < z)) else .ok false) h fun i => Rf.bind h2 fun j => by
    rw [show cmpD .lt (.int i) (.int j) = .ok (decide (i < j)) from rfl, R.bind_ok]
    cases decide (i < j)
    · exact rfl
    · exact h3.bind fun z => rfl
theorem rf_ccm_ltlt_pm {i : Int} {mj : R Int} {mz : R Int} (h : Rf (f σ) (.ok i) D.int) (h2 : Rf (k σ) mj D.int) (h3 : Rf (l σ) mz D.int) : Rf (eCC .lt .lt f k l σ) (mj.bind fun j => if decide (i < j) = true then mz.bind fun z => .ok (decide (j < z)) else .ok false) D.bl :=
  Rf.bind (M := fun i => R.bind mj fun j => if decide (i < j) = true then mz.bind fun z => .ok (decide (j < z)) else .ok false) h fun i => Rf.bind h2 fun j => by
    rw [show cmpD .lt (.int i) (.int j) = .ok (decide (i < j)) from rfl, R.bind_ok]
    cases decide (i < j)
    · exact rfl
    · exact h3.bind fun z => rfl
theorem rf_ccm_ltlt_mp {mi : R Int} {j : Int} {mz : R Int} (h : Rf (f σ) mi D.int) (h2 : Rf (k σ) (.ok j) D.int) (h3 : Rf (l σ) mz D.int) : Rf (eCC .lt .lt f k l σ) (mi.bind fun i => if decide (i < j) = true then mz.bind fun z => .ok (decide (j < z)) else .ok false) D.bl :=
  Rf.bind (M := fun i => R.bind (.ok j) fun j => if decide (i < j) = true then mz.bind fun z => .ok (decide (j < z)) else .ok false) h fun i => Rf.bind h2 fun j => by
    rw [show cmpD .lt (.int i) (.int j) = .ok (decide (i < j)) from rfl, R.bind_ok]
    cases decide (i < j)
    · exact rfl
    · exact h3.bind fun z => rfl
theorem rf_ccm_ltlt_mm {mi : R Int} {mj : R Int} {mz : R Int} (h : Rf (f σ) mi D.int) (h2 : Rf (k σ) mj D.int) (h3 : Rf (l σ) mz D.int) : Rf (eCC .lt .lt f k l σ) (mi.bind fun i => mj.bind fun j => if decide (i < j) = true then mz.bind fun z => .ok (decide (j < z)) else .ok false) D.bl :=
  Rf.bind (M := fun i => R.bind mj fun j => if decide (i < j) = true then mz.bind fun z => .ok (decide (j < z)) else .ok false) h fun i => Rf.bind h2 fun j => by
    rw [show cmpD .lt (.int i) (.int j) = .ok (decide (i < j)) from rfl, R.bind_ok]
    cases decide (i < j)
    · exact rfl
    · exact h3.bind fun z => rfl
theorem rf_ccm_ltle_pp {i : Int} {j : Int} {mz : R Int} (h : Rf (f σ) (.ok i) D.int) (h2 : Rf (k σ) (.ok j) D.int) (h3 : Rf (l σ) mz D.int) : Rf (eCC .lt .le f k l σ) (if decide (i < j) = true then mz.bind fun z => .ok (decide (j ≤ z)) else .ok false) D.bl :=
  Rf.bind (M := fun i => R.bind (.ok j) fun j => if decide (i < j) = true then mz.bind fun z => .ok (decide (j ≤ z)) else .ok false) h fun i => Rf.bind h2 fun j => by
    rw [show cmpD .lt (.int i) (.int j) = .ok (decide (i < j)) from rfl, R.bind_ok]
    cases decide (i < j)
    · exact rfl
    · exact h3.bind fun z => rfl
theorem rf_ccm_ltle_pm {i : Int} {mj : R Int} {mz : R Int} (h : Rf (f σ) (.ok i) D.int) (h2 : Rf (k σ) mj D.int) (h3 : Rf (l σ) mz D.int) : Rf (eCC .lt .le f k l σ) (mj.bind fun j => if decide (i < j) = true then mz.bind fun z => .ok (decide (j ≤ z)) else .ok false) D.bl :=
  Rf.bind (M := fun i => R.bind mj fun j => if decide (i < j) = true then mz.bind fun z => .ok (decide (j ≤ z)) else .ok false) h fun i => Rf.bind h2 fun j => by
    rw [show cmpD .lt (.int i) (.int j) = .ok (decide (i < j)) from rfl, R.bind_ok]
    cases decide (i < j)
    · exact rfl
    · exact h3.bind fun z => rfl
theorem rf_ccm_ltle_mp {mi : R Int} {j : Int} {mz : R Int} (h : Rf (f σ) mi D.int) (h2 : Rf (k σ) (.ok j) D.int) (h3 : Rf (l σ) mz D.int) : Rf (eCC .lt .le f k l σ) (mi.bind fun i => if decide (i < j) = true then mz.bind fun z => .ok (decide (j ≤ z)) else .ok false) D.bl :=
  Rf.bind (M := fun i => R.bind (.ok j) fun j => if decide (i < j) = true then mz.bind fun z => .ok (decide (j ≤ z)) else .ok false) h fun i => Rf.bind h2 fun j => by
    rw [show cmpD .lt (.int i) (.int j) = .ok (decide (i < j)) from rfl, R.bind_ok]
    cases decide (i < j)
    · exact rfl
    · exact h3.bind fun z => rfl
theorem rf_ccm_ltle_mm {mi : R Int} {mj : R Int} {mz : R Int} (h : Rf (f σ) mi D.int) (h2 : Rf (k σ) mj D.int) (h3 : Rf (l σ) mz D.int) : Rf (eCC .lt .le f k l σ) (mi.bind fun i => mj.bind fun j => if decide (i < j) = true then mz.bind fun z => .ok (decide (j ≤ z)) else .ok false) D.bl :=
  Rf.bind (M := fun i => R.bind mj fun j => if decide (i < j) = true then mz.bind fun z => .ok (decide (j ≤ z)) else .ok false) h fun i => Rf.bind h2 fun j => by
    rw [show cmpD .lt (.int i) (.int j) = .ok (decide (i < j)) from rfl, R.bind_ok]
    cases decide (i < j)
    · exact rfl
    · exact h3.bind fun z => rfl
theorem rf_ccm_ltgt_pp {i : Int} {j : Int} {mz : R Int} (h : Rf (f σ) (.ok i) D.int) (h2 : Rf (k σ) (.ok j) D.int) (h3 : Rf (l σ) mz D.int) : Rf (eCC .lt .gt f k l σ) (if decide (i < j) = true then mz.bind fun z => .ok (decide (z < j)) else .ok false) D.bl :=
  Rf.bind (M := fun i => R.bind (.ok j) fun j => if decide (i < j) = true then mz.bind fun z => .ok (decide (z < j)) else .ok false) h fun i => Rf.bind h2 fun j => by
    rw [show cmpD .lt (.int i) (.int j) = .ok (decide (i < j)) from rfl, R.bind_ok]
    cases decide (i < j)
    · exact rfl
    · exact h3.bind fun z => rfl
theorem rf_ccm_ltgt_pm {i : Int} {mj : R Int} {mz : R Int} (h : Rf (f σ) (.ok i) D.int) (h2 : Rf (k σ) mj D.int) (h3 : Rf (l σ) mz D.int) : Rf (eCC .lt .gt f k l σ) (mj.bind fun j => if decide (i < j) = true then mz.bind fun z => .ok (decide (z < j)) else .ok false) D.bl :=
  Rf.bind (M := fun i => R.bind mj fun j => if decide (i < j) = true then mz.bind fun z => .ok (decide (z < j)) else .ok false) h fun i => Rf.bind h2 fun j => by
    rw [show cmpD .lt (.int i) (.int j) = .ok (decide (i < j)) from rfl, R.bind_ok]
    cases decide (i < j)
    · exact rfl
    · exact h3.bind fun z => rfl
theorem rf_ccm_ltgt_mp {mi : R Int} {j : Int} {mz : R Int} (h : Rf (f σ) mi D.int) (h2 : Rf (k σ) (.ok j) D.int) (h3 : Rf (l σ) mz D.int) : Rf (eCC .lt .gt f k l σ) (mi.bind fun i => if decide (i < j) = true then mz.bind fun z => .ok (decide (z < j)) else .ok false) D.bl :=
  Rf.bind (M := fun i => R.bind (.ok j) fun j => if decide (i < j) = true then mz.bind fun z => .ok (decide (z < j)) else .ok false) h fun i => Rf.bind h2 fun j => by
    rw [show cmpD .lt (.int i) (.int j) = .ok (decide (i < j)) from rfl, R.bind_ok]
    cases decide (i < j)
    · exact rfl
    · exact h3.bind fun z => rfl
theorem rf_ccm_ltgt_mm {mi : R Int} {mj : R Int} {mz : R Int} (h : Rf (f σ) mi D.int) (h2 : Rf (k σ) mj D.int) (h3 : Rf (l σ) mz D.int) : Rf (eCC .lt .gt f k l σ) (mi.bind fun i => mj.bind fun j => if decide (i < j) = true then mz.bind fun z => .ok (decide (z < j)) else .ok false) D.bl :=
  Rf.bind (M := fun i => R.bind mj fun j => if decide (i < j) = true then mz.bind fun z => .ok (decide (z < j)) else .ok false) h fun i => Rf.bind h2 fun j => by
    rw [show cmpD .lt (.int i) (.int j) = .ok (decide (i < j)) from rfl, R.bind_ok]
    cases decide (i < j)
    · exact rfl
    · exact h3.bind fun z => rfl
theorem rf_ccm_ltge_pp {i : Int} {j : Int} {mz : R Int} (h : Rf (f σ) (.ok i) D.int) (h2 : Rf (k σ) (.ok j) D.int) (h3 : Rf (l σ) mz D.int) : Rf (eCC .lt .ge f k l σ) (if decide (i < j) = true then mz.bind fun z => .ok (decide (z ≤ j)) else .ok false) D.bl :=
  Rf.bind (M := fun i => R.bind (.ok j) fun j => if decide (i < j) = true then mz.bind fun z => .ok (decide (z ≤ j)) else .ok false) h fun i => Rf.bind h2 fun j => by
    rw [show cmpD .lt (.int i) (.int j) = .ok (decide (i < j)) from rfl, R.bind_ok]
    cases decide (i < j)
    · exact rfl
    · exact h3.bind fun z => rfl
theorem rf_ccm_ltge_pm {i : Int} {mj : R Int} {mz : R Int} (h : Rf (f σ) (.ok i) D.int) (h2 : Rf (k σ) mj D.int) (h3 : Rf (l σ) mz D.int) : Rf (eCC .lt .ge f k l σ) (mj.bind fun j => if decide (i < j) = true then mz.bind fun z => .ok (decide (z ≤ j)) else .ok false) D.bl :=
  Rf.bind (M := fun i => R.bind mj fun j => if decide (i < j) = true then mz.bind fun z => .ok (decide (z ≤ j)) else .ok false) h fun i => Rf.bind h2 fun j => by
    rw [show cmpD .lt (.int i) (.int j) = .ok (decide (i < j)) from rfl, R.bind_ok]
    cases decide (i < j)
    · exact rfl
    · exact h3.bind fun z => rfl
theorem rf_ccm_ltge_mp {mi : R Int} {j : Int} {mz : R Int} (h : Rf (f σ) mi D.int) (h2 : Rf (k σ) (.ok j) D.int) (h3 : Rf (l σ) mz D.int) : Rf (eCC .lt .ge f k l σ) (mi.bind fun i => if decide (i < j) = true then mz.bind fun z => .ok (decide (z ≤ j)) else .ok false) D.bl :=
  Rf.bind (M := fun i => R.bind (.ok j) fun j => if decide (i < j) = true then mz.bind fun z => .ok (decide (z ≤ j)) else .ok false) h fun i => Rf.bind h2 fun j => by
    rw [show cmpD .lt (.int i) (.int j) = .ok (decide (i < j)) from rfl, R.bind_ok]
    cases decide (i < j)
    · exact rfl
    · exact h3.bind fun z => rfl
theorem rf_ccm_ltge_mm {mi : R Int} {mj : R Int} {mz : R Int} (h : Rf (f σ) mi D.int) (h2 : Rf (k σ) mj D.int) (h3 : Rf (l σ) mz D.int) : Rf (eCC .lt .ge f k l σ) (mi.bind fun i => mj.bind fun j => if decide (i < j) = true then mz.bind fun z => .ok (decide (z ≤ j)) else .ok false) D.bl :=
  Rf.bind (M := fun i => R.bind mj fun j => if decide (i < j) = true then mz.bind fun z => .ok (decide (z ≤ j)) else .ok false) h fun i => Rf.bind h2 fun j => by
    rw [show cmpD .lt (.int i) (.int j) = .ok (decide (i < j)) from rfl, R.bind_ok]
    cases decide (i < j)
    · exact rfl
    · exact h3.bind fun z => rfl
theorem rf_ccm_lelt_pp {i : Int} {j : Int} {mz : R Int} (h : Rf (f σ) (.ok i) D.int) (h2 : Rf (k σ) (.ok j) D.int) (h3 : Rf (l σ) mz D.int) : Rf (eCC .le .lt f k l σ) (if decide (i ≤ j) = true then mz.bind fun z => .ok (decide (j < z)) else .ok false) D.bl :=
  Rf.bind (M := fun i => R.bind (.ok j) fun j => if decide (i ≤ j) = true then mz.bind fun z => .ok (decide (j < z)) else .ok false) h fun i => Rf.bind h2 fun j => by
    rw [show cmpD .le (.int i) (.int j) = .ok (decide (i ≤ j)) from rfl, R.bind_ok]
    cases decide (i ≤ j)
    · exact rfl
    · exact h3.bind fun z => rfl
theorem rf_ccm_lelt_pm {i : Int} {mj : R Int} {mz : R Int} (h : Rf (f σ) (.ok i) D.int) (h2 : Rf (k σ) mj D.int) (h3 : Rf (l σ) mz D.int) : Rf (eCC .le .lt f k l σ) (mj.bind fun j => if decide (i ≤ j) = true then mz.bind fun z => .ok (decide (j < z)) else .ok false) D.bl :=
  Rf.bind (M := fun i => R.bind mj fun j => if decide (i ≤ j) = true then mz.bind fun z => .ok (decide (j < z)) else .ok false) h fun i => Rf.bind h2 fun j => by
    rw [show cmpD .le (.int i) (.int j) = .ok (decide (i ≤ j)) from rfl, R.bind_ok]
    cases decide (i ≤ j)
    · exact rfl
    · exact h3.bind fun z => rfl
theorem rf_ccm_lelt_mp {mi : R Int} {j : Int} {mz : R Int} (h : Rf (f σ) mi D.int) (h2 : Rf (k σ) (.ok j) D.int) (h3 : Rf (l σ) mz D.int) : Rf (eCC .le .lt f k l σ) (mi.bind fun i => if decide (i ≤ j) = true then mz.bind fun z => .ok (decide (j < z)) else .ok false) D.bl :=
  Rf.bind (M := fun i => R.bind (.ok j) fun j => if decide (i ≤ j) = true then mz.bind fun z => .ok (decide (j < z)) else .ok false) h fun i => Rf.bind h2 fun j => by
    rw [show cmpD .le (.int i) (.int j) = .ok (decide (i ≤ j)) from rfl, R.bind_ok]
    cases decide (i ≤ j)
    · exact rfl
    · exact h3.bind fun z => rfl
theorem rf_ccm_lelt_mm {mi : R Int} {mj : R Int} {mz : R Int} (h : Rf (f σ) mi D.int) (h2 : Rf (k σ) mj D.int) (h3 : Rf (l σ) mz D.int) : Rf (eCC .le .lt f k l σ) (mi.bind fun i => mj.bind fun j => if decide (i ≤ j) = true then mz.bind fun z => .ok (decide (j < z)) else .ok false) D.bl :=
  Rf.bind (M := fun i => R.bind mj fun j => if decide (i ≤ j) = true then mz.bind fun z => .ok (decide (j < z)) else .ok false) h fun i => Rf.bind h2 fun j => by
    rw [show cmpD .le (.int i) (.int j) = .ok (decide (i ≤ j)) from rfl, R.bind_ok]
    cases decide (i ≤ j)
    · exact rfl
    · exact h3.bind fun z => rfl
theorem rf_ccm_lele_pp {i : Int} {j : Int} {mz : R Int} (h : Rf (f σ) (.ok i) D.int) (h2 : Rf (k σ) (.ok j) D.int) (h3 : Rf (l σ) mz D.int) : Rf (eCC .le .le f k l σ) (if decide (i ≤ j) = true then mz.bind fun z => .ok (decide (j ≤ z)) else .ok false) D.bl :=
  Rf.bind (M := fun i => R.bind (.ok j) fun j => if decide (i ≤ j) = true then mz.bind fun z => .ok (decide (j ≤ z)) else .ok false) h fun i => Rf.bind h2 fun j => by
    rw [show cmpD .le (.int i) (.int j) = .ok (decide (i ≤ j)) from rfl, R.bind_ok]
    cases decide (i ≤ j)
    · exact rfl
    · exact h3.bind fun z => rfl
theorem rf_ccm_lele_pm {i : Int} {mj : R Int} {mz : R Int} (h : Rf (f σ) (.ok i) D.int) (h2 : Rf (k σ) mj D.int) (h3 : Rf (l σ) mz D.int) : Rf (eCC .le .le f k l σ) (mj.bind fun j => if decide (i ≤ j) = true then mz.bind fun z => .ok (decide (j ≤ z)) else .ok false) D.bl :=
  Rf.bind (M := fun i => R.bind mj fun j => if decide (i ≤ j) = true then mz.bind fun z => .ok (decide (j ≤ z)) else .ok false) h fun i => Rf.bind h2 fun j => by
    rw [show cmpD .le (.int i) (.int j) = .ok (decide (i ≤ j)) from rfl, R.bind_ok]
    cases decide (i ≤ j)
    · exact rfl
    · exact h3.bind fun z => rfl
theorem rf_ccm_lele_mp {mi : R Int} {j : Int} {mz : R Int} (h : Rf (f σ) mi D.int) (h2 : Rf (k σ) (.ok j) D.int) (h3 : Rf (l σ) mz D.int) : Rf (eCC .le .le f k l σ) (mi.bind fun i => if decide (i ≤ j) = true then mz.bind fun z => .ok (decide (j ≤ z)) else .ok false) D.bl :=
  Rf.bind (M := fun i => R.bind (.ok j) fun j => if decide (i ≤ j) = true then mz.bind fun z => .ok (decide (j ≤ z)) else .ok false) h fun i => Rf.bind h2 fun j => by
    rw [show cmpD .le (.int i) (.int j) = .ok (decide (i ≤ j)) from rfl, R.bind_ok]
    cases decide (i ≤ j)
    · exact rfl
    · exact h3.bind fun z => rfl
theorem rf_ccm_lele_mm {mi : R Int} {mj : R Int} {mz : R Int} (h : Rf (f σ) mi D.int) (h2 : Rf (k σ) mj D.int) (h3 : Rf (l σ) mz D.int) : Rf (eCC .le .le f k l σ) (mi.bind fun i => mj.bind fun j => if decide (i ≤ j) = true then mz.bind fun z => .ok (decide (j ≤ z)) else .ok false) D.bl :=
  Rf.bind (M := fun i => R.bind mj fun j => if decide (i ≤ j) = true then mz.bind fun z => .ok (decide (j ≤ z)) else .ok false) h fun i => Rf.bind h2 fun j => by
    rw [show cmpD .le (.int i) (.int j) = .ok (decide (i ≤ j)) from rfl, R.bind_ok]
    cases decide (i ≤ j)
    · exact rfl
    · exact h3.bind fun z => rfl
theorem rf_ccm_legt_pp {i : Int} {j : Int} {mz : R Int} (h : Rf (f σ) (.ok i) D.int) (h2 : Rf (k σ) (.ok j) D.int) (h3 : Rf (l σ) mz D.int) : Rf (eCC .le .gt f k l σ) (if decide (i ≤ j) = true then mz.bind fun z => .ok (decide (z < j)) else .ok false) D.bl :=
  Rf.bind (M := fun i => R.bind (.ok j) fun j => if decide (i ≤ j) = true then mz.bind fun z => .ok (decide (z < j)) else .ok false) h fun i => Rf.bind h2 fun j => by
    rw [show cmpD .le (.int i) (.int j) = .ok (decide (i ≤ j)) from rfl, R.bind_ok]
    cases decide (i ≤ j)
    · exact rfl
    · exact h3.bind fun z => rfl
theorem rf_ccm_legt_pm {i : Int} {mj : R Int} {mz : R Int} (h : Rf (f σ) (.ok i) D.int) (h2 : Rf (k σ) mj D.int) (h3 : Rf (l σ) mz D.int) : Rf (eCC .le .gt f k l σ) (mj.bind fun j => if decide (i ≤ j) = true then mz.bind fun z => .ok (decide (z < j)) else .ok false) D.bl :=
  Rf.bind (M := fun i => R.bind mj fun j => if decide (i ≤ j) = true then mz.bind fun z => .ok (decide (z < j)) else .ok false) h fun i => Rf.bind h2 fun j => by
    rw [show cmpD .le (.int i) (.int j) = .ok (decide (i ≤ j)) from rfl, R.bind_ok]
    cases decide (i ≤ j)
    · exact rfl
    · exact h3.bind fun z => rfl
theorem rf_ccm_legt_mp {mi : R Int} {j : Int} {mz : R Int} (h : Rf (f σ) mi D.int) (h2 : Rf (k σ) (.ok j) D.int) (h3 : Rf (l σ) mz D.int) : Rf (eCC .le .gt f k l σ) (mi.bind fun i => if decide (i ≤ j) = true then mz.bind fun z => .ok (decide (z < j)) else .ok false) D.bl :=
  Rf.bind (M := fun i => R.bind (.ok j) fun j => if decide (i ≤ j) = true then mz.bind fun z => .ok (decide (z < j)) else .ok false) h fun i => Rf.bind h2 fun j => by
    rw [show cmpD .le (.int i) (.int j) = .ok (decide (i ≤ j)) from rfl, R.bind_ok]
    cases decide (i ≤ j)
    · exact rfl
    · exact h3.bind fun z => rfl
theorem rf_ccm_legt_mm {mi : R Int} {mj : R Int} {mz : R Int} (h : Rf (f σ) mi D.int) (h2 : Rf (k σ) mj D.int) (h3 : Rf (l σ) mz D.int) : Rf (eCC .le .gt f k l σ) (mi.bind fun i => mj.bind fun j => if decide (i ≤ j) = true then mz.bind fun z => .ok (decide (z < j)) else .ok false) D.bl :=
  Rf.bind (M := fun i => R.bind mj fun j => if decide (i ≤ j) = true then mz.bind fun z => .ok (decide (z < j)) else .ok false) h fun i => Rf.bind h2 fun j => by
    rw [show cmpD .le (.int i) (.int j) = .ok (decide (i ≤ j)) from rfl, R.bind_ok]
    cases decide (i ≤ j)
    · exact rfl
    · exact h3.bind fun z => rfl
theorem rf_ccm_lege_pp {i : Int} {j : Int} {mz : R Int} (h : Rf (f σ) (.ok i) D.int) (h2 : Rf (k σ) (.ok j) D.int) (h3 : Rf (l σ) mz D.int) : Rf (eCC .le .ge f k l σ) (if decide (i ≤ j) = true then mz.bind fun z => .ok (decide (z ≤ j)) else .ok false) D.bl :=
  Rf.bind (M := fun i => R.bind (.ok j) fun j => if decide (i ≤ j) = true then mz.bind fun z => .ok (decide (z ≤ j)) else .ok false) h fun i => Rf.bind h2 fun j => by
    rw [show cmpD .le (.int i) (.int j) = .ok (decide (i ≤ j)) from rfl, R.bind_ok]
    cases decide (i ≤ j)
    · exact rfl
    · exact h3.bind fun z => rfl
theorem rf_ccm_lege_pm {i : Int} {mj : R Int} {mz : R Int} (h : Rf (f σ) (.ok i) D.int) (h2 : Rf (k σ) mj D.int) (h3 : Rf (l σ) mz D.int) : Rf (eCC .le .ge f k l σ) (mj.bind fun j => if decide (i ≤ j) = true then mz.bind fun z => .ok (decide (z ≤ j)) else .ok false) D.bl :=
  Rf.bind (M := fun i => R.bind mj fun j => if decide (i ≤ j) = true then mz.bind fun z => .ok (decide (z ≤ j)) else .ok false) h fun i => Rf.bind h2 fun j => by
    rw [show cmpD .le (.int i) (.int j) = .ok (decide (i ≤ j)) from rfl, R.bind_ok]
    cases decide (i ≤ j)
    · exact rfl
    · exact h3.bind fun z => rfl
theorem rf_ccm_lege_mp {mi : R Int} {j : Int} {mz : R Int} (h : Rf (f σ) mi D.int) (h2 : Rf (k σ) (.ok j) D.int) (h3 : Rf (l σ) mz D.int) : Rf (eCC .le .ge f k l σ) (mi.bind fun i => if decide (i ≤ j) = true then mz.bind fun z => .ok (decide (z ≤ j)) else .ok false) D.bl :=
  Rf.bind (M := fun i => R.bind (.ok j) fun j => if decide (i ≤ j) = true then mz.bind fun z => .ok (decide (z ≤ j)) else .ok false) h fun i => Rf.bind h2 fun j => by
    rw [show cmpD .le (.int i) (.int j) = .ok (decide (i ≤ j)) from rfl, R.bind_ok]
    cases decide (i ≤ j)
    · exact rfl
    · exact h3.bind fun z => rfl
theorem rf_ccm_lege_mm {mi : R Int} {mj : R Int} {mz : R Int} (h : Rf (f σ) mi D.int) (h2 : Rf (k σ) mj D.int) (h3 : Rf (l σ) mz D.int) : Rf (eCC .le .ge f k l σ) (mi.bind fun i => mj.bind fun j => if decide (i ≤ j) = true then mz.bind fun z => .ok (decide (z ≤ j)) else .ok false) D.bl :=
  Rf.bind (M := fun i => R.bind mj fun j => if decide (i ≤ j) = true then mz.bind fun z => .ok (decide (z ≤ j)) else .ok false) h fun i => Rf.bind h2 fun j => by
    rw [show cmpD .le (.int i) (.int j) = .ok (decide (i ≤ j)) from rfl, R.bind_ok]
    cases decide (i ≤ j)
    · exact rfl
    · exact h3.bind fun z => rfl
theorem rf_ccm_gtlt_pp {i : Int} {j : Int} {mz : R Int} (h : Rf (f σ) (.ok i) D.int) (h2 : Rf (k σ) (.ok j) D.int) (h3 : Rf (l σ) mz D.int) : Rf (eCC .gt .lt f k l σ) (if decide (j < i) = true then mz.bind fun z => .ok (decide (j < z)) else .ok false) D.bl :=
  Rf.bind (M := fun i => R.bind (.ok j) fun j => if decide (j < i) = true then mz.bind fun z => .ok (decide (j < z)) else .ok false) h fun i => Rf.bind h2 fun j => by
    rw [show cmpD .gt (.int i) (.int j) = .ok (decide (j < i)) from rfl, R.bind_ok]
    cases decide (j < i)
    · exact rfl
    · exact h3.bind fun z => rfl
theorem rf_ccm_gtlt_pm {i : Int} {mj : R Int} {mz : R Int} (h : Rf (f σ) (.ok i) D.int) (h2 : Rf (k σ) mj D.int) (h3 : Rf (l σ) mz D.int) : Rf (eCC .gt .lt f k l σ) (mj.bind fun j => if decide (j < i) = true then mz.bind fun z => .ok (decide (j < z)) else .ok false) D.bl :=
  Rf.bind (M := fun i => R.bind mj fun j => if decide (j < i) = true then mz.bind fun z => .ok (decide (j < z)) else .ok false) h fun i => Rf.bind h2 fun j => by
    rw [show cmpD .gt (.int i) (.int j) = .ok (decide (j < i)) from rfl, R.bind_ok]
    cases decide (j < i)
    · exact rfl
    · exact h3.bind fun z => rfl
theorem rf_ccm_gtlt_mp {mi : R Int} {j : Int} {mz : R Int} (h : Rf (f σ) mi D.int) (h2 : Rf (k σ) (.ok j) D.int) (h3 : Rf (l σ) mz D.int) : Rf (eCC .gt .lt f k l σ) (mi.bind fun i => if decide (j < i) = true then mz.bind fun z => .ok (decide (j < z)) else .ok false) D.bl :=
  Rf.bind (M := fun i => R.bind (.ok j) fun j => if decide (j < i) = true then mz.bind fun z => .ok (decide (j < z)) else .ok false) h fun i => Rf.bind h2 fun j => by
    rw [show cmpD .gt (.int i) (.int j) = .ok (decide (j < i)) from rfl, R.bind_ok]
    cases decide (j < i)
    · exact rfl
    · exact h3.bind fun z => rfl
theorem rf_ccm_gtlt_mm {mi : R Int} {mj : R Int} {mz : R Int} (h : Rf (f σ) mi D.int) (h2 : Rf (k σ) mj D.int) (h3 : Rf (l σ) mz D.int) : Rf (eCC .gt .lt f k l σ) (mi.bind fun i => mj.bind fun j => if decide (j < i) = true then mz.bind fun z => .ok (decide (j < z)) else .ok false) D.bl :=
  Rf.bind (M := fun i => R.bind mj fun j => if decide (j < i) = true then mz.bind fun z => .ok (decide (j < z)) else .ok false) h fun i => Rf.bind h2 fun j => by
    rw [show cmpD .gt (.int i) (.int j) = .ok (decide (j < i)) from rfl, R.bind_ok]
    cases decide (j < i)
    · exact rfl
    · exact h3.bind fun z => rfl
theorem rf_ccm_gtle_pp {i : Int} {j : Int} {mz : R Int} (h : Rf (f σ) (.ok i) D.int) (h2 : Rf (k σ) (.ok j) D.int) (h3 : Rf (l σ) mz D.int) : Rf (eCC .gt .le f k l σ) (if decide (j < i) = true then mz.bind fun z => .ok (decide (j ≤ z)) else .ok false) D.bl :=
  Rf.bind (M := fun i => R.bind (.ok j) fun j => if decide (j < i) = true then mz.bind fun z => .ok (decide (j ≤ z)) else .ok false) h fun i => Rf.bind h2 fun j => by
    rw [show cmpD .gt (.int i) (.int j) = .ok (decide (j < i)) from rfl, R.bind_ok]
    cases decide (j < i)
    · exact rfl
    · exact h3.bind fun z => rfl
theorem rf_ccm_gtle_pm {i : Int} {mj : R Int} {mz : R Int} (h : Rf (f σ) (.ok i) D.int) (h2 : Rf (k σ) mj D.int) (h3 : Rf (l σ) mz D.int) : Rf (eCC .gt .le f k l σ) (mj.bind fun j => if decide (j < i) = true then mz.bind fun z => .ok (decide (j ≤ z)) else .ok false) D.bl :=
  Rf.bind (M := fun i => R.bind mj fun j => if decide (j < i) = true then mz.bind fun z => .ok (decide (j ≤ z)) else .ok false) h fun i => Rf.bind h2 fun j => by
    rw [show cmpD .gt (.int i) (.int j) = .ok (decide (j < i)) from rfl, R.bind_ok]
    cases decide (j < i)
    · exact rfl
    · exact h3.bind fun z => rfl
theorem rf_ccm_gtle_mp {mi : R Int} {j : Int} {mz : R Int} (h : Rf (f σ) mi D.int) (h2 : Rf (k σ) (.ok j) D.int) (h3 : Rf (l σ) mz D.int) : Rf (eCC .gt .le f k l σ) (mi.bind fun i => if decide (j < i) = true then mz.bind fun z => .ok (decide (j ≤ z)) else .ok false) D.bl :=
  Rf.bind (M := fun i => R.bind (.ok j) fun j => if decide (j < i) = true then mz.bind fun z => .ok (decide (j ≤ z)) else .ok false) h fun i => Rf.bind h2 fun j => by
    rw [show cmpD .gt (.int i) (.int j) = .ok (decide (j < i)) from rfl, R.bind_ok]
    cases decide (j < i)
    · exact rfl
    · exact h3.bind fun z => rfl
theorem rf_ccm_gtle_mm {mi : R Int} {mj : R Int} {mz : R Int} (h : Rf (f σ) mi D.int) (h2 : Rf (k σ) mj D.int) (h3 : Rf (l σ) mz D.int) : Rf (eCC .gt .le f k l σ) (mi.bind fun i => mj.bind fun j => if decide (j < i) = true then mz.bind fun z => .ok (decide (j ≤ z)) else .ok false) D.bl :=
  Rf.bind (M := fun i => R.bind mj fun j => if decide (j < i) = true then mz.bind fun z => .ok (decide (j ≤ z)) else .ok false) h fun i => Rf.bind h2 fun j => by
    rw [show cmpD .gt (.int i) (.int j) = .ok (decide (j < i)) from rfl, R.bind_ok]
    cases decide (j < i)
    · exact rfl
    · exact h3.bind fun z => rfl
theorem rf_ccm_gtgt_pp {i : Int} {j : Int} {mz : R Int} (h : Rf (f σ) (.ok i) D.int) (h2 : Rf (k σ) (.ok j) D.int) (h3 : Rf (l σ) mz D.int) : Rf (eCC .gt .gt f k l σ) (if decide (j < i) = true then mz.bind fun z => .ok (decide (z < j)) else .ok false) D.bl :=
  Rf.bind (M := fun i => R.bind (.ok j) fun j => if decide (j < i) = true then mz.bind fun z => .ok (decide (z < j)) else .ok false) h fun i => Rf.bind h2 fun j => by
    rw [show cmpD .gt (.int i) (.int j) = .ok (decide (j < i)) from rfl, R.bind_ok]
    cases decide (j < i)
    · exact rfl
    · exact h3.bind fun z => rfl
theorem rf_ccm_gtgt_pm {i : Int} {mj : R Int} {mz : R Int} (h : Rf (f σ) (.ok i) D.int) (h2 : Rf (k σ) mj D.int) (h3 : Rf (l σ) mz D.int) : Rf (eCC .gt .gt f k l σ) (mj.bind fun j => if decide (j < i) = true then mz.bind fun z => .ok (decide (z < j)) else .ok false) D.bl :=
  Rf.bind (M := fun i => R.bind mj fun j => if decide (j < i) = true then mz.bind fun z => .ok (decide (z < j)) else .ok false) h fun i => Rf.bind h2 fun j => by
    rw [show cmpD .gt (.int i) (.int j) = .ok (decide (j < i)) from rfl, R.bind_ok]
    cases decide (j < i)
    · exact rfl
    · exact h3.bind fun z => rfl
theorem rf_ccm_gtgt_mp {mi : R Int} {j : Int} {mz : R Int} (h : Rf (f σ) mi D.int) (h2 : Rf (k σ) (.ok j) D.int) (h3 : Rf (l σ) mz D.int) : Rf (eCC .gt .gt f k l σ) (mi.bind fun i => if decide (j < i) = true then mz.bind fun z => .ok (decide (z < j)) else .ok false) D.bl :=
  Rf.bind (M := fun i => R.bind (.ok j) fun j => if decide (j < i) = true then mz.bind fun z => .ok (decide (z < j)) else .ok false) h fun i => Rf.bind h2 fun j => by
    rw [show cmpD .gt (.int i) (.int j) = .ok (decide (j < i)) from rfl, R.bind_ok]
    cases decide (j < i)
    · exact rfl
    · exact h3.bind fun z => rfl
theorem rf_ccm_gtgt_mm {mi : R Int} {mj : R Int} {mz : R Int} (h : Rf (f σ) mi D.int) (h2 : Rf (k σ) mj D.int) (h3 : Rf (l σ) mz D.int) : Rf (eCC .gt .gt f k l σ) (mi.bind fun i => mj.bind fun j => if decide (j < i) = true then mz.bind fun z => .ok (decide (z < j)) else .ok false) D.bl :=
  Rf.bind (M := fun i => R.bind mj fun j => if decide (j < i) = true then mz.bind fun z => .ok (decide (z < j)) else .ok false) h fun i => Rf.bind h2 fun j => by
    rw [show cmpD .gt (.int i) (.int j) = .ok (decide (j < i)) from rfl, R.bind_ok]
    cases decide (j < i)
    · exact rfl
    · exact h3.bind fun z => rfl
theorem rf_ccm_gtge_pp {i : Int} {j : Int} {mz : R Int} (h : Rf (f σ) (.ok i) D.int) (h2 : Rf (k σ) (.ok j) D.int) (h3 : Rf (l σ) mz D.int) : Rf (eCC .gt .ge f k l σ) (if decide (j < i) = true then mz.bind fun z => .ok (decide (z ≤ j)) else .ok false) D.bl :=
  Rf.bind (M := fun i => R.bind (.ok j) fun j => if decide (j < i) = true then mz.bind fun z => .ok (decide (z ≤ j)) else .ok false) h fun i => Rf.bind h2 fun j => by
    rw [show cmpD .gt (.int i) (.int j) = .ok (decide (j < i)) from rfl, R.bind_ok]
    cases decide (j < i)
    · exact rfl
    · exact h3.bind fun z => rfl
theorem rf_ccm_gtge_pm {i : Int} {mj : R Int} {mz : R Int} (h : Rf (f σ) (.ok i) D.int) (h2 : Rf (k σ) mj D.int) (h3 : Rf (l σ) mz D.int) : Rf (eCC .gt .ge f k l σ) (mj.bind fun j => if decide (j < i) = true then mz.bind fun z => .ok (decide (z ≤ j)) else .ok false) D.bl :=
  Rf.bind (M := fun i => R.bind mj fun j => if decide (j < i) = true then mz.bind fun z => .ok (decide (z ≤ j)) else .ok false) h fun i => Rf.bind h2 fun j => by
    rw [show cmpD .gt (.int i) (.int j) = .ok (decide (j < i)) from rfl, R.bind_ok]
    cases decide (j < i)
    · exact rfl
    · exact h3.bind fun z => rfl
theorem rf_ccm_gtge_mp {mi : R Int} {j : Int} {mz : R Int} (h : Rf (f σ) mi D.int) (h2 : Rf (k σ) (.ok j) D.int) (h3 : Rf (l σ) mz D.int) : Rf (eCC .gt .ge f k l σ) (mi.bind fun i => if decide (j < i) = true then mz.bind fun z => .ok (decide (z ≤ j)) else .ok false) D.bl :=
  Rf.bind (M := fun i => R.bind (.ok j) fun j => if decide (j < i) = true then mz.bind fun z => .ok (decide (z ≤ j)) else .ok false) h fun i => Rf.bind h2 fun j => by
    rw [show cmpD .gt (.int i) (.int j) = .ok (decide (j < i)) from rfl, R.bind_ok]
    cases decide (j < i)
    · exact rfl
    · exact h3.bind fun z => rfl
theorem rf_ccm_gtge_mm {mi : R Int} {mj : R Int} {mz : R Int} (h : Rf (f σ) mi D.int) (h2 : Rf (k σ) mj D.int) (h3 : Rf (l σ) mz D.int) : Rf (eCC .gt .ge f k l σ) (mi.bind fun i => mj.bind fun j => if decide (j < i) = true then mz.bind fun z => .ok (decide (z ≤ j)) else .ok false) D.bl :=
  Rf.bind (M := fun i => R.bind mj fun j => if decide (j < i) = true then mz.bind fun z => .ok (decide (z ≤ j)) else .ok false) h fun i => Rf.bind h2 fun j => by
    rw [show cmpD .gt (.int i) (.int j) = .ok (decide (j < i)) from rfl, R.bind_ok]
    cases decide (j < i)
    · exact rfl
    · exact h3.bind fun z => rfl
theorem rf_ccm_gelt_pp {i : Int} {j : Int} {mz : R Int} (h : Rf (f σ) (.ok i) D.int) (h2 : Rf (k σ) (.ok j) D.int) (h3 : Rf (l σ) mz D.int) : Rf (eCC .ge .lt f k l σ) (if decide (j ≤ i) = true then mz.bind fun z => .ok (decide (j < z)) else .ok false) D.bl :=
  Rf.bind (M := fun i => R.bind (.ok j) fun j => if decide (j ≤ i) = true then mz.bind fun z => .ok (decide (j < z)) else .ok false) h fun i => Rf.bind h2 fun j => by
    rw [show cmpD .ge (.int i) (.int j) = .ok (decide (j ≤ i)) from rfl, R.bind_ok]
    cases decide (j ≤ i)
    · exact rfl
    · exact h3.bind fun z => rfl
theorem rf_ccm_gelt_pm {i : Int} {mj : R Int} {mz : R Int} (h : Rf (f σ) (.ok i) D.int) (h2 : Rf (k σ) mj D.int) (h3 : Rf (l σ) mz D.int) : Rf (eCC .ge .lt f k l σ) (mj.bind fun j => if decide (j ≤ i) = true then mz.bind fun z => .ok (decide (j < z)) else .ok false) D.bl :=
  Rf.bind (M := fun i => R.bind mj fun j => if decide (j ≤ i) = true then mz.bind fun z => .ok (decide (j < z)) else .ok false) h fun i => Rf.bind h2 fun j => by
    rw [show cmpD .ge (.int i) (.int j) = .ok (decide (j ≤ i)) from rfl, R.bind_ok]
    cases decide (j ≤ i)
    · exact rfl
    · exact h3.bind fun z => rfl
theorem rf_ccm_gelt_mp {mi : R Int} {j : Int} {mz : R Int} (h : Rf (f σ) mi D.int) (h2 : Rf (k σ) (.ok j) D.int) (h3 : Rf (l σ) mz D.int) : Rf (eCC .ge .lt f k l σ) (mi.bind fun i => if decide (j ≤ i) = true then mz.bind fun z => .ok (decide (j < z)) else .ok false) D.bl :=
  Rf.bind (M := fun i => R.bind (.ok j) fun j => if decide (j ≤ i) = true then mz.bind fun z => .ok (decide (j < z)) else .ok false) h fun i => Rf.bind h2 fun j => by
    rw [show cmpD .ge (.int i) (.int j) = .ok (decide (j ≤ i)) from rfl, R.bind_ok]
    cases decide (j ≤ i)
    · exact rfl
    · exact h3.bind fun z => rfl
theorem rf_ccm_gelt_mm {mi : R Int} {mj : R Int} {mz : R Int} (h : Rf (f σ) mi D.int) (h2 : Rf (k σ) mj D.int) (h3 : Rf (l σ) mz D.int) : Rf (eCC .ge .lt f k l σ) (mi.bind fun i => mj.bind fun j => if decide (j ≤ i) = true then mz.bind fun z => .ok (decide (j < z)) else .ok false) D.bl :=
  Rf.bind (M := fun i => R.bind mj fun j => if decide (j ≤ i) = true then mz.bind fun z => .ok (decide (j < z)) else .ok false) h fun i => Rf.bind h2 fun j => by
    rw [show cmpD .ge (.int i) (.int j) = .ok (decide (j ≤ i)) from rfl, R.bind_ok]
    cases decide (j ≤ i)
    · exact rfl
    · exact h3.bind fun z => rfl
theorem rf_ccm_gele_pp {i : Int} {j : Int} {mz : R Int} (h : Rf (f σ) (.ok i) D.int) (h2 : Rf (k σ) (.ok j) D.int) (h3 : Rf (l σ) mz D.int) : Rf (eCC .ge .le f k l σ) (if decide (j ≤ i) = true then mz.bind fun z => .ok (decide (j ≤ z)) else .ok false) D.bl :=
  Rf.bind (M := fun i => R.bind (.ok j) fun j => if decide (j ≤ i) = true then mz.bind fun z => .ok (decide (j ≤ z)) else .ok false) h fun i => Rf.bind h2 fun j => by
    rw [show cmpD .ge (.int i) (.int j) = .ok (decide (j ≤ i)) from rfl, R.bind_ok]
    cases decide (j ≤ i)
    · exact rfl
    · exact h3.bind fun z => rfl
theorem rf_ccm_gele_pm {i : Int} {mj : R Int} {mz : R Int} (h : Rf (f σ) (.ok i) D.int) (h2 : Rf (k σ) mj D.int) (h3 : Rf (l σ) mz D.int) : Rf (eCC .ge .le f k l σ) (mj.bind fun j => if decide (j ≤ i) = true then mz.bind fun z => .ok (decide (j ≤ z)) else .ok false) D.bl :=
  Rf.bind (M := fun i => R.bind mj fun j => if decide (j ≤ i) = true then mz.bind fun z => .ok (decide (j ≤ z)) else .ok false) h fun i => Rf.bind h2 fun j => by
    rw [show cmpD .ge (.int i) (.int j) = .ok (decide (j ≤ i)) from rfl, R.bind_ok]
    cases decide (j ≤ i)
    · exact rfl
    · exact h3.bind fun z => rfl
theorem rf_ccm_gele_mp {mi : R Int} {j : Int} {mz : R Int} (h : Rf (f σ) mi D.int) (h2 : Rf (k σ) (.ok j) D.int) (h3 : Rf (l σ) mz D.int) : Rf (eCC .ge .le f k l σ) (mi.bind fun i => if decide (j ≤ i) = true then mz.bind fun z => .ok (decide (j ≤ z)) else .ok false) D.bl :=
  Rf.bind (M := fun i => R.bind (.ok j) fun j => if decide (j ≤ i) = true then mz.bind fun z => .ok (decide (j ≤ z)) else .ok false) h fun i => Rf.bind h2 fun j => by
    rw [show cmpD .ge (.int i) (.int j) = .ok (decide (j ≤ i)) from rfl, R.bind_ok]
    cases decide (j ≤ i)
    · exact rfl
    · exact h3.bind fun z => rfl
theorem rf_ccm_gele_mm {mi : R Int} {mj : R Int} {mz : R Int} (h : Rf (f σ) mi D.int) (h2 : Rf (k σ) mj D.int) (h3 : Rf (l σ) mz D.int) : Rf (eCC .ge .le f k l σ) (mi.bind fun i => mj.bind fun j => if decide (j ≤ i) = true then mz.bind fun z => .ok (decide (j ≤ z)) else .ok false) D.bl :=
  Rf.bind (M := fun i => R.bind mj fun j => if decide (j ≤ i) = true then mz.bind fun z => .ok (decide (j ≤ z)) else .ok false) h fun i => Rf.bind h2 fun j => by
    rw [show cmpD .ge (.int i) (.int j) = .ok (decide (j ≤ i)) from rfl, R.bind_ok]
    cases decide (j ≤ i)
    · exact rfl
    · exact h3.bind fun z => rfl
theorem rf_ccm_gegt_pp {i : Int} {j : Int} {mz : R Int} (h : Rf (f σ) (.ok i) D.int) (h2 : Rf (k σ) (.ok j) D.int) (h3 : Rf (l σ) mz D.int) : Rf (eCC .ge .gt f k l σ) (if decide (j ≤ i) = true then mz.bind fun z => .ok (decide (z < j)) else .ok false) D.bl :=
  Rf.bind (M := fun i => R.bind (.ok j) fun j => if decide (j ≤ i) = true then mz.bind fun z => .ok (decide (z < j)) else .ok false) h fun i => Rf.bind h2 fun j => by
    rw [show cmpD .ge (.int i) (.int j) = .ok (decide (j ≤ i)) from rfl, R.bind_ok]
    cases decide (j ≤ i)
    · exact rfl
    · exact h3.bind fun z => rfl
theorem rf_ccm_gegt_pm {i : Int} {mj : R Int} {mz : R Int} (h : Rf (f σ) (.ok i) D.int) (h2 : Rf (k σ) mj D.int) (h3 : Rf (l σ) mz D.int) : Rf (eCC .ge .gt f k l σ) (mj.bind fun j => if decide (j ≤ i) = true then mz.bind fun z => .ok (decide (z < j)) else .ok false) D.bl :=
  Rf.bind (M := fun i => R.bind mj fun j => if decide (j ≤ i) = true then mz.bind fun z => .ok (decide (z < j)) else .ok false) h fun i => Rf.bind h2 fun j => by
    rw [show cmpD .ge (.int i) (.int j) = .ok (decide (j ≤ i)) from rfl, R.bind_ok]
    cases decide (j ≤ i)
    · exact rfl
    · exact h3.bind fun z => rfl
theorem rf_ccm_gegt_mp {mi : R Int} {j : Int} {mz : R Int} (h : Rf (f σ) mi D.int) (h2 : Rf (k σ) (.ok j) D.int) (h3 : Rf (l σ) mz D.int) : Rf (eCC .ge .gt f k l σ) (mi.bind fun i => if decide (j ≤ i) = true then mz.bind fun z => .ok (decide (z < j)) else .ok false) D.bl :=
  Rf.bind (M := fun i => R.bind (.ok j) fun j => if decide (j ≤ i) = true then mz.bind fun z => .ok (decide (z < j)) else .ok false) h fun i => Rf.bind h2 fun j => by
    rw [show cmpD .ge (.int i) (.int j) = .ok (decide (j ≤ i)) from rfl, R.bind_ok]
    cases decide (j ≤ i)
    · exact rfl
    · exact h3.bind fun z => rfl
theorem rf_ccm_gegt_mm {mi : R Int} {mj : R Int} {mz : R Int} (h : Rf (f σ) mi D.int) (h2 : Rf (k σ) mj D.int) (h3 : Rf (l σ) mz D.int) : Rf (eCC .ge .gt f k l σ) (mi.bind fun i => mj.bind fun j => if decide (j ≤ i) = true then mz.bind fun z => .ok (decide (z < j)) else .ok false) D.bl :=
  Rf.bind (M := fun i => R.bind mj fun j => if decide (j ≤ i) = true then mz.bind fun z => .ok (decide (z < j)) else .ok false) h fun i => Rf.bind h2 fun j => by
    rw [show cmpD .ge (.int i) (.int j) = .ok (decide (j ≤ i)) from rfl, R.bind_ok]
    cases decide (j ≤ i)
    · exact rfl
    · exact h3.bind fun z => rfl
theorem rf_ccm_gege_pp {i : Int} {j : Int} {mz : R Int} (h : Rf (f σ) (.ok i) D.int) (h2 : Rf (k σ) (.ok j) D.int) (h3 : Rf (l σ) mz D.int) : Rf (eCC .ge .ge f k l σ) (if decide (j ≤ i) = true then mz.bind fun z => .ok (decide (z ≤ j)) else .ok false) D.bl :=
  Rf.bind (M := fun i => R.bind (.ok j) fun j => if decide (j ≤ i) = true then mz.bind fun z => .ok (decide (z ≤ j)) else .ok false) h fun i => Rf.bind h2 fun j => by
    rw [show cmpD .ge (.int i) (.int j) = .ok (decide (j ≤ i)) from rfl, R.bind_ok]
    cases decide (j ≤ i)
    · exact rfl
    · exact h3.bind fun z => rfl
theorem rf_ccm_gege_pm {i : Int} {mj : R Int} {mz : R Int} (h : Rf (f σ) (.ok i) D.int) (h2 : Rf (k σ) mj D.int) (h3 : Rf (l σ) mz D.int) : Rf (eCC .ge .ge f k l σ) (mj.bind fun j => if decide (j ≤ i) = true then mz.bind fun z => .ok (decide (z ≤ j)) else .ok false) D.bl :=
  Rf.bind (M := fun i => R.bind mj fun j => if decide (j ≤ i) = true then mz.bind fun z => .ok (decide (z ≤ j)) else .ok false) h fun i => Rf.bind h2 fun j => by
    rw [show cmpD .ge (.int i) (.int j) = .ok (decide (j ≤ i)) from rfl, R.bind_ok]
    cases decide (j ≤ i)
    · exact rfl
    · exact h3.bind fun z => rfl
theorem rf_ccm_gege_mp {mi : R Int} {j : Int} {mz : R Int} (h : Rf (f σ) mi D.int) (h2 : Rf (k σ) (.ok j) D.int) (h3 : Rf (l σ) mz D.int) : Rf (eCC .ge .ge f k l σ) (mi.bind fun i => if decide (j ≤ i) = true then mz.bind fun z => .ok (decide (z ≤ j)) else .ok false) D.bl :=
  Rf.bind (M := fun i => R.bind (.ok j) fun j => if decide (j ≤ i) = true then mz.bind fun z => .ok (decide (z ≤ j)) else .ok false) h fun i => Rf.bind h2 fun j => by
    rw [show cmpD .ge (.int i) (.int j) = .ok (decide (j ≤ i)) from rfl, R.bind_ok]
    cases decide (j ≤ i)
    · exact rfl
    · exact h3.bind fun z => rfl
theorem rf_ccm_gege_mm {mi : R Int} {mj : R Int} {mz : R Int} (h : Rf (f σ) mi D.int) (h2 : Rf (k σ) mj D.int) (h3 : Rf (l σ) mz D.int) : Rf (eCC .ge .ge f k l σ) (mi.bind fun i => mj.bind fun j => if decide (j ≤ i) = true then mz.bind fun z => .ok (decide (z ≤ j)) else .ok false) D.bl :=
  Rf.bind (M := fun i => R.bind mj fun j => if decide (j ≤ i) = true then mz.bind fun z => .ok (decide (z ≤ j)) else .ok false) h fun i => Rf.bind h2 fun j => by
    rw [show cmpD .ge (.int i) (.int j) = .ok (decide (j ≤ i)) from rfl, R.bind_ok]
    cases decide (j ≤ i)
    · exact rfl
    · exact h3.bind fun z => rfl
theorem rf_ixL_pp {o : Bool} {xs : List α} {i : Int}  (h0 : Rf (f σ) (.ok xs) (eLs o e)) (h1 : Rf (k σ) (.ok i) D.int) : Rf (eIx f k σ) (ofR (L2.atI xs i)) e := rf_ixL  h0 h1
theorem rf_ixL_pm {o : Bool} {xs : List α} {m1 : R (Int)}  (h0 : Rf (f σ) (.ok xs) (eLs o e)) (h1 : Rf (k σ) m1 D.int) : Rf (eIx f k σ) (m1.bind fun i => ofR (L2.atI xs i)) e := rf_ixL  h0 h1
theorem rf_ixL_mp {o : Bool} {m0 : R (List α)} {i : Int}  (h0 : Rf (f σ) m0 (eLs o e)) (h1 : Rf (k σ) (.ok i) D.int) : Rf (eIx f k σ) (m0.bind fun xs => ofR (L2.atI xs i)) e := rf_ixL  h0 h1
theorem rf_ixL_mm {o : Bool} {m0 : R (List α)} {m1 : R (Int)}  (h0 : Rf (f σ) m0 (eLs o e)) (h1 : Rf (k σ) m1 D.int) : Rf (eIx f k σ) (m0.bind fun xs => m1.bind fun i => ofR (L2.atI xs i)) e := rf_ixL  h0 h1
theorem rf_ixQ_pp  {xs : List α} {i : Int}  (h0 : Rf (f σ) (.ok xs) (eSq e)) (h1 : Rf (k σ) (.ok i) D.int) : Rf (eIx f k σ) (ofR (L2.atI xs i)) e := rf_ixQ  h0 h1
theorem rf_ixQ_pm  {xs : List α} {m1 : R (Int)}  (h0 : Rf (f σ) (.ok xs) (eSq e)) (h1 : Rf (k σ) m1 D.int) : Rf (eIx f k σ) (m1.bind fun i => ofR (L2.atI xs i)) e := rf_ixQ  h0 h1
theorem rf_ixQ_mp  {m0 : R (List α)} {i : Int}  (h0 : Rf (f σ) m0 (eSq e)) (h1 : Rf (k σ) (.ok i) D.int) : Rf (eIx f k σ) (m0.bind fun xs => ofR (L2.atI xs i)) e := rf_ixQ  h0 h1
theorem rf_ixQ_mm  {m0 : R (List α)} {m1 : R (Int)}  (h0 : Rf (f σ) m0 (eSq e)) (h1 : Rf (k σ) m1 D.int) : Rf (eIx f k σ) (m0.bind fun xs => m1.bind fun i => ofR (L2.atI xs i)) e := rf_ixQ  h0 h1
theorem rf_ixS_pp  {xs : St} {i : Int}  (h0 : Rf (f σ) (.ok xs) eSt) (h1 : Rf (k σ) (.ok i) D.int) : Rf (eIx f k σ) (sixT xs i) eCh := rf_ixS  h0 h1
theorem rf_ixS_pm  {xs : St} {m1 : R (Int)}  (h0 : Rf (f σ) (.ok xs) eSt) (h1 : Rf (k σ) m1 D.int) : Rf (eIx f k σ) (m1.bind fun i => sixT xs i) eCh := rf_ixS  h0 h1
theorem rf_ixS_mp  {m0 : R (St)} {i : Int}  (h0 : Rf (f σ) m0 eSt) (h1 : Rf (k σ) (.ok i) D.int) : Rf (eIx f k σ) (m0.bind fun xs => sixT xs i) eCh := rf_ixS  h0 h1
theorem rf_ixS_mm  {m0 : R (St)} {m1 : R (Int)}  (h0 : Rf (f σ) m0 eSt) (h1 : Rf (k σ) m1 D.int) : Rf (eIx f k σ) (m0.bind fun xs => m1.bind fun i => sixT xs i) eCh := rf_ixS  h0 h1
theorem rf_ixD_pp {κ : α → NestedKey} {o : Bool} [DecidableEq α] {b : List (α × β)} {a : α} (h : KD e κ) (h0 : Rf (f σ) (.ok b) (eDc o κ e')) (h1 : Rf (k σ) (.ok a) e) : Rf (eIx f k σ) (ofR (getT b a)) e' := rf_ixD h h0 h1
theorem rf_ixD_pm {κ : α → NestedKey} {o : Bool} [DecidableEq α] {b : List (α × β)} {m1 : R (α)} (h : KD e κ) (h0 : Rf (f σ) (.ok b) (eDc o κ e')) (h1 : Rf (k σ) m1 e) : Rf (eIx f k σ) (m1.bind fun a => ofR (getT b a)) e' := rf_ixD h h0 h1
theorem rf_ixD_mp {κ : α → NestedKey} {o : Bool} [DecidableEq α] {m0 : R (List (α × β))} {a : α} (h : KD e κ) (h0 : Rf (f σ) m0 (eDc o κ e')) (h1 : Rf (k σ) (.ok a) e) : Rf (eIx f k σ) (m0.bind fun b => ofR (getT b a)) e' := rf_ixD h h0 h1
theorem rf_ixD_mm {κ : α → NestedKey} {o : Bool} [DecidableEq α] {m0 : R (List (α × β))} {m1 : R (α)} (h : KD e κ) (h0 : Rf (f σ) m0 (eDc o κ e')) (h1 : Rf (k σ) m1 e) : Rf (eIx f k σ) (m0.bind fun b => m1.bind fun a => ofR (getT b a)) e' := rf_ixD h h0 h1
theorem rf_get1_pp {κ : α → NestedKey} {o : Bool} [DecidableEq α] {b : List (α × β)} {a : α} (h : KD e κ) (h0 : Rf (f σ) (.ok b) (eDc o κ e')) (h1 : Rf (k σ) (.ok a) e) : Rf (eMt .get1 f (aC k aN) σ) (.ok (getT b a)) (eOp e') := rf_get1 h h0 h1
theorem rf_get1_pm {κ : α → NestedKey} {o : Bool} [DecidableEq α] {b : List (α × β)} {m1 : R (α)} (h : KD e κ) (h0 : Rf (f σ) (.ok b) (eDc o κ e')) (h1 : Rf (k σ) m1 e) : Rf (eMt .get1 f (aC k aN) σ) (m1.bind fun a => .ok (getT b a)) (eOp e') := rf_get1 h h0 h1
theorem rf_get1_mp {κ : α → NestedKey} {o : Bool} [DecidableEq α] {m0 : R (List (α × β))} {a : α} (h : KD e κ) (h0 : Rf (f σ) m0 (eDc o κ e')) (h1 : Rf (k σ) (.ok a) e) : Rf (eMt .get1 f (aC k aN) σ) (m0.bind fun b => .ok (getT b a)) (eOp e') := rf_get1 h h0 h1
theorem rf_get1_mm {κ : α → NestedKey} {o : Bool} [DecidableEq α] {m0 : R (List (α × β))} {m1 : R (α)} (h : KD e κ) (h0 : Rf (f σ) m0 (eDc o κ e')) (h1 : Rf (k σ) m1 e) : Rf (eMt .get1 f (aC k aN) σ) (m0.bind fun b => m1.bind fun a => .ok (getT b a)) (eOp e') := rf_get1 h h0 h1
theorem rf_find_pp  {s : St} {t : St}  (h0 : Rf (f σ) (.ok s) eSt) (h1 : Rf (k σ) (.ok t) eSt) : Rf (eMt .find f (aC k aN) σ) (.ok (fndT s t)) D.int := rf_find  h0 h1
theorem rf_find_pm  {s : St} {m1 : R (St)}  (h0 : Rf (f σ) (.ok s) eSt) (h1 : Rf (k σ) m1 eSt) : Rf (eMt .find f (aC k aN) σ) (m1.bind fun t => .ok (fndT s t)) D.int := rf_find  h0 h1
theorem rf_find_mp  {m0 : R (St)} {t : St}  (h0 : Rf (f σ) m0 eSt) (h1 : Rf (k σ) (.ok t) eSt) : Rf (eMt .find f (aC k aN) σ) (m0.bind fun s => .ok (fndT s t)) D.int := rf_find  h0 h1
theorem rf_find_mm  {m0 : R (St)} {m1 : R (St)}  (h0 : Rf (f σ) m0 eSt) (h1 : Rf (k σ) m1 eSt) : Rf (eMt .find f (aC k aN) σ) (m0.bind fun s => m1.bind fun t => .ok (fndT s t)) D.int := rf_find  h0 h1
theorem rf_sidx_pp  {s : St} {t : St}  (h0 : Rf (f σ) (.ok s) eSt) (h1 : Rf (k σ) (.ok t) eSt) : Rf (eMt .strIndex f (aC k aN) σ) (idxT s t) D.int := rf_sidx  h0 h1
theorem rf_sidx_pm  {s : St} {m1 : R (St)}  (h0 : Rf (f σ) (.ok s) eSt) (h1 : Rf (k σ) m1 eSt) : Rf (eMt .strIndex f (aC k aN) σ) (m1.bind fun t => idxT s t) D.int := rf_sidx  h0 h1
theorem rf_sidx_mp  {m0 : R (St)} {t : St}  (h0 : Rf (f σ) m0 eSt) (h1 : Rf (k σ) (.ok t) eSt) : Rf (eMt .strIndex f (aC k aN) σ) (m0.bind fun s => idxT s t) D.int := rf_sidx  h0 h1
theorem rf_sidx_mm  {m0 : R (St)} {m1 : R (St)}  (h0 : Rf (f σ) m0 eSt) (h1 : Rf (k σ) m1 eSt) : Rf (eMt .strIndex f (aC k aN) σ) (m0.bind fun s => m1.bind fun t => idxT s t) D.int := rf_sidx  h0 h1
theorem rf_lidx_pp [DecidableEq α] {e2 : α → D} {p : α → PyData} {u u' : Nat} {o : Bool} {s : List α} {t : α} (h : PyE e p u) (h' : PyE e2 p u') (q : PyQ p) (hn : u ≤ 63) (hn' : u' ≤ 63) (h0 : Rf (f σ) (.ok s) (eLs o e)) (h1 : Rf (k σ) (.ok t) e2) : Rf (eMt .lstIndex f (aC k aN) σ) (lixT s t) D.int := rf_lidx h h' q hn hn' h0 h1
theorem rf_lidx_pm [DecidableEq α] {e2 : α → D} {p : α → PyData} {u u' : Nat} {o : Bool} {s : List α} {m1 : R (α)} (h : PyE e p u) (h' : PyE e2 p u') (q : PyQ p) (hn : u ≤ 63) (hn' : u' ≤ 63) (h0 : Rf (f σ) (.ok s) (eLs o e)) (h1 : Rf (k σ) m1 e2) : Rf (eMt .lstIndex f (aC k aN) σ) (m1.bind fun t => lixT s t) D.int := rf_lidx h h' q hn hn' h0 h1
theorem rf_lidx_mp [DecidableEq α] {e2 : α → D} {p : α → PyData} {u u' : Nat} {o : Bool} {m0 : R (List α)} {t : α} (h : PyE e p u) (h' : PyE e2 p u') (q : PyQ p) (hn : u ≤ 63) (hn' : u' ≤ 63) (h0 : Rf (f σ) m0 (eLs o e)) (h1 : Rf (k σ) (.ok t) e2) : Rf (eMt .lstIndex f (aC k aN) σ) (m0.bind fun s => lixT s t) D.int := rf_lidx h h' q hn hn' h0 h1
theorem rf_lidx_mm [DecidableEq α] {e2 : α → D} {p : α → PyData} {u u' : Nat} {o : Bool} {m0 : R (List α)} {m1 : R (α)} (h : PyE e p u) (h' : PyE e2 p u') (q : PyQ p) (hn : u ≤ 63) (hn' : u' ≤ 63) (h0 : Rf (f σ) m0 (eLs o e)) (h1 : Rf (k σ) m1 e2) : Rf (eMt .lstIndex f (aC k aN) σ) (m0.bind fun s => m1.bind fun t => lixT s t) D.int := rf_lidx h h' q hn hn' h0 h1
theorem rf_join_pp {o : Bool} {s : St} {t : List St}  (h0 : Rf (f σ) (.ok s) eSt) (h1 : Rf (k σ) (.ok t) (eLs o eSt)) : Rf (eMt .join f (aC k aN) σ) (joT s t) eSt := rf_join  h0 h1
theorem rf_join_pm {o : Bool} {s : St} {m1 : R (List St)}  (h0 : Rf (f σ) (.ok s) eSt) (h1 : Rf (k σ) m1 (eLs o eSt)) : Rf (eMt .join f (aC k aN) σ) (m1.bind fun t => joT s t) eSt := rf_join  h0 h1
theorem rf_join_mp {o : Bool} {m0 : R (St)} {t : List St}  (h0 : Rf (f σ) m0 eSt) (h1 : Rf (k σ) (.ok t) (eLs o eSt)) : Rf (eMt .join f (aC k aN) σ) (m0.bind fun s => joT s t) eSt := rf_join  h0 h1
theorem rf_join_mm {o : Bool} {m0 : R (St)} {m1 : R (List St)}  (h0 : Rf (f σ) m0 eSt) (h1 : Rf (k σ) m1 (eLs o eSt)) : Rf (eMt .join f (aC k aN) σ) (m0.bind fun s => m1.bind fun t => joT s t) eSt := rf_join  h0 h1
theorem rf_ix2_0_p {e1 : α → D} {e2 : β → D} {p : α × β}  (h0 : Rf (f σ) (.ok p) (eT2 e1 e2)) : Rf (eIx f (eK (.int 0)) σ) (.ok (p.1)) e1 := rf_ix2_0  h0
theorem rf_ix2_0_m {e1 : α → D} {e2 : β → D} {m0 : R (α × β)}  (h0 : Rf (f σ) m0 (eT2 e1 e2)) : Rf (eIx f (eK (.int 0)) σ) (m0.bind fun p => .ok (p.1)) e1 := rf_ix2_0  h0
theorem rf_ix2_1_p {e1 : α → D} {e2 : β → D} {p : α × β}  (h0 : Rf (f σ) (.ok p) (eT2 e1 e2)) : Rf (eIx f (eK (.int 1)) σ) (.ok (p.2)) e2 := rf_ix2_1  h0
theorem rf_ix2_1_m {e1 : α → D} {e2 : β → D} {m0 : R (α × β)}  (h0 : Rf (f σ) m0 (eT2 e1 e2)) : Rf (eIx f (eK (.int 1)) σ) (m0.bind fun p => .ok (p.2)) e2 := rf_ix2_1  h0
theorem rf_ix3_0_p {e1 : α → D} {e2 : β → D} {e3 : γ → D} {p : α × β × γ}  (h0 : Rf (f σ) (.ok p) (eT3 e1 e2 e3)) : Rf (eIx f (eK (.int 0)) σ) (.ok (p.1)) e1 := rf_ix3_0  h0
theorem rf_ix3_0_m {e1 : α → D} {e2 : β → D} {e3 : γ → D} {m0 : R (α × β × γ)}  (h0 : Rf (f σ) m0 (eT3 e1 e2 e3)) : Rf (eIx f (eK (.int 0)) σ) (m0.bind fun p => .ok (p.1)) e1 := rf_ix3_0  h0
theorem rf_ix3_1_p {e1 : α → D} {e2 : β → D} {e3 : γ → D} {p : α × β × γ}  (h0 : Rf (f σ) (.ok p) (eT3 e1 e2 e3)) : Rf (eIx f (eK (.int 1)) σ) (.ok (p.2.1)) e2 := rf_ix3_1  h0
theorem rf_ix3_1_m {e1 : α → D} {e2 : β → D} {e3 : γ → D} {m0 : R (α × β × γ)}  (h0 : Rf (f σ) m0 (eT3 e1 e2 e3)) : Rf (eIx f (eK (.int 1)) σ) (m0.bind fun p => .ok (p.2.1)) e2 := rf_ix3_1  h0
theorem rf_ix3_2_p {e1 : α → D} {e2 : β → D} {e3 : γ → D} {p : α × β × γ}  (h0 : Rf (f σ) (.ok p) (eT3 e1 e2 e3)) : Rf (eIx f (eK (.int 2)) σ) (.ok (p.2.2)) e3 := rf_ix3_2  h0
theorem rf_ix3_2_m {e1 : α → D} {e2 : β → D} {e3 : γ → D} {m0 : R (α × β × γ)}  (h0 : Rf (f σ) m0 (eT3 e1 e2 e3)) : Rf (eIx f (eK (.int 2)) σ) (m0.bind fun p => .ok (p.2.2)) e3 := rf_ix3_2  h0
theorem rf_ix4_0_p {e1 : α → D} {e2 : β → D} {e3 : γ → D} {e4 : δ → D} {p : α × β × γ × δ}  (h0 : Rf (f σ) (.ok p) (eT4 e1 e2 e3 e4)) : Rf (eIx f (eK (.int 0)) σ) (.ok (p.1)) e1 := rf_ix4_0  h0
theorem rf_ix4_0_m {e1 : α → D} {e2 : β → D} {e3 : γ → D} {e4 : δ → D} {m0 : R (α × β × γ × δ)}  (h0 : Rf (f σ) m0 (eT4 e1 e2 e3 e4)) : Rf (eIx f (eK (.int 0)) σ) (m0.bind fun p => .ok (p.1)) e1 := rf_ix4_0  h0
theorem rf_ix4_1_p {e1 : α → D} {e2 : β → D} {e3 : γ → D} {e4 : δ → D} {p : α × β × γ × δ}  (h0 : Rf (f σ) (.ok p) (eT4 e1 e2 e3 e4)) : Rf (eIx f (eK (.int 1)) σ) (.ok (p.2.1)) e2 := rf_ix4_1  h0
theorem rf_ix4_1_m {e1 : α → D} {e2 : β → D} {e3 : γ → D} {e4 : δ → D} {m0 : R (α × β × γ × δ)}  (h0 : Rf (f σ) m0 (eT4 e1 e2 e3 e4)) : Rf (eIx f (eK (.int 1)) σ) (m0.bind fun p => .ok (p.2.1)) e2 := rf_ix4_1  h0
theorem rf_ix4_2_p {e1 : α → D} {e2 : β → D} {e3 : γ → D} {e4 : δ → D} {p : α × β × γ × δ}  (h0 : Rf (f σ) (.ok p) (eT4 e1 e2 e3 e4)) : Rf (eIx f (eK (.int 2)) σ) (.ok (p.2.2.1)) e3 := rf_ix4_2  h0
theorem rf_ix4_2_m {e1 : α → D} {e2 : β → D} {e3 : γ → D} {e4 : δ → D} {m0 : R (α × β × γ × δ)}  (h0 : Rf (f σ) m0 (eT4 e1 e2 e3 e4)) : Rf (eIx f (eK (.int 2)) σ) (m0.bind fun p => .ok (p.2.2.1)) e3 := rf_ix4_2  h0
theorem rf_ix4_3_p {e1 : α → D} {e2 : β → D} {e3 : γ → D} {e4 : δ → D} {p : α × β × γ × δ}  (h0 : Rf (f σ) (.ok p) (eT4 e1 e2 e3 e4)) : Rf (eIx f (eK (.int 3)) σ) (.ok (p.2.2.2)) e4 := rf_ix4_3  h0
theorem rf_ix4_3_m {e1 : α → D} {e2 : β → D} {e3 : γ → D} {e4 : δ → D} {m0 : R (α × β × γ × δ)}  (h0 : Rf (f σ) m0 (eT4 e1 e2 e3 e4)) : Rf (eIx f (eK (.int 3)) σ) (m0.bind fun p => .ok (p.2.2.2)) e4 := rf_ix4_3  h0
theorem rf_ix5_0_p {e1 : α → D} {e2 : β → D} {e3 : γ → D} {e4 : δ → D} {e5 : ε → D} {p : α × β × γ × δ × ε}  (h0 : Rf (f σ) (.ok p) (eT5 e1 e2 e3 e4 e5)) : Rf (eIx f (eK (.int 0)) σ) (.ok (p.1)) e1 := rf_ix5_0  h0
theorem rf_ix5_0_m {e1 : α → D} {e2 : β → D} {e3 : γ → D} {e4 : δ → D} {e5 : ε → D} {m0 : R (α × β × γ × δ × ε)}  (h0 : Rf (f σ) m0 (eT5 e1 e2 e3 e4 e5)) : Rf (eIx f (eK (.int 0)) σ) (m0.bind fun p => .ok (p.1)) e1 := rf_ix5_0  h0
theorem rf_ix5_1_p {e1 : α → D} {e2 : β → D} {e3 : γ → D} {e4 : δ → D} {e5 : ε → D} {p : α × β × γ × δ × ε}  (h0 : Rf (f σ) (.ok p) (eT5 e1 e2 e3 e4 e5)) : Rf (eIx f (eK (.int 1)) σ) (.ok (p.2.1)) e2 := rf_ix5_1  h0
theorem rf_ix5_1_m {e1 : α → D} {e2 : β → D} {e3 : γ → D} {e4 : δ → D} {e5 : ε → D} {m0 : R (α × β × γ × δ × ε)}  (h0 : Rf (f σ) m0 (eT5 e1 e2 e3 e4 e5)) : Rf (eIx f (eK (.int 1)) σ) (m0.bind fun p => .ok (p.2.1)) e2 := rf_ix5_1  h0
theorem rf_ix5_2_p {e1 : α → D} {e2 : β → D} {e3 : γ → D} {e4 : δ → D} {e5 : ε → D} {p : α × β × γ × δ × ε}  (h0 : Rf (f σ) (.ok p) (eT5 e1 e2 e3 e4 e5)) : Rf (eIx f (eK (.int 2)) σ) (.ok (p.2.2.1)) e3 := rf_ix5_2  h0
theorem rf_ix5_2_m {e1 : α → D} {e2 : β → D} {e3 : γ → D} {e4 : δ → D} {e5 : ε → D} {m0 : R (α × β × γ × δ × ε)}  (h0 : Rf (f σ) m0 (eT5 e1 e2 e3 e4 e5)) : Rf (eIx f (eK (.int 2)) σ) (m0.bind fun p => .ok (p.2.2.1)) e3 := rf_ix5_2  h0
theorem rf_ix5_3_p {e1 : α → D} {e2 : β → D} {e3 : γ → D} {e4 : δ → D} {e5 : ε → D} {p : α × β × γ × δ × ε}  (h0 : Rf (f σ) (.ok p) (eT5 e1 e2 e3 e4 e5)) : Rf (eIx f (eK (.int 3)) σ) (.ok (p.2.2.2.1)) e4 := rf_ix5_3  h0
theorem rf_ix5_3_m {e1 : α → D} {e2 : β → D} {e3 : γ → D} {e4 : δ → D} {e5 : ε → D} {m0 : R (α × β × γ × δ × ε)}  (h0 : Rf (f σ) m0 (eT5 e1 e2 e3 e4 e5)) : Rf (eIx f (eK (.int 3)) σ) (m0.bind fun p => .ok (p.2.2.2.1)) e4 := rf_ix5_3  h0
theorem rf_ix5_4_p {e1 : α → D} {e2 : β → D} {e3 : γ → D} {e4 : δ → D} {e5 : ε → D} {p : α × β × γ × δ × ε}  (h0 : Rf (f σ) (.ok p) (eT5 e1 e2 e3 e4 e5)) : Rf (eIx f (eK (.int 4)) σ) (.ok (p.2.2.2.2)) e5 := rf_ix5_4  h0
theorem rf_ix5_4_m {e1 : α → D} {e2 : β → D} {e3 : γ → D} {e4 : δ → D} {e5 : ε → D} {m0 : R (α × β × γ × δ × ε)}  (h0 : Rf (f σ) m0 (eT5 e1 e2 e3 e4 e5)) : Rf (eIx f (eK (.int 4)) σ) (m0.bind fun p => .ok (p.2.2.2.2)) e5 := rf_ix5_4  h0
theorem rf_sl3_1_p {e1 : α → D} {e2 : β → D} {e3 : γ → D} {p : α × β × γ} (c1 : Cl e1) (c2 : Cl e2) (c3 : Cl e3) (h0 : Rf (f σ) (.ok p) (eT3 e1 e2 e3)) : Rf (eSl f false (eK (.int 1)) true (eK .non) σ) (.ok (p.2)) (eT2 e2 e3) := rf_sl3_1 c1 c2 c3 h0
theorem rf_sl3_1_m {e1 : α → D} {e2 : β → D} {e3 : γ → D} {m0 : R (α × β × γ)} (c1 : Cl e1) (c2 : Cl e2) (c3 : Cl e3) (h0 : Rf (f σ) m0 (eT3 e1 e2 e3)) : Rf (eSl f false (eK (.int 1)) true (eK .non) σ) (m0.bind fun p => .ok (p.2)) (eT2 e2 e3) := rf_sl3_1 c1 c2 c3 h0
theorem rf_cat12_pp {e1 : α → D} {e2 : β → D} {e3 : γ → D} {a : α} {p : β × γ} (c1 : Cl e1) (c2 : Cl e2) (c3 : Cl e3) (h0 : Rf (f σ) (.ok a) (eT1 e1)) (h1 : Rf (k σ) (.ok p) (eT2 e2 e3)) : Rf (eB .add f k σ) (.ok ((a, p))) (eT3 e1 e2 e3) := rf_cat12 c1 c2 c3 h0 h1
theorem rf_cat12_pm {e1 : α → D} {e2 : β → D} {e3 : γ → D} {a : α} {m1 : R (β × γ)} (c1 : Cl e1) (c2 : Cl e2) (c3 : Cl e3) (h0 : Rf (f σ) (.ok a) (eT1 e1)) (h1 : Rf (k σ) m1 (eT2 e2 e3)) : Rf (eB .add f k σ) (m1.bind fun p => .ok ((a, p))) (eT3 e1 e2 e3) := rf_cat12 c1 c2 c3 h0 h1
theorem rf_cat12_mp {e1 : α → D} {e2 : β → D} {e3 : γ → D} {m0 : R (α)} {p : β × γ} (c1 : Cl e1) (c2 : Cl e2) (c3 : Cl e3) (h0 : Rf (f σ) m0 (eT1 e1)) (h1 : Rf (k σ) (.ok p) (eT2 e2 e3)) : Rf (eB .add f k σ) (m0.bind fun a => .ok ((a, p))) (eT3 e1 e2 e3) := rf_cat12 c1 c2 c3 h0 h1
theorem rf_cat12_mm {e1 : α → D} {e2 : β → D} {e3 : γ → D} {m0 : R (α)} {m1 : R (β × γ)} (c1 : Cl e1) (c2 : Cl e2) (c3 : Cl e3) (h0 : Rf (f σ) m0 (eT1 e1)) (h1 : Rf (k σ) m1 (eT2 e2 e3)) : Rf (eB .add f k σ) (m0.bind fun a => m1.bind fun p => .ok ((a, p))) (eT3 e1 e2 e3) := rf_cat12 c1 c2 c3 h0 h1
theorem ri_r1_p  {n : Int}  (h0 : Rf (f σ) (.ok n) D.int) : Ri (iR1 (aC f aN) σ) (rngT n) D.int := ri_r1  h0
theorem ri_r1_m  {m0 : R (Int)}  (h0 : Rf (f σ) m0 D.int) : Ri (iR1 (aC f aN) σ) (m0.bind fun n => rngT n) D.int := ri_r1  h0
theorem ri_r2_pp  {i : Int} {j : Int}  (h0 : Rf (f σ) (.ok i) D.int) (h1 : Rf (k σ) (.ok j) D.int) : Ri (iR2 (aC f (aC k aN)) σ) (rng2T i j) D.int := ri_r2  h0 h1
theorem ri_r2_pm  {i : Int} {m1 : R (Int)}  (h0 : Rf (f σ) (.ok i) D.int) (h1 : Rf (k σ) m1 D.int) : Ri (iR2 (aC f (aC k aN)) σ) (m1.bind fun j => rng2T i j) D.int := ri_r2  h0 h1
theorem ri_r2_mp  {m0 : R (Int)} {j : Int}  (h0 : Rf (f σ) m0 D.int) (h1 : Rf (k σ) (.ok j) D.int) : Ri (iR2 (aC f (aC k aN)) σ) (m0.bind fun i => rng2T i j) D.int := ri_r2  h0 h1
theorem ri_r2_mm  {m0 : R (Int)} {m1 : R (Int)}  (h0 : Rf (f σ) m0 D.int) (h1 : Rf (k σ) m1 D.int) : Ri (iR2 (aC f (aC k aN)) σ) (m0.bind fun i => m1.bind fun j => rng2T i j) D.int := ri_r2  h0 h1
theorem ri_L_p {o : Bool} {xs : List α} (c : Cl e) (h0 : Rf (f σ) (.ok xs) (eLs o e)) : Ri (iSeq' f σ) (.ok (xs)) e := ri_L c h0
theorem ri_L_m {o : Bool} {m0 : R (List α)} (c : Cl e) (h0 : Rf (f σ) m0 (eLs o e)) : Ri (iSeq' f σ) (m0.bind fun xs => .ok (xs)) e := ri_L c h0
theorem ri_Q_p  {xs : List α} (c : Cl e) (h0 : Rf (f σ) (.ok xs) (eSq e)) : Ri (iSeq' f σ) (.ok (xs)) e := ri_Q c h0
theorem ri_Q_m  {m0 : R (List α)} (c : Cl e) (h0 : Rf (f σ) m0 (eSq e)) : Ri (iSeq' f σ) (m0.bind fun xs => .ok (xs)) e := ri_Q c h0
theorem ri_S_p  {xs : St}  (h0 : Rf (f σ) (.ok xs) eSt) : Ri (iSeq' f σ) (.ok (xs)) eCh := ri_S  h0
theorem ri_S_m  {m0 : R (St)}  (h0 : Rf (f σ) m0 eSt) : Ri (iSeq' f σ) (m0.bind fun xs => .ok (xs)) eCh := ri_S  h0
theorem ri_enL_p {o : Bool} {xs : List α} (c : Cl e) (h0 : Rf (f σ) (.ok xs) (eLs o e)) : Ri (iEn (aC f aN) σ) (.ok (enT 0 xs)) (eT2 D.int e) := ri_enL c h0
theorem ri_enL_m {o : Bool} {m0 : R (List α)} (c : Cl e) (h0 : Rf (f σ) m0 (eLs o e)) : Ri (iEn (aC f aN) σ) (m0.bind fun xs => .ok (enT 0 xs)) (eT2 D.int e) := ri_enL c h0
theorem ri_enQ_p  {xs : List α} (c : Cl e) (h0 : Rf (f σ) (.ok xs) (eSq e)) : Ri (iEn (aC f aN) σ) (.ok (enT 0 xs)) (eT2 D.int e) := ri_enQ c h0
theorem ri_enQ_m  {m0 : R (List α)} (c : Cl e) (h0 : Rf (f σ) m0 (eSq e)) : Ri (iEn (aC f aN) σ) (m0.bind fun xs => .ok (enT 0 xs)) (eT2 D.int e) := ri_enQ c h0
theorem ri_enS_p  {xs : St}  (h0 : Rf (f σ) (.ok xs) eSt) : Ri (iEn (aC f aN) σ) (.ok (enT 0 xs)) (eT2 D.int eCh) := ri_enS  h0
theorem ri_enS_m  {m0 : R (St)}  (h0 : Rf (f σ) m0 eSt) : Ri (iEn (aC f aN) σ) (m0.bind fun xs => .ok (enT 0 xs)) (eT2 D.int eCh) := ri_enS  h0
theorem ri_zL_pp {o o' : Bool} {xs : List α} {ys : List β} (c : Cl e) (c' : Cl e') (h0 : Rf (f σ) (.ok xs) (eLs o e)) (h1 : Rf (k σ) (.ok ys) (eLs o' e')) : Ri (iZ (aC f (aC k aN)) σ) (.ok (xs.zip ys)) (eT2 e e') := ri_zL c c' h0 h1
theorem ri_zL_pm {o o' : Bool} {xs : List α} {m1 : R (List β)} (c : Cl e) (c' : Cl e') (h0 : Rf (f σ) (.ok xs) (eLs o e)) (h1 : Rf (k σ) m1 (eLs o' e')) : Ri (iZ (aC f (aC k aN)) σ) (m1.bind fun ys => .ok (xs.zip ys)) (eT2 e e') := ri_zL c c' h0 h1
theorem ri_zL_mp {o o' : Bool} {m0 : R (List α)} {ys : List β} (c : Cl e) (c' : Cl e') (h0 : Rf (f σ) m0 (eLs o e)) (h1 : Rf (k σ) (.ok ys) (eLs o' e')) : Ri (iZ (aC f (aC k aN)) σ) (m0.bind fun xs => .ok (xs.zip ys)) (eT2 e e') := ri_zL c c' h0 h1
theorem ri_zL_mm {o o' : Bool} {m0 : R (List α)} {m1 : R (List β)} (c : Cl e) (c' : Cl e') (h0 : Rf (f σ) m0 (eLs o e)) (h1 : Rf (k σ) m1 (eLs o' e')) : Ri (iZ (aC f (aC k aN)) σ) (m0.bind fun xs => m1.bind fun ys => .ok (xs.zip ys)) (eT2 e e') := ri_zL c c' h0 h1
theorem ri_zQ_pp  {xs : List α} {ys : List β} (c : Cl e) (c' : Cl e') (h0 : Rf (f σ) (.ok xs) (eSq e)) (h1 : Rf (k σ) (.ok ys) (eSq e')) : Ri (iZ (aC f (aC k aN)) σ) (.ok (xs.zip ys)) (eT2 e e') := ri_zQ c c' h0 h1
theorem ri_zQ_pm  {xs : List α} {m1 : R (List β)} (c : Cl e) (c' : Cl e') (h0 : Rf (f σ) (.ok xs) (eSq e)) (h1 : Rf (k σ) m1 (eSq e')) : Ri (iZ (aC f (aC k aN)) σ) (m1.bind fun ys => .ok (xs.zip ys)) (eT2 e e') := ri_zQ c c' h0 h1
theorem ri_zQ_mp  {m0 : R (List α)} {ys : List β} (c : Cl e) (c' : Cl e') (h0 : Rf (f σ) m0 (eSq e)) (h1 : Rf (k σ) (.ok ys) (eSq e')) : Ri (iZ (aC f (aC k aN)) σ) (m0.bind fun xs => .ok (xs.zip ys)) (eT2 e e') := ri_zQ c c' h0 h1
theorem ri_zQ_mm  {m0 : R (List α)} {m1 : R (List β)} (c : Cl e) (c' : Cl e') (h0 : Rf (f σ) m0 (eSq e)) (h1 : Rf (k σ) m1 (eSq e')) : Ri (iZ (aC f (aC k aN)) σ) (m0.bind fun xs => m1.bind fun ys => .ok (xs.zip ys)) (eT2 e e') := ri_zQ c c' h0 h1
/-! others -/
theorem rf_wid_p {r : R D} {a : α} (w : α → β) (h : Rf r (.ok a) e) (hw : Wd e e' w) : Rf r (.ok (w a)) e' := Rf.wid w h hw
theorem rf_wid_m {r : R D} {m : R α} (w : α → β) (h : Rf r m e) (hw : Wd e e' w) : Rf r (m.bind fun u => .ok (w u)) e' := Rf.wid w h hw
theorem rf_nar_p {r : R D} {a : α} (w : α → R β) (h : Rf r (.ok a) e) (hw : Nw e e' w) : Rf r (w a) e' := Rf.nar w h hw
theorem rf_nar_m {r : R D} {m : R α} (w : α → R β) (h : Rf r m e) (hw : Nw e e' w) : Rf r (m.bind w) e' := Rf.nar w h hw
theorem rf_and_p {i : Bool} {n : R Bool} (h : Rf (f σ) (.ok i) D.bl) (h2 : Rf (k σ) n D.bl) : Rf (eAnd f k σ) (if i = true then n else .ok false) D.bl := rf_and h h2
theorem rf_and_m {m n : R Bool} (h : Rf (f σ) m D.bl) (h2 : Rf (k σ) n D.bl) : Rf (eAnd f k σ) (m.bind fun i => if i = true then n else .ok false) D.bl := rf_and h h2
theorem rf_or_p {i : Bool} {n : R Bool} (h : Rf (f σ) (.ok i) D.bl) (h2 : Rf (k σ) n D.bl) : Rf (eOr f k σ) (if i = true then .ok true else n) D.bl := rf_or h h2
theorem rf_or_m {m n : R Bool} (h : Rf (f σ) m D.bl) (h2 : Rf (k σ) n D.bl) : Rf (eOr f k σ) (m.bind fun i => if i = true then .ok true else n) D.bl := rf_or h h2
theorem rf_andP_p {i b : Bool} (h : Rf (f σ) (.ok i) D.bl) (h2 : Rf (k σ) (.ok b) D.bl) : Rf (eAnd f k σ) (.ok (i && b)) D.bl := rf_andP h h2
theorem rf_andP_m {m : R Bool} {b : Bool} (h : Rf (f σ) m D.bl) (h2 : Rf (k σ) (.ok b) D.bl) : Rf (eAnd f k σ) (m.bind fun i => .ok (i && b)) D.bl := rf_andP h h2
theorem rf_orP_p {i b : Bool} (h : Rf (f σ) (.ok i) D.bl) (h2 : Rf (k σ) (.ok b) D.bl) : Rf (eOr f k σ) (.ok (i || b)) D.bl := rf_orP h h2
theorem rf_orP_m {m : R Bool} {b : Bool} (h : Rf (f σ) m D.bl) (h2 : Rf (k σ) (.ok b) D.bl) : Rf (eOr f k σ) (m.bind fun i => .ok (i || b)) D.bl := rf_orP h h2
theorem rf_if_p {c : Sl → R D} {b : Bool} {m n : R α} (h : Rf (c σ) (.ok b) D.bl) (h1 : Rf (f σ) m e) (h2 : Rf (k σ) n e) : Rf (eIf c f k σ) (if b = true then m else n) e := rf_if h h1 h2
theorem rf_if_m {c : Sl → R D} {b : R Bool} {m n : R α} (h : Rf (c σ) b D.bl) (h1 : Rf (f σ) m e) (h2 : Rf (k σ) n e) : Rf (eIf c f k σ) (b.bind fun i => if i = true then m else n) e := rf_if h h1 h2
theorem rf_ifP_p {c : Sl → R D} {b : Bool} {x y : α} (h : Rf (c σ) (.ok b) D.bl) (h1 : Rf (f σ) (.ok x) e) (h2 : Rf (k σ) (.ok y) e) : Rf (eIf c f k σ) (.ok (if b = true then x else y)) e := rf_ifP h h1 h2
theorem rf_ifP_m {c : Sl → R D} {b : R Bool} {x y : α} (h : Rf (c σ) b D.bl) (h1 : Rf (f σ) (.ok x) e) (h2 : Rf (k σ) (.ok y) e) : Rf (eIf c f k σ) (b.bind fun i => .ok (if i = true then x else y)) e := rf_ifP h h1 h2
theorem rf_cm_p {vs : List Nat} {p : Pat} {fi : Sl → R (List D)} {fe : Sl → R D} {xs : List α} {F : α → R β} (hi : Ri (fi σ) (.ok xs) e) (hb : ∀ x, ∃ σ1, bindP (wipeL σ vs) p (e x) = .ok σ1 ∧ Rf (fe σ1) (F x) e') : Rf (eComp vs p fi eT fe σ) (cmT xs F) (eLs true e') := rf_cm hi hb
theorem rf_cm_m {vs : List Nat} {p : Pat} {fi : Sl → R (List D)} {fe : Sl → R D} {m : R (List α)} {F : α → R β} (hi : Ri (fi σ) m e) (hb : ∀ x, ∃ σ1, bindP (wipeL σ vs) p (e x) = .ok σ1 ∧ Rf (fe σ1) (F x) e') : Rf (eComp vs p fi eT fe σ) (m.bind fun xs => cmT xs F) (eLs true e') := rf_cm hi hb
theorem rf_cf_p {vs : List Nat} {p : Pat} {fi : Sl → R (List D)} {fc fe : Sl → R D} {xs : List α} {C : α → R Bool} {F : α → R β} (hi : Ri (fi σ) (.ok xs) e) (hb : ∀ x, ∃ σ1, bindP (wipeL σ vs) p (e x) = .ok σ1 ∧ Rf (fc σ1) (C x) D.bl ∧ Rf (fe σ1) (F x) e') : Rf (eComp vs p fi fc fe σ) (cfT xs C F) (eLs true e') := rf_cf hi hb
theorem rf_cf_m {vs : List Nat} {p : Pat} {fi : Sl → R (List D)} {fc fe : Sl → R D} {m : R (List α)} {C : α → R Bool} {F : α → R β} (hi : Ri (fi σ) m e) (hb : ∀ x, ∃ σ1, bindP (wipeL σ vs) p (e x) = .ok σ1 ∧ Rf (fc σ1) (C x) D.bl ∧ Rf (fe σ1) (F x) e') : Rf (eComp vs p fi fc fe σ) (m.bind fun xs => cfT xs C F) (eLs true e') := rf_cf hi hb
theorem rl_consP {a : α} {as : List α} (h : Rf (f σ) (.ok a) e) (h2 : Rl (k σ) (.ok as) e) : Rl (aC f k σ) (.ok (a :: as)) e := rl_cons h h2
theorem rf_slL_p {o : Bool} {nb nc : Bool} {xs : List α} {lo hi : Option Int} (c : Cl e) (h : Rf (f σ) (.ok xs) (eLs o e)) (h1 : (k σ).bind (fun l' => partD (if nb = true then none else some l')) = .ok lo) (h2 : (l σ).bind (fun l' => partD (if nc = true then none else some l')) = .ok hi) : Rf (eSl f nb k nc l σ) (.ok (cutL xs lo hi)) (eLs true e) := rf_slL (lo := .ok lo) (hi := .ok hi) c h (fun i q => h1.trans q) (fun i q => h2.trans q) ne_no ne_no
theorem rf_slL_m {o : Bool} {nb nc : Bool} {m : R (List α)} {lo hi : Option Int} (c : Cl e) (h : Rf (f σ) m (eLs o e)) (h1 : (k σ).bind (fun l' => partD (if nb = true then none else some l')) = .ok lo) (h2 : (l σ).bind (fun l' => partD (if nc = true then none else some l')) = .ok hi) : Rf (eSl f nb k nc l σ) (m.bind fun xs => .ok (cutL xs lo hi)) (eLs true e) := rf_slL (lo := .ok lo) (hi := .ok hi) c h (fun i q => h1.trans q) (fun i q => h2.trans q) ne_no ne_no
theorem rf_slQ_p {nb nc : Bool} {xs : List α} {lo hi : Option Int} (c : Cl e) (h : Rf (f σ) (.ok xs) (eSq e)) (h1 : (k σ).bind (fun l' => partD (if nb = true then none else some l')) = .ok lo) (h2 : (l σ).bind (fun l' => partD (if nc = true then none else some l')) = .ok hi) : Rf (eSl f nb k nc l σ) (.ok (cutL xs lo hi)) (eSq e) := rf_slQ (lo := .ok lo) (hi := .ok hi) c h (fun i q => h1.trans q) (fun i q => h2.trans q) ne_no ne_no
theorem rf_slQ_m {nb nc : Bool} {m : R (List α)} {lo hi : Option Int} (c : Cl e) (h : Rf (f σ) m (eSq e)) (h1 : (k σ).bind (fun l' => partD (if nb = true then none else some l')) = .ok lo) (h2 : (l σ).bind (fun l' => partD (if nc = true then none else some l')) = .ok hi) : Rf (eSl f nb k nc l σ) (m.bind fun xs => .ok (cutL xs lo hi)) (eSq e) := rf_slQ (lo := .ok lo) (hi := .ok hi) c h (fun i q => h1.trans q) (fun i q => h2.trans q) ne_no ne_no
theorem rf_slS_p {nb nc : Bool} {xs : St} {lo hi : Option Int} (h : Rf (f σ) (.ok xs) eSt) (h1 : (k σ).bind (fun l' => partD (if nb = true then none else some l')) = .ok lo) (h2 : (l σ).bind (fun l' => partD (if nc = true then none else some l')) = .ok hi) : Rf (eSl f nb k nc l σ) (szT xs.length (cutL xs lo hi)) eSt := rf_slS (lo := .ok lo) (hi := .ok hi) h (fun i q => h1.trans q) (fun i q => h2.trans q) ne_no ne_no
theorem rf_slS_m {nb nc : Bool} {m : R (St)} {lo hi : Option Int} (h : Rf (f σ) m eSt) (h1 : (k σ).bind (fun l' => partD (if nb = true then none else some l')) = .ok lo) (h2 : (l σ).bind (fun l' => partD (if nc = true then none else some l')) = .ok hi) : Rf (eSl f nb k nc l σ) (m.bind fun xs => szT xs.length (cutL xs lo hi)) eSt := rf_slS (lo := .ok lo) (hi := .ok hi) h (fun i q => h1.trans q) (fun i q => h2.trans q) ne_no ne_no
theorem sl_noP {k : Sl → R D} (hk : k σ = .ok .non) : (k σ).bind (fun l' => partD (if true = true then none else some l')) = .ok none := by rw [hk]; rfl
theorem sl_yesP {i : Int} (hk : Rf (k σ) (.ok i) D.int) : (k σ).bind (fun l' => partD (if false = true then none else some l')) = .ok (some i) := by
  rw [show k σ = .ok (.int i) from hk]; rfl
theorem sl_lift {γ : Type} {m : R Int} {e3 : γ → D} {M : Int → R γ} {r : R D} (hk : Rf (k σ) m D.int) (h : ∀ i, Rf (k σ) (.ok i) D.int → Rf r (M i) e3) (he : ∀ c fs, m = .err c fs → Rf r (.err c fs : R γ) e3) : Rf r (m.bind M) e3 := by
  cases m with
  | ok i => exact h i hk
  | err c fs => exact he c fs rfl
  | bad => exact True.intro
end
end DI
/-! TL, refusals -/
namespace DI
open PySem
section
variable {α β γ S S' L : Type} {σ : Sl} {f k : Sl → R D} {e : α → D} {e' : β → D} {I : S → Sl → Prop} {J : L → Sl → Prop} {E : Sl → Prop} {K F G : SF}
theorem g_raise1 {c : Nat} {m : R β} (cl : Cl e') (nf : Nf e') (h : Rf (f σ) m e') (hE : E σ) : Gs I J E e ((sRaise c (aC f aN) σ).andThen K) (bnd m fun a => (O.er c [e' a] : O S L α)) := by
  have q : sRaise c (aC f aN) σ = rS (f σ) σ fun x => if (cleanL [x] && noFrzL [x]) = true then .er c [x] σ else .bad := by
    unfold sRaise
    simp only [u_aC, u_aN, R.bind_ok, tupOf_tup]
    cases f σ <;> rfl
  rw [q]
  refine g_val h hE fun a => ?_
  rw [if_pos (by simp [cl a, nf a])]
  exact ⟨σ, rfl, hE⟩
theorem g_raise2 {c : Nat} {m : R β} {n : R γ} {e2 : γ → D} (cl : Cl e') (nf : Nf e') (cl2 : Cl e2) (nf2 : Nf e2) (h : Rf (f σ) m e') (h2 : Rf (k σ) n e2) (hE : E σ) : Gs I J E e ((sRaise c (aC f (aC k aN)) σ).andThen K) (bnd m fun a => bnd n fun b => (O.er c [e2 b, e' a] : O S L α)) := by
  have q : sRaise c (aC f (aC k aN)) σ = rS (f σ) σ fun x => rS (k σ) σ fun y => if (cleanL [x, y] && noFrzL [x, y]) = true then .er c [y, x] σ else .bad := by
    unfold sRaise
    simp only [u_aC, u_aN, R.bind_ok, tupOf_tup]
    cases f σ with
    | ok x => cases k σ <;> rfl
    | err _ _ => rfl
    | bad => rfl
  rw [q]
  refine g_val h hE fun a => ?_
  refine g_val h2 hE fun b => ?_
  rw [if_pos (by simp [cl a, nf a, cl2 b, nf2 b])]
  exact ⟨σ, rfl, hE⟩
theorem g_raise0 {c : Nat} (hE : E σ) : Gs I J E e ((sRaise0 c σ).andThen K) (O.er c [] : O S L α) := ⟨σ, rfl, hE⟩
def tryT (m : O S L α) (k y : Nat → Bool) (h : Nat → List D → O S L α) : O S L α :=
  match m with
  | .er c fs => if k c = true then (if y c = true then (match h c fs with
    | .er _ _ => .bad
    | r => r) else .bad) else .er c fs
  | r => r
theorem g_try {E' : Sl → Prop} {k y : Nat → Bool} {i : Nat} {m : O S L α} {h : Nat → List D → O S L α} (xe : Xf e) (hb : Gs I J E' e (F σ) m) (hE : ∀ σ, E' σ → E σ) (hI : ∀ s σ, I s σ → I s (clearX (σ.set i none))) (hJ : ∀ s σ, J s σ → J s (clearX (σ.set i none)))
    (hh : ∀ c fs σ, E' σ → y c = true → Gs I J (fun _ => True) e (G (σ.set i (some (.obj c fs)))) (h c fs)) : Gs I J E e (sTryA i k y F G σ) (tryT m k y h) := by
  unfold sTryA tryT
  cases m with
  | nx s => obtain ⟨σ', q, i⟩ := hb; rw [q]; exact ⟨σ', rfl, i⟩
  | rt a => rw [show F σ = .rt (e a) from hb]; exact rfl
  | bk l => obtain ⟨σ', q, i⟩ := hb; rw [q]; exact ⟨σ', rfl, i⟩
  | ct l => obtain ⟨σ', q, i⟩ := hb; rw [q]; exact ⟨σ', rfl, i⟩
  | bad => exact True.intro
  | er c fs =>
    obtain ⟨σ', q, ie⟩ := hb
    rw [q]
    simp only
    by_cases hk : k c = true
    · rw [if_pos hk, if_pos hk]
      by_cases hy : y c = true
      · rw [if_pos hy, if_pos hy]
        have g := hh c fs σ' ie hy
        cases hm : h c fs with
        | nx s => rw [hm] at g; obtain ⟨σ2, q2, i2⟩ := g; rw [q2]; exact ⟨_, rfl, hI s σ2 i2⟩
        | rt a => rw [hm] at g; rw [show G _ = .rt (e a) from g]; exact if_pos (xe a)
        | bk l => rw [hm] at g; obtain ⟨σ2, q2, i2⟩ := g; rw [q2]; exact ⟨_, rfl, hJ l σ2 i2⟩
        | ct l => rw [hm] at g; obtain ⟨σ2, q2, i2⟩ := g; rw [q2]; exact ⟨_, rfl, hJ l σ2 i2⟩
        | er c' fs' => exact True.intro
        | bad => exact True.intro
      · rw [if_neg hy, if_neg hy]; exact True.intro
    · rw [if_neg hk, if_neg hk]; exact ⟨σ', rfl, hE σ' ie⟩
theorem g_tryO {E' : Sl → Prop} {k y : Nat → Bool} {m : O S L α} {h : Nat → List D → O S L α} (xe : Xf e) (hb : Gs I J E' e (F σ) m) (hE : ∀ σ, E' σ → E σ) (hI : ∀ s σ, I s σ → I s (clearX σ)) (hJ : ∀ s σ, J s σ → J s (clearX σ))
    (hh : ∀ c fs σ, E' σ → y c = true → Gs I J (fun _ => True) e (G σ) (h c fs)) : Gs I J E e (sTryO k y F G σ) (tryT m k y h) := by
  unfold sTryO tryT
  cases m with
  | nx s => obtain ⟨σ', q, i⟩ := hb; rw [q]; exact ⟨σ', rfl, i⟩
  | rt a => rw [show F σ = .rt (e a) from hb]; exact rfl
  | bk l => obtain ⟨σ', q, i⟩ := hb; rw [q]; exact ⟨σ', rfl, i⟩
  | ct l => obtain ⟨σ', q, i⟩ := hb; rw [q]; exact ⟨σ', rfl, i⟩
  | bad => exact True.intro
  | er c fs =>
    obtain ⟨σ', q, ie⟩ := hb
    rw [q]
    simp only
    by_cases hk : k c = true
    · rw [if_pos hk, if_pos hk]
      by_cases hy : y c = true
      · rw [if_pos hy, if_pos hy]
        have g := hh c fs σ' ie hy
        cases hm : h c fs with
        | nx s => rw [hm] at g; obtain ⟨σ2, q2, i2⟩ := g; rw [q2]; exact ⟨_, rfl, hI s σ2 i2⟩
        | rt a => rw [hm] at g; rw [show G _ = .rt (e a) from g]; exact if_pos (xe a)
        | bk l => rw [hm] at g; obtain ⟨σ2, q2, i2⟩ := g; rw [q2]; exact ⟨_, rfl, hJ l σ2 i2⟩
        | ct l => rw [hm] at g; obtain ⟨σ2, q2, i2⟩ := g; rw [q2]; exact ⟨_, rfl, hJ l σ2 i2⟩
        | er c' fs' => exact True.intro
        | bad => exact True.intro
      · rw [if_neg hy, if_neg hy]; exact True.intro
    · rw [if_neg hk, if_neg hk]; exact ⟨σ', rfl, hE σ' ie⟩
/-! what a suite asks of the exception -/
def fldT (t : Nat → List Str) (f : Str) (c : Nat) (fs : List D) : R D := if t c ≠ [] then ofR (((t c).zip fs).lookup f) else .bad
theorem rf_xf {t : Nat → List Str} {n : Str} {i c : Nat} {fs : List D} (h : getS σ i = .ok (.obj c fs)) : Rf (eXf t n (eV i) σ) (fldT t n c fs) eDy := by
  unfold eXf
  rw [u_eV, h]
  show Rf (if t c ≠ [] then ofR (((t c).zip fs).lookup n) else .bad) (fldT t n c fs) eDy
  unfold fldT
  by_cases q : t c ≠ []
  · rw [if_pos q]
    cases ((t c).zip fs).lookup n with
    | none => exact True.intro
    | some d => exact rfl
  · rw [if_neg q]; exact True.intro
def isxT (k : Nat → Bool) (c : Nat) : R Bool := if c < 20 then .ok (k c) else .bad
theorem rf_xi {k : Nat → Bool} {i c : Nat} {fs : List D} (h : getS σ i = .ok (.obj c fs)) : Rf (eXi k (eV i) σ) (isxT k c) D.bl := by
  unfold eXi
  rw [u_eV, h]
  show Rf (if c < 20 then .ok (.bl (k c)) else .bad) (isxT k c) D.bl
  unfold isxT
  by_cases q : c < 20
  · rw [if_pos q, if_pos q]; exact rfl
  · rw [if_neg q, if_neg q]; exact True.intro
noncomputable def lrT (n : Int) : R (List Int) := if small62 n = true ∧ n.toNat ≤ sizeLine then .ok (rg 0 n.toNat) else .bad
theorem rf_lr {m : R Int} (h : Rf (f σ) m D.int) : Rf (eLR f σ) (m.bind lrT) (eLs true D.int) := h.bind fun n => .guard id (rf_ok (by rw [rg_map]; rfl))
theorem rf_lr_p {n : Int} (h : Rf (f σ) (.ok n) D.int) : Rf (eLR f σ) (lrT n) (eLs true D.int) := rf_lr h
theorem rf_lr_m {m : R Int} (h : Rf (f σ) m D.int) : Rf (eLR f σ) (m.bind fun n => lrT n) (eLs true D.int) := rf_lr h
end
end DI
/-! TM: laws of the typed run -/
namespace DI
open PySem
section
variable {α β γ S S' L L' : Type}
@[simp] theorem bnd_ok (a : β) (M : β → O S L α) : bnd (.ok a) M = M a := rfl
@[simp] theorem bnd_err (c : Nat) (fs : List D) (M : β → O S L α) : bnd (.err c fs) M = .er c fs := rfl
@[simp] theorem bnd_bad (M : β → O S L α) : bnd .bad M = .bad := rfl
@[simp] theorem thn_nx' (s : S) (M : S → O S' L α) : (O.nx s).thn M = M s := rfl
@[simp] theorem thn_rt' (a : α) (M : S → O S' L α) : (O.rt a : O S L α).thn M = .rt a := rfl
@[simp] theorem thn_bk' (a : L) (M : S → O S' L α) : (O.bk a : O S L α).thn M = .bk a := rfl
@[simp] theorem thn_ct' (a : L) (M : S → O S' L α) : (O.ct a : O S L α).thn M = .ct a := rfl
@[simp] theorem thn_er' (c : Nat) (fs : List D) (M : S → O S' L α) : (O.er c fs : O S L α).thn M = .er c fs := rfl
@[simp] theorem thn_bad' (M : S → O S' L α) : (O.bad : O S L α).thn M = .bad := rfl
@[simp] theorem runO_rt (a : α) : runO (O.rt a : O S L α) = .ok a := rfl
@[simp] theorem runO_er (c : Nat) (fs : List D) : runO (O.er c fs : O S L α) = .err c fs := rfl
@[simp] theorem runO_bad : runO (O.bad : O S L α) = .bad := rfl
theorem thn_ite {p : Prop} [Decidable p] (x y : O S L α) (M : S → O S' L α) : (if p then x else y).thn M = if p then x.thn M else y.thn M := by split <;> rfl
theorem bnd_ite {p : Prop} [Decidable p] (x y : R β) (M : β → O S L α) : bnd (if p then x else y) M = if p then bnd x M else bnd y M := by split <;> rfl
@[simp] theorem forT_nil (F : β → S → O S S α) (s : S) : (forT [] F s : O S L α) = .nx s := rfl
theorem forT_cons (x : β) (xs : List β) (F : β → S → O S S α) (s : S) : (forT (x :: xs) F s : O S L α) = match F x s with
    | .nx s' => forT xs F s'
    | .ct s' => forT xs F s'
    | .bk s' => .nx s'
    | .rt a => .rt a
    | .er c fs => .er c fs
    | .bad => .bad := rfl
theorem forT_go {x : β} {xs : List β} {F : β → S → O S S α} {s s' : S} (h : F x s = .nx s' ∨ F x s = .ct s') : (forT (x :: xs) F s : O S L α) = forT xs F s' := by
  rw [forT_cons]
  rcases h with h | h <;> rw [h]
theorem forT_app (xs ys : List β) (F : β → S → O S S α) (s s' : S) (h : (forT xs F s : O S L α) = .nx s') (hb : ∀ x ∈ xs, ∀ s t, F x s ≠ .bk t) : (forT (xs ++ ys) F s : O S L α) = forT ys F s' := by
  induction xs generalizing s with
  | nil => cases h; rfl
  | cons x xs ih =>
    rw [forT_cons] at h
    rw [List.cons_append, forT_cons]
    cases e : F x s with
    | nx t => rw [e] at h; exact ih t h fun y hy => hb y (List.mem_cons_of_mem _ hy)
    | ct t => rw [e] at h; exact ih t h fun y hy => hb y (List.mem_cons_of_mem _ hy)
    | bk t => exact absurd e (hb x List.mem_cons_self s t)
    | rt a => rw [e] at h; cases h
    | er c fs => rw [e] at h; cases h
    | bad => rw [e] at h; cases h
/-- a loop by an invariant -/
theorem forT_inv {F : β → S → O S S α} (P : Nat → S → Prop) : ∀ (xs : List β) (k : Nat) (s : S), P k s → (∀ i x s, xs[i]? = some x → P (k + i) s → ∃ s', (F x s = .nx s' ∨ F x s = .ct s') ∧ P (k + i + 1) s') → ∃ s', (forT xs F s : O S L α) = .nx s' ∧ P (k + xs.length) s'
  | [], k, s, h0, _ => ⟨s, rfl, h0⟩
  | x :: xs, k, s, h0, h => by
    obtain ⟨s1, e1, i1⟩ := h 0 x s rfl h0
    obtain ⟨s2, e2, i2⟩ := forT_inv P xs (k + 1) s1 i1 fun i y s hy hi => by
      have := h (i + 1) y s (by simpa using hy) (by rw [show k + (i + 1) = k + 1 + i by omega]; exact hi)
      rw [show k + (i + 1) + 1 = k + 1 + i + 1 by omega] at this
      exact this
    exact ⟨s2, by rw [forT_go e1]; exact e2, by rw [List.length_cons, show k + (xs.length + 1) = k + 1 + xs.length by omega]; exact i2⟩
/-- a loop that computes a fold -/
theorem forT_fold {F : β → S → O S S α} (g : β → S → S) : ∀ (xs : List β) (s : S), (∀ x ∈ xs, ∀ s, F x s = .nx (g x s)) → (forT xs F s : O S L α) = .nx (xs.foldl (fun s x => g x s) s)
  | [], s, _ => rfl
  | x :: xs, s, h => by
    rw [forT_go (.inl (h x List.mem_cons_self s)), forT_fold g xs _ fun y hy => h y (List.mem_cons_of_mem _ hy)]
    rfl
/-- a loop that only looks -/
theorem forT_same {F : β → S → O S S α} : ∀ (xs : List β) (s : S), (∀ x ∈ xs, F x s = .nx s ∨ F x s = .ct s) → (forT xs F s : O S L α) = .nx s
  | [], s, _ => rfl
  | x :: xs, s, h => by rw [forT_go (h x List.mem_cons_self), forT_same xs s fun y hy => h y (List.mem_cons_of_mem _ hy)]
/-- a loop that collects -/
theorem forT_map {F : β → List γ → O (List γ) (List γ) α} (g : β → γ) : ∀ (xs : List β) (ys : List γ), (∀ x ∈ xs, ∀ ys, ys.length < 1000000 → F x ys = .nx (ys ++ [g x])) → ys.length + xs.length ≤ 1000000 → (forT xs F ys : O (List γ) L α) = .nx (ys ++ xs.map g)
  | [], ys, _, _ => by simp
  | x :: xs, ys, h, hl => by
    rw [forT_go (.inl (h x List.mem_cons_self ys (by simp at hl; omega))), forT_map g xs _ (fun y hy => h y (List.mem_cons_of_mem _ hy)) (by simp at hl ⊢; omega)]
    simp
theorem lpT_up {C : S → R Bool} {F : S → O S S α} : ∀ (n : Nat) (s : S), (lpT C F n s : O S L α) ≠ .bad → (lpT C F (n + 1) s : O S L α) = lpT C F n s
  | 0, s, h => absurd rfl h
  | n + 1, s, h => by
    have go : ∀ s', (lpT C F n s' : O S L α) ≠ .bad → (lpT C F (n + 1) s' : O S L α) = lpT C F n s' := fun s' => lpT_up n s'
    rw [lpT] at h ⊢
    conv => rhs; rw [lpT]
    cases hc : C s with
    | err _ _ => rfl
    | bad => rfl
    | ok b =>
      rw [hc] at h
      cases b with
      | false => rfl
      | true =>
        simp only at h ⊢
        cases hf : F s with
        | nx s' => rw [hf] at h; exact go s' h
        | ct s' => rw [hf] at h; exact go s' h
        | _ => rfl
theorem lpT_le {C : S → R Bool} {F : S → O S S α} {n m : Nat} {s : S} (h : (lpT C F n s : O S L α) ≠ .bad) (hm : n ≤ m) : (lpT C F m s : O S L α) = lpT C F n s := by
  induction hm with
  | refl => rfl
  | step hm ih => rw [lpT_up _ s (by rw [ih]; exact h), ih]
theorem whlT_eq {C : S → R Bool} {F : S → O S S α} {n : Nat} {s : S} (h : (lpT C F n s : O S L α) ≠ .bad) : (whlT C F s : O S L α) = lpT C F n s := by
  have hex : ∃ n, (lpT C F n s : O S L α) ≠ .bad := ⟨n, h⟩
  unfold whlT
  rw [dif_pos hex]
  have hc := Classical.choose_spec hex
  rcases Nat.le_total n (Classical.choose hex) with q | q
  · rw [lpT_le h q]
  · rw [← lpT_le hc q]
theorem whlT_bad {C : S → R Bool} {F : S → O S S α} {s : S} (h : ∀ n, (lpT C F n s : O S L α) = .bad) : (whlT C F s : O S L α) = .bad := by
  unfold whlT
  rw [dif_neg]
  rintro ⟨n, q⟩
  exact q (h n)
/-- one turn -/
theorem whlT_go {C : S → R Bool} {F : S → O S S α} {s s' : S} (hc : C s = .ok true) (hf : F s = .nx s' ∨ F s = .ct s') : (whlT C F s : O S L α) = whlT C F s' := by
  have e : ∀ n, (lpT C F (n + 1) s : O S L α) = lpT C F n s' := fun n => by
    rw [lpT, hc]
    rcases hf with hf | hf <;> simp [hf]
  by_cases h : ∃ n, (lpT C F n s' : O S L α) ≠ .bad
  · obtain ⟨n, h⟩ := h
    rw [whlT_eq h, whlT_eq (n := n + 1) (by rw [e]; exact h), e]
  · have h' : ∀ n, (lpT C F n s' : O S L α) = .bad := fun n => Classical.byContradiction fun q => h ⟨n, q⟩
    rw [whlT_bad h', whlT_bad]
    intro n
    cases n with
    | zero => rfl
    | succ n => rw [e, h']
theorem whlT_end {C : S → R Bool} {F : S → O S S α} {s : S} (hc : C s = .ok false) : (whlT C F s : O S L α) = .nx s := by
  have e : (lpT C F 1 s : O S L α) = .nx s := by rw [lpT, hc]
  rw [whlT_eq (n := 1) (by rw [e]; intro q; cases q), e]
theorem whlT_rt {C : S → R Bool} {F : S → O S S α} {s : S} {a : α} (hc : C s = .ok true) (hf : F s = .rt a) : (whlT C F s : O S L α) = .rt a := by
  have e : (lpT C F 1 s : O S L α) = .rt a := by rw [lpT, hc]; simp [hf]
  rw [whlT_eq (n := 1) (by rw [e]; intro q; cases q), e]
theorem whlT_bk {C : S → R Bool} {F : S → O S S α} {s s' : S} (hc : C s = .ok true) (hf : F s = .bk s') : (whlT C F s : O S L α) = .nx s' := by
  have e : (lpT C F 1 s : O S L α) = .nx s' := by rw [lpT, hc]; simp [hf]
  rw [whlT_eq (n := 1) (by rw [e]; intro q; cases q), e]
theorem whlT_er {C : S → R Bool} {F : S → O S S α} {s : S} {c : Nat} {fs : List D} (hc : C s = .ok true) (hf : F s = .er c fs) : (whlT C F s : O S L α) = .er c fs := by
  have e : (lpT C F 1 s : O S L α) = .er c fs := by rw [lpT, hc]; simp [hf]
  rw [whlT_eq (n := 1) (by rw [e]; intro q; cases q), e]
/-- by a measure: whatever every end of the loop shows holds of the loop -/
theorem whlT_rule {C : S → R Bool} {F : S → O S S α} (I : S → Prop) (μ : S → Nat) (Q : O S L α → Prop) (h : ∀ s, I s → (C s = .ok false ∧ Q (.nx s)) ∨ (C s = .ok true ∧ ((∃ s', (F s = .nx s' ∨ F s = .ct s') ∧ I s' ∧ μ s' < μ s) ∨ (∃ s', F s = .bk s' ∧ Q (.nx s')) ∨ (∃ a, F s = .rt a ∧ Q (.rt a)) ∨ ∃ c fs, F s = .er c fs ∧ Q (.er c fs)))) : ∀ s, I s → Q (whlT C F s) := by
  intro s
  generalize hn : μ s = n
  induction n using Nat.strongRecOn generalizing s with
  | ind n ih =>
    intro hi
    rcases h s hi with ⟨hc, q⟩ | ⟨hc, ⟨s', hf, hi', hm⟩ | ⟨s', hf, q⟩ | ⟨a, hf, q⟩ | ⟨c, fs, hf, q⟩⟩
    · rw [whlT_end hc]; exact q
    · rw [whlT_go hc hf]; exact ih (μ s') (by omega) s' rfl hi'
    · rw [whlT_bk hc hf]; exact q
    · rw [whlT_rt hc hf]; exact q
    · rw [whlT_er hc hf]; exact q
/-! small facts -/
theorem szT_ok {n : Nat} (a : α) (h : n ≤ 1000000) : szT n a = .ok a := if_pos (le_line h)
theorem lenT_ok {s : St} (h : s.length ≤ 1000000) : lenT s = .ok (s.length : Int) := szT_ok _ h
theorem apT_ok {xs : List α} (a : α) (h : xs.length < 1000000) : apT xs a = .ok (xs ++ [a]) := if_pos (lt_line h)
theorem puT_ok [DecidableEq α] {kvs : List (α × β)} (k : α) (v : β) (h : kvs.length < 1000000) : puT kvs k v = .ok (putT kvs k v) := if_pos (lt_line h)
theorem modT_ok (i : Int) {j : Int} (h : 0 < j) : modT i j = .ok (i % j) := if_pos h
theorem fdivT_ok (i : Int) {j : Int} (h : 0 < j) (h2 : j < 18446744073709551616) : fdivT i j = .ok (i / j) := if_pos ⟨h, log2_small h h2⟩
theorem mulT_R (i : Int) {j : Int} (h1 : -18446744073709551616 < j) (h2 : j < 18446744073709551616) : mulT i j = .ok (i * j) := by
  unfold mulT; rw [small64_of h1 h2, Bool.or_true, if_pos rfl]
theorem mulT_L {i : Int} (j : Int) (h1 : -18446744073709551616 < i) (h2 : i < 18446744073709551616) : mulT i j = .ok (i * j) := by
  unfold mulT; rw [small64_of h1 h2, Bool.true_or, if_pos rfl]
theorem rngT_nat {n : Nat} (h : n < 1000000) : rngT (n : Int) = .ok (rg 0 n) := by
  unfold rngT
  rw [small62_of (by omega) (by omega), if_pos rfl, Int.toNat_natCast]
theorem rngT_ok {n : Int} (h0 : 0 ≤ n) (h : n < 1000000) : rngT n = .ok (rg 0 n.toNat) := by
  unfold rngT
  rw [small62_of h0 h, if_pos rfl]
theorem rng2T_ok {i j : Int} (h0 : 0 ≤ i) (h : i < 1000000) (h2 : 0 ≤ j) (h3 : j < 1000000) : rng2T i j = .ok (rg i (j - i).toNat) := by
  unfold rng2T
  rw [small62_of h0 h, small62_of h2 h3, Bool.and_self, if_pos rfl]
theorem rg_len (lo : Int) (n : Nat) : (rg lo n).length = n := by simp [rg]
theorem rg_get (n i : Nat) (lo : Int) : (rg lo n)[i]? = if i < n then some (lo + (i : Int)) else none := by
  unfold rg
  rw [List.getElem?_map]
  by_cases h : i < n
  · rw [List.getElem?_range h, if_pos h]; rfl
  · rw [List.getElem?_eq_none (by simp; omega), if_neg h]; rfl
theorem mem_rg {x : Int} {n : Nat} : x ∈ rg 0 n ↔ 0 ≤ x ∧ x < n := by
  unfold rg
  rw [List.mem_map]
  constructor
  · rintro ⟨k, hk, rfl⟩
    have := List.mem_range.mp hk
    omega
  · intro h
    exact ⟨x.toNat, List.mem_range.mpr (by omega), by omega⟩
theorem mem_rg' {x lo : Int} {n : Nat} : x ∈ rg lo n ↔ lo ≤ x ∧ x < lo + n := by
  unfold rg
  rw [List.mem_map]
  constructor
  · rintro ⟨k, hk, rfl⟩
    have := List.mem_range.mp hk
    omega
  · intro h
    exact ⟨(x - lo).toNat, List.mem_range.mpr (by omega), by omega⟩
theorem mpT_ok {F : α → R β} {g : α → β} : ∀ (xs : List α), (∀ x ∈ xs, F x = .ok (g x)) → mpT F xs = .ok (xs.map g)
  | [], _ => rfl
  | x :: xs, h => by
    rw [mpT, h x List.mem_cons_self]
    show (mpT F xs).bind _ = _
    rw [mpT_ok xs fun y hy => h y (List.mem_cons_of_mem _ hy)]
    rfl
theorem cmT_ok {F : α → R β} (g : α → β) {xs : List α} (h : ∀ x ∈ xs, F x = .ok (g x)) (hl : xs.length ≤ 1000000) : cmT xs F = .ok (xs.map g) := by
  unfold cmT
  rw [mpT_ok xs h, R.bind_ok, if_pos (by rw [List.length_map]; exact le_line hl)]
/-- a comprehension whose items are known to be there -/
theorem cmT_ex {F : α → R β} {P : α → β → Prop} {xs : List α} (h : ∀ x ∈ xs, ∃ y, F x = .ok y ∧ P x y) (hl : xs.length ≤ 1000000) : ∃ ys : List β, cmT xs F = .ok ys ∧ ys.length = xs.length ∧ ∀ (i : Nat) (x : α), xs[i]? = some x → ∃ y, ys[i]? = some y ∧ P x y := by
  have go : ∀ xs : List α, (∀ x ∈ xs, ∃ y, F x = .ok y ∧ P x y) → ∃ ys : List β, mpT F xs = .ok ys ∧ ys.length = xs.length ∧ ∀ (i : Nat) (x : α), xs[i]? = some x → ∃ y, ys[i]? = some y ∧ P x y := by
    intro xs
    induction xs with
    | nil => exact fun _ => ⟨[], rfl, rfl, fun i x q => by simp at q⟩
    | cons x xs ih =>
      intro h
      obtain ⟨y, e, p⟩ := h x List.mem_cons_self
      obtain ⟨ys, e2, l, q⟩ := ih fun z hz => h z (List.mem_cons_of_mem _ hz)
      refine ⟨y :: ys, by rw [mpT, e]; show (mpT F xs).bind _ = _; rw [e2]; rfl, by simp [l], fun i z hz => ?_⟩
      cases i with
      | zero => simp at hz; subst hz; exact ⟨y, rfl, p⟩
      | succ i => exact q i z (by simpa using hz)
  obtain ⟨ys, e, l, q⟩ := go xs h
  refine ⟨ys, ?_, l, q⟩
  unfold cmT
  rw [e, R.bind_ok, if_pos (by rw [l]; exact le_line hl)]
theorem fpT_okT {C : α → R Bool} {F : α → R β} {c : α → Bool} {g : α → β} : ∀ (xs : List α), (∀ x ∈ xs, C x = .ok (c x)) → (∀ x ∈ xs, c x = true → F x = .ok (g x)) → fpT C F xs = .ok ((xs.filter c).map g)
  | [], _, _ => rfl
  | x :: xs, h, h2 => by
    rw [fpT, h x List.mem_cons_self]
    have ih := fpT_okT xs (fun y hy => h y (List.mem_cons_of_mem _ hy)) (fun y hy => h2 y (List.mem_cons_of_mem _ hy))
    cases e : c x with
    | false => simp only [ih]; rw [List.filter_cons_of_neg (by simp [e])]
    | true =>
      simp only [h2 x List.mem_cons_self e, ih, R.bind_ok]
      rw [List.filter_cons_of_pos e]
      rfl
theorem cfT_ok {C : α → R Bool} {F : α → R β} (c : α → Bool) (g : α → β) {xs : List α} (h : ∀ x ∈ xs, C x = .ok (c x)) (h2 : ∀ x ∈ xs, c x = true → F x = .ok (g x)) (hl : xs.length ≤ 1000000) : cfT xs C F = .ok ((xs.filter c).map g) := by
  unfold cfT
  rw [fpT_okT xs h h2, R.bind_ok, if_pos]
  rw [List.length_map]
  exact le_line (Nat.le_trans (List.length_filter_le _ _) hl)
theorem at_ok {xs : List α} {i : Int} (h0 : 0 ≤ i) (h1 : i < xs.length) : ofR (L2.atI xs i) = .ok (xs[i.toNat]'(by omega)) := by
  obtain ⟨x, e, _, q⟩ := atI_ok h0 h1
  rw [e]
  rw [List.getElem?_eq_getElem (by omega)] at q
  cases q
  rfl
theorem at_get {xs : List α} {i : Int} {x : α} (h0 : 0 ≤ i) (h : xs[i.toNat]? = some x) : ofR (L2.atI xs i) = .ok x := by
  have hl : i.toNat < xs.length := (List.getElem?_eq_some_iff.mp h).1
  rw [at_ok h0 (by omega)]
  rw [List.getElem?_eq_getElem hl] at h
  cases h
  rfl
theorem at_nat {xs : List α} {i : Nat} {x : α} (h : xs[i]? = some x) : ofR (L2.atI xs (i : Int)) = .ok x := at_get (by omega) (by simpa using h)
theorem at_ex {xs : List α} {i : Int} (h0 : 0 ≤ i) (h1 : i < xs.length) : ∃ x, ofR (L2.atI xs i) = .ok x ∧ x ∈ xs ∧ xs[i.toNat]? = some x :=
  ⟨_, at_ok h0 h1, List.getElem_mem _, List.getElem?_eq_getElem (by omega)⟩
theorem at_last (xs : List α) (x : α) : ofR (L2.atI (xs ++ [x]) (-1)) = .ok x := by rw [L2.atI_last]; rfl
@[simp] theorem at_2_0 (x y : α) : ofR (L2.atI [x, y] 0) = .ok x := rfl
@[simp] theorem at_2_1 (x y : α) : ofR (L2.atI [x, y] 1) = .ok y := rfl
theorem sixT_ok {s : St} {i : Int} (h0 : 0 ≤ i) (h1 : i < s.length) (hl : s.length ≤ 1000000) : sixT s i = .ok (s[i.toNat]'(by omega)) := by
  unfold sixT
  rw [if_pos (le_line hl)]
  exact at_ok h0 h1
theorem hasT_iff [DecidableEq α] {kvs : List (α × β)} {k : α} : hasT kvs k = true ↔ k ∈ kvs.map (·.1) := by
  unfold hasT
  simp [List.any_eq_true]
theorem putT_new [DecidableEq α] {kvs : List (α × β)} {k : α} {v : β} (h : k ∉ kvs.map (·.1)) : putT kvs k v = kvs ++ [(k, v)] := by
  unfold putT
  rw [if_neg (by rw [hasT_iff]; exact h)]
theorem getT_some [DecidableEq α] {kvs : List (α × β)} {k : α} {v : β} (h : getT kvs k = some v) : (k, v) ∈ kvs := by
  unfold getT at h
  cases e : kvs.find? fun p => decide (p.1 = k) with
  | none => rw [e] at h; cases h
  | some p =>
    rw [e] at h
    cases h
    have := List.mem_of_find?_eq_some e
    have q := List.find?_some e
    simp at q
    rw [← q]; exact this
theorem getT_of [DecidableEq α] {kvs : List (α × β)} {k : α} {v : β} (nd : (kvs.map (·.1)).Nodup) (h : (k, v) ∈ kvs) : getT kvs k = some v := by
  unfold getT
  induction kvs with
  | nil => cases h
  | cons p kvs ih =>
    rw [List.find?_cons]
    rw [List.map_cons, List.nodup_cons] at nd
    by_cases e : p.1 = k
    · rw [decide_eq_true e]
      rcases List.mem_cons.mp h with h | h
      · rw [← h]; rfl
      · exact absurd (by rw [e]; exact List.mem_map_of_mem (f := (·.1)) h) nd.1
    · rw [decide_eq_false e]
      rcases List.mem_cons.mp h with h | h
      · exact absurd (by rw [← h]) e
      · exact ih nd.2 h
theorem putT_keys [DecidableEq α] {kvs : List (α × β)} {k : α} {v : β} : (putT kvs k v).map (·.1) = if k ∈ kvs.map (·.1) then kvs.map (·.1) else kvs.map (·.1) ++ [k] := by
  unfold putT
  by_cases h : k ∈ kvs.map (·.1)
  · rw [if_pos (hasT_iff.mpr h), if_pos h, List.map_map]
    apply List.map_congr_left
    intro p _
    show (if p.1 = k then (p.1, v) else p).1 = p.1
    split <;> rfl
  · rw [if_neg (by rw [hasT_iff]; exact h), if_neg h]
    simp
/-! what an outcome shows -/
def Wp (m : O S L α) (N : S → Prop) (C B : L → Prop) (Q : α → Prop) : Prop :=
  match m with
  | .nx s => N s
  | .ct l => C l
  | .bk l => B l
  | .rt a => Q a
  | _ => False
def Nope {S : Type} : S → Prop := fun _ => False
theorem wp_run {m : O S L α} {Q : α → Prop} (h : Wp m Nope Nope Nope Q) : ∃ a, runO m = .ok a ∧ Q a := by
  cases m with
  | rt a => exact ⟨a, rfl, h⟩
  | _ => exact h.elim
theorem wp_eq {m : O S L α} {a : α} (h : Wp m Nope Nope Nope fun b => b = a) : runO m = .ok a := by
  obtain ⟨b, e, rfl⟩ := wp_run h
  exact e
theorem wp_bnd {m : R β} {M : β → O S L α} {N : S → Prop} {C B : L → Prop} {Q : α → Prop} (P : β → Prop) (h : ∃ b, m = .ok b ∧ P b) (h2 : ∀ b, P b → Wp (M b) N C B Q) : Wp (bnd m M) N C B Q := by
  obtain ⟨b, e, p⟩ := h
  rw [e]; exact h2 b p
theorem wp_ok {m : R β} {M : β → O S L α} {N : S → Prop} {C B : L → Prop} {Q : α → Prop} {b : β} (e : m = .ok b) (h2 : Wp (M b) N C B Q) : Wp (bnd m M) N C B Q := by
  rw [e]; exact h2
theorem wp_imp {m : O S L α} {N N' : S → Prop} {C C' B B' : L → Prop} {Q Q' : α → Prop} (h : Wp m N C B Q) (hn : ∀ s, N s → N' s) (hc : ∀ s, C s → C' s) (hb : ∀ s, B s → B' s) (hq : ∀ s, Q s → Q' s) : Wp m N' C' B' Q' := by
  cases m with
  | nx s => exact hn _ h
  | ct s => exact hc _ h
  | bk s => exact hb _ h
  | rt s => exact hq _ h
  | er _ _ => exact h.elim
  | bad => exact h.elim
theorem wp_thn {m : O S L α} {M : S → O S' L α} {N : S' → Prop} {C B : L → Prop} {Q : α → Prop} (N' : S → Prop) (h : Wp m N' C B Q) (h2 : ∀ s, N' s → Wp (M s) N C B Q) : Wp (m.thn M) N C B Q := by
  cases m with
  | nx s => exact h2 s h
  | ct s => exact h
  | bk s => exact h
  | rt s => exact h
  | er _ _ => exact h.elim
  | bad => exact h.elim
theorem wp_forK {F : β → S → O S S α} {Q : α → Prop} {C B : L → Prop} {N : S → Prop} (P : Nat → S → Prop) : ∀ (xs : List β) (k : Nat) (s : S), P k s → (∀ i x s, xs[i]? = some x → P (k + i) s → Wp (F x s) (P (k + i + 1)) (P (k + i + 1)) N Q) → (∀ s, P (k + xs.length) s → N s) → Wp (forT xs F s : O S L α) N C B Q
  | [], k, s, h0, _, hn => hn s h0
  | x :: xs, k, s, h0, h, hn => by
    have q := h 0 x s rfl h0
    have go : ∀ s', P (k + 1) s' → Wp (forT xs F s' : O S L α) N C B Q := fun s' p => wp_forK P xs (k + 1) s' p (fun i y s hy hi => by
      have := h (i + 1) y s (by simpa using hy) (by rw [show k + (i + 1) = k + 1 + i by omega]; exact hi)
      rw [show k + (i + 1) + 1 = k + 1 + i + 1 by omega] at this
      exact this) (fun s p => hn s (by rw [List.length_cons, show k + (xs.length + 1) = k + 1 + xs.length by omega]; exact p))
    rw [forT_cons]
    cases e : F x s with
    | nx t => rw [e] at q; exact go t q
    | ct t => rw [e] at q; exact go t q
    | bk t => rw [e] at q; exact q
    | rt a => rw [e] at q; exact q
    | er _ _ => rw [e] at q; exact q.elim
    | bad => rw [e] at q; exact q.elim
/-- a loop by an invariant, and what follows it -/
theorem wp_for {F : β → S → O S S α} {M : S → O S' L α} {N : S' → Prop} {C B : L → Prop} {Q : α → Prop} {xs : List β} {s : S} (P : Nat → S → Prop) (h0 : P 0 s) (h : ∀ i x s, xs[i]? = some x → P i s → Wp (F x s) (P (i + 1)) (P (i + 1)) (P xs.length) Q) (h2 : ∀ s, P xs.length s → Wp (M s) N C B Q) : Wp (O.thn (forT xs F s : O S L α) M) N C B Q :=
  wp_thn (P xs.length) (wp_forK P xs 0 s h0 (fun i x s hx hi => by rw [Nat.zero_add] at hi ⊢; exact h i x s hx hi) (fun s p => by rw [Nat.zero_add] at p; exact p)) h2
theorem wp_whl {F : S → O S S α} {Cd : S → R Bool} {M : S → O S' L α} {N : S' → Prop} {C B : L → Prop} {Q : α → Prop} {s : S} (I : S → Prop) (μ : S → Nat) (Z : S → Prop) (h0 : I s)
    (h : ∀ s, I s → (Cd s = .ok false ∧ Z s) ∨ (Cd s = .ok true ∧ Wp (F s) (fun s' => I s' ∧ μ s' < μ s) (fun s' => I s' ∧ μ s' < μ s) Z Q)) (h2 : ∀ s, Z s → Wp (M s) N C B Q) : Wp (O.thn (whlT Cd F s : O S L α) M) N C B Q := by
  refine wp_thn Z ?_ h2
  refine whlT_rule I μ (fun m => Wp m Z C B Q) (fun s hi => ?_) s h0
  rcases h s hi with ⟨hc, z⟩ | ⟨hc, ev⟩
  · exact .inl ⟨hc, z⟩
  · refine .inr ⟨hc, ?_⟩
    cases e : F s with
    | nx t => rw [e] at ev; exact .inl ⟨t, .inl rfl, ev.1, ev.2⟩
    | ct t => rw [e] at ev; exact .inl ⟨t, .inr rfl, ev.1, ev.2⟩
    | bk t => rw [e] at ev; exact .inr (.inl ⟨t, rfl, ev⟩)
    | rt a => rw [e] at ev; exact .inr (.inr (.inl ⟨a, rfl, ev⟩))
    | er _ _ => rw [e] at ev; exact ev.elim
    | bad => rw [e] at ev; exact ev.elim
end
end DI
/-! TL5: sorted, text[::-1] in the typed layer -/
namespace DI
open PySem
instance (priority := 2000) beqTurn : BEq Turn := instBEqOfDecidableEq
instance (priority := 2000) lawTurn : LawfulBEq Turn := inferInstanceAs (@LawfulBEq Turn instBEqOfDecidableEq)
section
variable {σ : Sl} {f : Sl → R D}
theorem rf_so {o : Bool} {m : R (List Int)} (h : Rf (f σ) m (eLs o D.int)) : Rf (eSo (aC f aN) σ) (m.bind fun xs => .ok (sorI xs)) (eLs true D.int) := by
  have e : eSo (aC f aN) σ = (f σ).bind fun x => sortD [x] := by
    unfold eSo aC aN
    cases f σ <;> rfl
  rw [e]
  refine h.bind fun xs => ?_
  have q : ∀ xs : List Int, intsD (xs.map D.int) = some xs := by
    intro xs
    induction xs with
    | nil => rfl
    | cons x xs ih => show (intsD (xs.map D.int)).map (x :: ·) = _; rw [ih]; rfl
  refine rf_ok ?_
  show (match intsD (xs.map D.int) with | some ns => R.ok (D.lst true ((sorI ns).map D.int)) | none => .bad) = _
  rw [q]; rfl
theorem rf_so_p {o : Bool} {xs : List Int} (h : Rf (f σ) (.ok xs) (eLs o D.int)) : Rf (eSo (aC f aN) σ) (.ok (sorI xs)) (eLs true D.int) := rf_so h
theorem rf_so_m {o : Bool} {m : R (List Int)} (h : Rf (f σ) m (eLs o D.int)) : Rf (eSo (aC f aN) σ) (m.bind fun xs => .ok (sorI xs)) (eLs true D.int) := rf_so h
theorem revS_sD (s : St) : revS (sD s) = sD s.reverse := by
  unfold revS
  rw [sD_cps]
  unfold sD
  rw [List.map_reverse]
theorem rf_rv_m {m : R St} (h : Rf (f σ) m eSt) : Rf (eRv f σ) (m.bind fun xs => szT xs.length xs.reverse) eSt := by
  unfold eRv
  refine h.bind fun xs => ?_
  refine .guard (c := (sD xs).length ≤ sizeLine) (by rw [sD_len]; exact id) (rf_ok ?_)
  rw [revS_sD]; rfl
theorem rf_rv_p {xs : St} (h : Rf (f σ) (.ok xs) eSt) : Rf (eRv f σ) (szT xs.length xs.reverse) eSt := rf_rv_m h
/-- the item at 2 * int(b) of three -/
theorem rf_ix302_m {α β : Type} {k : Sl → R D} {e1 : α → D} {e2 : β → D} {m : R (α × β × α)} {b : Bool} {i : Int} (h : Rf (f σ) m (eT3 e1 e2 e1)) (h2 : Rf (k σ) (.ok i) D.int) (hi : i = if b = true then 2 else 0) : Rf (eIx f k σ) (m.bind fun u => .ok (if b = true then u.2.2 else u.1)) e1 := by
  have e : eIx f k σ = (f σ).bind fun x => idxD x (.int i) := by
    unfold eIx
    rw [show k σ = .ok (.int i) from h2]; rfl
  rw [e]
  refine h.bind fun p => ?_
  subst hi
  cases b <;> exact rfl
theorem rf_ix302_p {α β : Type} {k : Sl → R D} {e1 : α → D} {e2 : β → D} {p : α × β × α} {b : Bool} {i : Int} (h : Rf (f σ) (.ok p) (eT3 e1 e2 e1)) (h2 : Rf (k σ) (.ok i) D.int) (hi : i = if b = true then 2 else 0) : Rf (eIx f k σ) (.ok (if b = true then p.2.2 else p.1)) e1 := rf_ix302_m h h2 hi
end
end DI
/-! TL6: a display of two pairs of texts, d.get(k, x) in the typed layer -/
namespace DI
open PySem
section
variable {α β : Type} {σ : Sl} {f k l : Sl → R D}
theorem rf_dk2 {A B C E : Str} {a b c e : St} (h1 : A = sD a) (h2 : B = sD b) (h3 : C = sD c) (h4 : E = sD e) : Rf (eDk2 A B C E σ) (.ok [((Sum.inr a : Turn), (Sum.inr b : Turn)), (Sum.inr c, Sum.inr e)]) (eDc true kTu eTu) := by
  subst h1 h2 h3 h4
  rfl
theorem rf_get2 [DecidableEq α] {o : Bool} {e : α → D} {κ : α → NestedKey} {e' : β → D} (h : KD e κ) (cl : Cl e') {m : R (List (α × β))} {n : R α} {d : R β} (h1 : Rf (f σ) m (eDc o κ e')) (h2 : Rf (k σ) n e) (h3 : Rf (l σ) d e') : Rf (eMt .get2 f (aC k (aC l aN)) σ) (m.bind fun b => n.bind fun a => d.bind fun x => .ok ((getT b a).getD x)) e' :=
  h1.bind fun b => by
    show Rf (if recvOk .get2 (eDc o κ e' b) = true then _ else R.bad) _ _
    rw [if_pos (show recvOk .get2 (eDc o κ e' b) = true from rfl)]
    simp only [u_aC, u_aN, R.bind_assoc, R.bind_ok, tupOf_tup]
    refine h2.bind fun a => ?_
    try simp only [R.bind_assoc, R.bind_ok]
    refine h3.bind fun x => ?_
    try simp only [R.bind_ok, tupOf_tup]
    show Rf ((keyIn (e a) (b.map fun p => (κ p.1, e' p.2))).bind fun k => if clean (e' x) = true then .ok ((dget (b.map fun p => (κ p.1, e' p.2)) k).getD (e' x)) else .bad) _ _
    have q1 := h.keyIn e' b a; unfold encK at q1; rw [q1]
    have q2 := h.dget e' b a; unfold encK at q2
    rw [R.bind_ok, if_pos (cl x)]
    refine rf_ok ?_
    rw [q2]
    cases getT b a <;> rfl
theorem rf_get2_p [DecidableEq α] {o : Bool} {e : α → D} {κ : α → NestedKey} {e' : β → D} (h : KD e κ) (cl : Cl e') {b : List (α × β)} {a : α} {x : β} (h1 : Rf (f σ) (.ok b) (eDc o κ e')) (h2 : Rf (k σ) (.ok a) e) (h3 : Rf (l σ) (.ok x) e') : Rf (eMt .get2 f (aC k (aC l aN)) σ) (.ok ((getT b a).getD x)) e' := rf_get2 h cl h1 h2 h3
end
end DI
/-! TL7: a, b, c = a list, in the typed layer -/
namespace DI
open PySem
def l3T {α : Type} : List α → R (α × α × α)
  | [a, b, c] => .ok (a, b, c)
  | _ => .bad
section
variable {α β S L : Type} {σ : Sl} {f : Sl → R D} {e : α → D} {e' : β → D} {I : S → Sl → Prop} {J : L → Sl → Prop} {E : Sl → Prop} {K : SF}
theorem g_unpL3 {o : Bool} {is : List Nat} {m : R (List β)} {M : β × β × β → O S L α} (cl : Cl e') (h : Rf (f σ) m (eLs o e')) (hE : E σ) (h2 : ∀ a : β × β × β, ∃ σ', putAll σ is [e' a.1, e' a.2.1, e' a.2.2] = .ok σ' ∧ Gs I J E e (K σ') (M a)) : Gs I J E e ((sUnpL is f σ).andThen K) (bnd (m.bind l3T) M) := by
  have q : bnd (m.bind l3T) M = bnd m fun xs => bnd (l3T xs) M := by cases m <;> rfl
  rw [q]
  have q2 : sUnpL is f σ = rS (f σ) σ fun d => match d with
    | .lst _ xs => if cleanL xs = true then rS (putAll σ is xs) σ .nx else .bad
    | _ => .bad := rfl
  rw [q2]
  refine g_val h hE fun xs => ?_
  show Gs I J E e ((if cleanL (xs.map e') = true then rS (putAll σ is (xs.map e')) σ .nx else .bad).andThen K) _
  rw [if_pos (cl_map cl xs)]
  match xs with
  | [a, b, c] =>
    obtain ⟨σ', q, g⟩ := h2 (a, b, c)
    show Gs I J E e ((rS (putAll σ is [e' a, e' b, e' c]) σ .nx).andThen K) _
    rw [q]
    exact g
  | [] => exact True.intro
  | [_] => exact True.intro
  | [_, _] => exact True.intro
  | _ :: _ :: _ :: _ :: _ => exact True.intro
end
end DI
/-! TL8: a display of one pair with a tuple for its key, in the typed layer; what is never reached -/
namespace DI
open PySem
section
variable {α β : Type} {σ : Sl} {f k : Sl → R D}
theorem rf_dN1 {e : α → D} {κ : α → NestedKey} {e' : β → D} {u : Nat} (h : KyE e κ u) (l : KTp κ) (hn : u ≤ 8) (cl : Cl e') {m : R α} {d : R β} (h1 : Rf (f σ) m e) (h2 : Rf (k σ) d e') : Rf (eDN1 f k σ) (m.bind fun a => d.bind fun b => .ok [(a, b)]) (eDc true κ e') :=
  h1.bind fun a => h2.bind fun b => by
    show dispN (e a) (e' b) = _
    unfold dispN
    rw [h.key a]
    show (if (isTupKey (κ a) = true ∧ (κ a).depth ≤ 8) ∧ clean (e' b) = true then R.ok (D.dct true [(κ a, e' b)]) else R.bad) = _
    rw [if_pos ⟨⟨l a, Nat.le_trans (h.dep a) hn⟩, cl b⟩]
    rfl
theorem rf_dL1 {e : α → D} {κ : α → NestedKey} {e' : β → D} {u : Nat} (h : KyE e κ u) (l : KLf e κ) (cl : Cl e') {m : R α} {d : R β} (h1 : Rf (f σ) m e) (h2 : Rf (k σ) d e') : Rf (eD1 f k σ) (m.bind fun a => d.bind fun b => .ok [(a, b)]) (eDc true κ e') :=
  h1.bind fun a => h2.bind fun b => by
    show dispD (e a) (e' b) = _
    unfold dispD
    rw [h.key a]
    show (if leafD (e a) = true ∧ clean (e' b) = true then R.ok (D.dct true [(κ a, e' b)]) else R.bad) = _
    rw [if_pos ⟨(l a).2, cl b⟩]
    rfl
theorem rf_bad {e : α → D} {r : R D} : Rf r (.bad : R α) e := True.intro
end
end DI
/-! TL9: one of two kinds of values -/
namespace DI
open PySem
section
variable {α β α' β' : Type} {e : α → D} {f : β → D}
def eSm (e : α → D) (f : β → D) : α ⊕ β → D
  | .inl a => e a
  | .inr b => f b
theorem cl_or (h : Cl e) (h2 : Cl f) : Cl (eSm e f) := fun a => by
  cases a with
  | inl a => exact h a
  | inr b => exact h2 b
theorem nf_or (h : Nf e) (h2 : Nf f) : Nf (eSm e f) := fun a => by
  cases a with
  | inl a => exact h a
  | inr b => exact h2 b
theorem fz_or {e' : α → D} {f' : β → D} (h : Fz e e') (h2 : Fz f f') : Fz (eSm e f) (eSm e' f') := fun a => by
  cases a with
  | inl a => exact h a
  | inr b => exact h2 b
theorem xf_or (h : Xf e) (h2 : Xf f) : Xf (eSm e f) := fun a => by
  cases a with
  | inl a => exact h a
  | inr b => exact h2 b
def pOr (p : α → PyData) (q : β → PyData) : α ⊕ β → PyData
  | .inl a => p a
  | .inr b => q b
theorem py_or {p : α → PyData} {q : β → PyData} {n m : Nat} (h : PyE e p n) (h2 : PyE f q m) : PyE (eSm e f) (pOr p q) (max n m) := ⟨fun a => by
  cases a with
  | inl a => exact h.py a
  | inr b => exact h2.py b, fun a => by
  cases a with
  | inl a => exact h.lay a
  | inr b => exact h2.lay b, fun a => by
  cases a with
  | inl a => exact Nat.le_trans (h.dep a) (Nat.le_max_left _ _)
  | inr b => exact Nat.le_trans (h2.dep b) (Nat.le_max_right _ _), fun a q' => by
  cases a with
  | inl a => exact h.nn a q'
  | inr b => exact h2.nn b q'⟩
def Ap (p : α → PyData) (q : β → PyData) : Prop := ∀ a b, PyData.eqv (p a) (q b) = false ∧ PyData.eqv (q b) (p a) = false
theorem pq_or [DecidableEq α] [DecidableEq β] {p : α → PyData} {q : β → PyData} (h : PyQ p) (h2 : PyQ q) (ap : Ap p q) : PyQ (pOr p q) := fun a b => by
  cases a with
  | inl a => cases b with
    | inl b => simp [pOr, h a b]
    | inr b => simp [pOr, (ap a b).1]
  | inr a => cases b with
    | inl b => simp [pOr, (ap b a).2]
    | inr b => simp [pOr, h2 a b]
theorem nn_or {p : α → PyData} {q : β → PyData} (h : Nn p) (h2 : Nn q) : Nn (pOr p q) := fun a => by
  cases a with
  | inl a => exact h a
  | inr b => exact h2 b
theorem wd_or1 : Wd e (eSm e f) Sum.inl := fun _ => rfl
theorem wd_or2 : Wd f (eSm e f) Sum.inr := fun _ => rfl
def unL : α ⊕ β → R α
  | .inl a => .ok a
  | .inr _ => .bad
def unR : α ⊕ β → R β
  | .inr a => .ok a
  | .inl _ => .bad
theorem nw_unL : Nw (eSm e f) e unL := fun a => by cases a; exact rfl; exact True.intro
theorem nw_unR : Nw (eSm e f) f unR := fun a => by cases a; exact True.intro; exact rfl
theorem or_isTy {t : Ty} {b1 b2 : Bool} (h : ∀ a, isTy t (e a) = .ok b1) (h2 : ∀ a, isTy t (f a) = .ok b2) : ∀ a, isTy t (eSm e f a) = .ok (a.elim (fun _ => b1) (fun _ => b2)) := fun a => by
  cases a with
  | inl a => exact h a
  | inr b => exact h2 b
theorem op_isTy' {t : Ty} {b : α → Bool} (h : ∀ a, isTy t (e a) = .ok (b a)) (h0 : isTy t .non = .ok false) : ∀ a, isTy t (eOp e a) = .ok (a.elim false b) := fun a => by
  cases a with
  | none => exact h0
  | some a => exact h a
end
section
variable {α β γ δ : Type} {p : α → PyData} {q : β → PyData} {r : γ → PyData}
theorem ap_st_t2 : Ap pSt (pT2 p q) := fun _ _ => by simp [pSt, pT2, PyData.eqv]
theorem ap_st_t3 : Ap pSt (pT3 p q r) := fun _ _ => by simp [pSt, pT3, PyData.eqv]
theorem ap_st_sq : Ap pSt (pSq p) := fun _ _ => by simp [pSt, pSq, PyData.eqv]
theorem ap_st_ls : Ap pSt (pLs p) := fun _ _ => by simp [pSt, pLs, PyData.eqv]
end
end DI
/-! TL10: list(..) of a text, of a range from a to b -/
namespace DI
open PySem
section
variable {α : Type} {e : α → D} {σ : Sl} {f k : Sl → R D}
theorem rf_li1 {β : Type} {eb : β → D} {M : α → R β} {m : R α} (h : Rf (f σ) m e) (h2 : ∀ a, Rf (liD [e a]) (M a) eb) : Rf (eLi (aC f aN) σ) (m.bind M) eb := by
  have q : eLi (aC f aN) σ = (f σ).bind fun x => liD [x] := by
    unfold eLi aC aN
    cases f σ <;> rfl
  rw [q]
  exact h.bind h2
theorem liD_L {o : Bool} (xs : List D) : liD [.lst o xs] = if cleanL xs = true then .ok (.lst true xs) else .bad := by rw [liD]
theorem liD_Q (xs : List D) : liD [.tup xs] = if cleanL xs = true then .ok (.lst true xs) else .bad := by rw [liD]
theorem liD_S (z : Str) : liD [.str z] = if z.length ≤ sizeLine then .ok (.lst true (z.cps.toList.map oneOf)) else .bad := by rw [liD]
theorem rf_liL {o : Bool} {m : R (List α)} (c : Cl e) (h : Rf (f σ) m (eLs o e)) : Rf (eLi (aC f aN) σ) (m.bind fun u => .ok u) (eLs true e) := rf_li1 h fun xs => rf_ok (by unfold eLs; rw [liD_L, if_pos (cl_map c xs)])
theorem rf_liL_p {o : Bool} {xs : List α} (c : Cl e) (h : Rf (f σ) (.ok xs) (eLs o e)) : Rf (eLi (aC f aN) σ) (.ok xs) (eLs true e) := rf_liL c h
theorem rf_liL_m {o : Bool} {m : R (List α)} (c : Cl e) (h : Rf (f σ) m (eLs o e)) : Rf (eLi (aC f aN) σ) (m.bind fun u => .ok u) (eLs true e) := rf_liL c h
theorem rf_liQ {m : R (List α)} (c : Cl e) (h : Rf (f σ) m (eSq e)) : Rf (eLi (aC f aN) σ) (m.bind fun u => .ok u) (eLs true e) := rf_li1 h fun xs => rf_ok (by unfold eSq eLs; rw [liD_Q, if_pos (cl_map c xs)])
theorem rf_liQ_p {xs : List α} (c : Cl e) (h : Rf (f σ) (.ok xs) (eSq e)) : Rf (eLi (aC f aN) σ) (.ok xs) (eLs true e) := rf_liQ c h
theorem rf_liQ_m {m : R (List α)} (c : Cl e) (h : Rf (f σ) m (eSq e)) : Rf (eLi (aC f aN) σ) (m.bind fun u => .ok u) (eLs true e) := rf_liQ c h
theorem rf_liS {m : R St} (h : Rf (f σ) m eSt) : Rf (eLi (aC f aN) σ) (m.bind fun a => szT a.length (a.map fun c => [c])) (eLs true eSt) := rf_li1 h fun a => by
  unfold eSt
  rw [liD_S, sD_len]
  unfold szT
  refine .guard id (rf_ok ?_)
  unfold eLs
  rw [sD_cps, List.map_map, List.map_map]
  rfl
theorem rf_liS_p {a : St} (h : Rf (f σ) (.ok a) eSt) : Rf (eLi (aC f aN) σ) (szT a.length (a.map fun c => [c])) (eLs true eSt) := rf_liS h
theorem rf_liS_m {m : R St} (h : Rf (f σ) m eSt) : Rf (eLi (aC f aN) σ) (m.bind fun a => szT a.length (a.map fun c => [c])) (eLs true eSt) := rf_liS h
noncomputable def lr2T (i j : Int) : R (List Int) := if (small62 i = true ∧ small62 j = true) ∧ (j - i).toNat ≤ sizeLine then .ok (rg i (j - i).toNat) else .bad
theorem rf_lr2 {m n : R Int} (h : Rf (f σ) m D.int) (h2 : Rf (k σ) n D.int) : Rf (eLR2 f k σ) (m.bind fun a => n.bind fun b => lr2T a b) (eLs true D.int) :=
  h.bind fun i => h2.bind fun j => .guard id (rf_ok (by rw [rg_map]; rfl))
theorem rf_lr2_pp {i j : Int} (h : Rf (f σ) (.ok i) D.int) (h2 : Rf (k σ) (.ok j) D.int) : Rf (eLR2 f k σ) (lr2T i j) (eLs true D.int) := rf_lr2 h h2
theorem rf_lr2_pm {i : Int} {n : R Int} (h : Rf (f σ) (.ok i) D.int) (h2 : Rf (k σ) n D.int) : Rf (eLR2 f k σ) (n.bind fun b => lr2T i b) (eLs true D.int) := rf_lr2 h h2
theorem rf_lr2_mp {j : Int} {m : R Int} (h : Rf (f σ) m D.int) (h2 : Rf (k σ) (.ok j) D.int) : Rf (eLR2 f k σ) (m.bind fun a => lr2T a j) (eLs true D.int) := rf_lr2 h h2
theorem rf_lr2_mm {m n : R Int} (h : Rf (f σ) m D.int) (h2 : Rf (k σ) n D.int) : Rf (eLR2 f k σ) (m.bind fun a => n.bind fun b => lr2T a b) (eLs true D.int) := rf_lr2 h h2
end
end DI
/-! TL11: chains of three comparisons -/
namespace DI
open PySem
section
variable {σ : Sl} {f k l q : Sl → R D}
theorem rf_c3 {o o' o'' : Cop} {P P' P'' : Int → Int → Bool} (h1 : ∀ i j, cmpD o (.int i) (.int j) = .ok (P i j)) (h2 : ∀ i j, cmpD o' (.int i) (.int j) = .ok (P' i j)) (h3 : ∀ i j, cmpD o'' (.int i) (.int j) = .ok (P'' i j)) {a b c d : Int}
    (ha : Rf (f σ) (.ok a) D.int) (hb : Rf (k σ) (.ok b) D.int) (hc : Rf (l σ) (.ok c) D.int) (hd : Rf (q σ) (.ok d) D.int) : Rf (eC3 o o' o'' f k l q σ) (.ok (P a b && (P' b c && P'' c d))) D.bl := by
  unfold eC3 blR
  rw [show f σ = .ok (.int a) from ha, show k σ = .ok (.int b) from hb, show l σ = .ok (.int c) from hc, show q σ = .ok (.int d) from hd]
  simp only [R.bind_ok, h1, h2, h3]
  cases P a b with
  | false => exact rfl
  | true =>
    cases P' b c with
    | false => exact rfl
    | true => exact rfl
theorem rf_c3_leltle_pppp {a b c d : Int} (ha : Rf (f σ) (.ok a) D.int) (hb : Rf (k σ) (.ok b) D.int) (hc : Rf (l σ) (.ok c) D.int) (hd : Rf (q σ) (.ok d) D.int) : Rf (eC3 .le .lt .le f k l q σ) (.ok (decide (a ≤ b) && (decide (b < c) && decide (c ≤ d)))) D.bl :=
  rf_c3 (P := fun i j => decide (i ≤ j)) (P' := fun i j => decide (i < j)) (P'' := fun i j => decide (i ≤ j)) (fun _ _ => rfl) (fun _ _ => rfl) (fun _ _ => rfl) ha hb hc hd
end
end DI
/-! TL12: a sign so many times -/
namespace DI
open PySem
section
variable {σ : Sl} {f k : Sl → R D}
def rpT (c : Char) (n : Int) : R St := if 0 ≤ n ∧ n ≤ 1000000 then .ok (List.replicate n.toNat c) else .bad
theorem rf_rp {c : Char} {s : St} {n : R Int} (hs : s = [c]) (h : Rf (f σ) (.ok s) eSt) (h2 : Rf (k σ) n D.int) : Rf (eRp f k σ) (n.bind fun n => rpT c n) eSt := by
  subst hs
  unfold eRp
  rw [show f σ = .ok (eSt [c]) from h]
  refine h2.bind fun i => ?_
  show Rf (if 0 ≤ i ∧ i ≤ 1000000 then R.ok (D.str (repS c.toNat i)) else .bad) (rpT c i) eSt
  unfold rpT
  refine .guard id (rf_ok ?_)
  unfold eSt sD repS
  rw [List.map_replicate]
theorem rf_rp_pp {c : Char} {s : St} {n : Int} (hs : s = [c]) (h : Rf (f σ) (.ok s) eSt) (h2 : Rf (k σ) (.ok n) D.int) : Rf (eRp f k σ) (rpT c n) eSt := rf_rp hs h h2
theorem rf_rp_pm {c : Char} {s : St} {n : R Int} (hs : s = [c]) (h : Rf (f σ) (.ok s) eSt) (h2 : Rf (k σ) n D.int) : Rf (eRp f k σ) (n.bind fun n => rpT c n) eSt := rf_rp hs h h2
end
end DI
/-! TL13: x is False -/
namespace DI
open PySem
section
variable {σ : Sl} {f k : Sl → R D}
theorem rf_isb {m n : R Bool} (h : Rf (f σ) m D.bl) (h2 : Rf (k σ) n D.bl) : Rf (eIsb f k σ) (m.bind fun a => n.bind fun b => .ok (decide (a = b))) D.bl := h.bind fun a => h2.bind fun b => rf_ok rfl
theorem rf_isb_pp {a b : Bool} (h : Rf (f σ) (.ok a) D.bl) (h2 : Rf (k σ) (.ok b) D.bl) : Rf (eIsb f k σ) (.ok (decide (a = b))) D.bl := rf_isb h h2
theorem rf_isb_mp {m : R Bool} {b : Bool} (h : Rf (f σ) m D.bl) (h2 : Rf (k σ) (.ok b) D.bl) : Rf (eIsb f k σ) (m.bind fun a => .ok (decide (a = b))) D.bl := rf_isb h h2
end
end DI
/-! TL14: pop, insert, item stores of lists; list(d) -/
namespace DI
open PySem
section
variable {α β γ S S' L : Type} {σ : Sl} {f k fe fk : Sl → R D} {e : α → D} {I : S → Sl → Prop} {J : L → Sl → Prop} {E : Sl → Prop} {K F G : SF}
noncomputable def popT (xs : List β) (j : Int) : R (List β) := (ofR (L2.ixN xs.length j)).bind fun k => if small62 j = true then .ok (xs.eraseIdx k) else .bad
noncomputable def insT (xs : List β) (j : Int) (a : β) : R (List β) := if (small62 j = true ∧ 0 ≤ j) ∧ xs.length < sizeLine then .ok (xs.take j.toNat ++ [a] ++ xs.drop j.toNat) else .bad
def setT (xs : List β) (j : Int) (a : β) : R (List β) := (ofR (L2.ixN xs.length j)).bind fun k => .ok (xs.set k a)
theorem g_of {m : R γ} {M : γ → O S L α} {r : R γ} {T : γ → SF} (hm : r = m) (hE : E σ) (h : ∀ a, Gs I J E e (T a σ) (M a)) : Gs I J E e (rS r σ fun a => T a σ) (bnd m M) := by
  subst hm
  cases r with
  | ok a => exact h a
  | err c fs => exact ⟨σ, rfl, hE⟩
  | bad => exact True.intro
theorem g_pop {i : Nat} {m : R Int} {xs : List β} {M : List β → O S L α} (e' : β → D) (cl : Cl e') (hx : getS σ i = .ok (eLs true e' xs)) (h : Rf (f σ) m D.int) (hE : E σ) (h2 : ∀ ys, Gs I J E e (K (σ.set i (some (eLs true e' ys)))) (M ys)) : Gs I J E e ((sPop i f σ).andThen K) (bnd m fun a => bnd (popT xs a) M) := by
  have q : sPop i f σ = rS (f σ) σ fun y => rS (intOf y) σ fun j => rS (ofR (L2.ixN (xs.map e').length j)) σ fun k => if cleanL (xs.map e') = true ∧ small62 j = true then .nx (σ.set i (some (.lst true ((xs.map e').eraseIdx k)))) else .bad := by
    unfold sPop
    rw [hx]; rfl
  rw [q]
  refine g_val h hE fun j => ?_
  unfold popT
  rw [List.length_map]
  show Gs I J E e ((rS (ofR (L2.ixN xs.length j)) σ _).andThen K) _
  cases L2.ixN xs.length j with
  | none => exact True.intro
  | some k =>
    by_cases hj : small62 j = true
    · show Gs I J E e ((if _ then _ else _ : RS).andThen K) (bnd (if _ then _ else _) _)
      rw [if_pos ⟨cl_map cl xs, hj⟩, if_pos hj]
      have := h2 (xs.eraseIdx k)
      unfold eLs at this
      rw [show (xs.eraseIdx k).map e' = (xs.map e').eraseIdx k by rw [List.eraseIdx_eq_take_drop_succ, List.eraseIdx_eq_take_drop_succ, List.map_append, List.map_take, List.map_drop]] at this
      exact this
    · show Gs I J E e ((if _ then _ else _ : RS).andThen K) (bnd (if _ then _ else _) _)
      rw [if_neg hj]
      exact True.intro
theorem g_ins {i : Nat} {m : R Int} {n : R β} {xs : List β} {M : List β → O S L α} (e' : β → D) (cl : Cl e') (hx : getS σ i = .ok (eLs true e' xs)) (h : Rf (f σ) m D.int) (hn : Rf (k σ) n e') (hE : E σ) (h2 : ∀ ys, Gs I J E e (K (σ.set i (some (eLs true e' ys)))) (M ys)) : Gs I J E e ((sIns i f k σ).andThen K) (bnd m fun j => bnd n fun a => bnd (insT xs j a) M) := by
  have q : sIns i f k σ = rS (f σ) σ fun y => rS (k σ) σ fun z => rS (intOf y) σ fun j => if (cleanL (xs.map e') = true ∧ clean z = true) ∧ (small62 j = true ∧ 0 ≤ j) ∧ (xs.map e').length < sizeLine then .nx (σ.set i (some (.lst true ((xs.map e').take j.toNat ++ [z] ++ (xs.map e').drop j.toNat)))) else .bad := by
    unfold sIns
    rw [hx]; rfl
  rw [q]
  refine g_val h hE fun j => ?_
  refine g_val hn hE fun a => ?_
  unfold insT
  by_cases hj : (small62 j = true ∧ 0 ≤ j) ∧ xs.length < sizeLine
  · show Gs I J E e ((if _ then _ else _ : RS).andThen K) (bnd (if _ then _ else _) _)
    rw [if_pos ⟨⟨cl_map cl xs, cl a⟩, hj.1, by rw [List.length_map]; exact hj.2⟩, if_pos hj]
    have := h2 (xs.take j.toNat ++ [a] ++ xs.drop j.toNat)
    unfold eLs at this
    rw [List.map_append, List.map_append, List.map_take, List.map_drop] at this
    exact this
  · show Gs I J E e ((if _ then _ else _ : RS).andThen K) (bnd (if _ then _ else _) _)
    rw [if_neg hj]
    exact True.intro
theorem g_putL {i : Nat} {mv : R β} {mk : R Int} {xs : List β} {M : List β → O S L α} (e' : β → D) (cl : Cl e') (hx : getS σ i = .ok (eLs true e' xs)) (hv : Rf (fe σ) mv e') (hk : Rf (fk σ) mk D.int) (hE : E σ) (h2 : ∀ ys, Gs I J E e (K (σ.set i (some (eLs true e' ys)))) (M ys)) : Gs I J E e ((sPutL i fk fe σ).andThen K) (bnd mv fun v => bnd mk fun j => bnd (setT xs j v) M) := by
  have q : sPutL i fk fe σ = rS (fe σ) σ fun y => rS (fk σ) σ fun x => rS (intOf x) σ fun j => rS (ofR (L2.ixN (xs.map e').length j)) σ fun k => if clean y = true ∧ cleanL (xs.map e') = true then .nx (σ.set i (some (.lst true ((xs.map e').set k y)))) else .bad := by
    unfold sPutL
    rw [hx]; rfl
  rw [q]
  refine g_val hv hE fun v => ?_
  refine g_val hk hE fun j => ?_
  unfold setT
  rw [List.length_map]
  show Gs I J E e ((rS (ofR (L2.ixN xs.length j)) σ _).andThen K) _
  cases L2.ixN xs.length j with
  | none => exact True.intro
  | some k =>
    show Gs I J E e ((if _ then _ else _ : RS).andThen K) _
    rw [if_pos ⟨cl v, cl_map cl xs⟩]
    have := h2 (xs.set k v)
    unfold eLs at this
    rw [List.map_set] at this
    exact this
/-! list(d) -/
def UK (e : α → D) (κ : α → NestedKey) : Prop := ∀ a, unkey (κ a) = e a
theorem uk_int : UK D.int kInt := fun a => by unfold kInt; rw [unkey]
theorem uk_st : UK eSt kSt := fun a => by unfold kSt; rw [unkey]; rfl
theorem uk_tu : UK eTu kTu := fun a => by cases a <;> (unfold kTu; rw [unkey]; rfl)
theorem uk_t2 {e1 : α → D} {e2 : β → D} {k1 : α → NestedKey} {k2 : β → NestedKey} (h : UK e1 k1) (h2 : UK e2 k2) : UK (eT2 e1 e2) (kT2 k1 k2) := fun a => by
  unfold kT2
  rw [unkey, unkeyL, unkeyL, unkeyL, h, h2]; rfl
theorem unkeyL_map {e1 : α → D} {k1 : α → NestedKey} (h : UK e1 k1) : ∀ xs : List α, unkeyL (xs.map k1) = xs.map e1
  | [] => by rw [List.map_nil, unkeyL]; rfl
  | x :: xs => by rw [List.map_cons, unkeyL, h, unkeyL_map h xs]; rfl
theorem uk_sq {e1 : α → D} {k1 : α → NestedKey} (h : UK e1 k1) : UK (eSq e1) (kSq k1) := fun xs => by
  unfold kSq
  rw [unkey, unkeyL_map h]; rfl
theorem rf_ld {o : Bool} {ek : β → D} {ev : γ → D} {κ : β → NestedKey} {m : R (List (β × γ))} (u : UK ek κ) (h : Rf (f σ) m (eDc o κ ev)) : Rf (eLd (aC f aN) σ) (m.bind fun u => .ok (u.map (·.1))) (eLs true ek) := by
  have q : eLd (aC f aN) σ = (f σ).bind fun x => ldD [x] := by
    unfold eLd aC aN
    cases f σ <;> rfl
  rw [q]
  refine h.bind fun kvs => rf_ok ?_
  show R.ok (D.lst true ((kvs.map fun p => (κ p.1, ev p.2)).map fun p => unkey p.1)) = _
  rw [List.map_map]
  unfold eLs
  rw [List.map_map]
  congr 2
  exact List.map_congr_left fun p _ => u p.1
theorem rf_ld_p {o : Bool} {ek : β → D} {ev : γ → D} {κ : β → NestedKey} {kvs : List (β × γ)} (u : UK ek κ) (h : Rf (f σ) (.ok kvs) (eDc o κ ev)) : Rf (eLd (aC f aN) σ) (.ok (kvs.map (·.1))) (eLs true ek) := rf_ld u h
theorem rf_ld_m {o : Bool} {ek : β → D} {ev : γ → D} {κ : β → NestedKey} {m : R (List (β × γ))} (u : UK ek κ) (h : Rf (f σ) m (eDc o κ ev)) : Rf (eLd (aC f aN) σ) (m.bind fun u => .ok (u.map (·.1))) (eLs true ek) := rf_ld u h
end
end DI
/-! TL15: tuples of the top, split at a sign, int of a text, str -/
namespace DI
open PySem
instance (priority := 2000) beqSt : BEq St := instBEqOfDecidableEq
instance (priority := 2000) lawSt : LawfulBEq St := inferInstanceAs (@LawfulBEq St instBEqOfDecidableEq)
section
variable {σ : Sl} {f k : Sl → R D}
theorem kt_2s (a b : String) : D.tup [D.str (Str.ofString a), D.str (Str.ofString b)] = eT2 eSt eSt (a.toList, b.toList) := by rw [k_str, k_str]; rfl
theorem kt_3s (a b c : String) : D.tup [D.str (Str.ofString a), D.str (Str.ofString b), D.str (Str.ofString c)] = eT3 eSt eSt eSt (a.toList, b.toList, c.toList) := by rw [k_str, k_str, k_str]; rfl
theorem kt_2i (a b : Int) : D.tup [D.int a, D.int b] = eT2 D.int D.int (a, b) := rfl
/-! split -/
def spl (c : Char) : St → List St
  | [] => [[]]
  | d :: s => if d = c then [] :: spl c s else match spl c s with
    | w :: ws => (d :: w) :: ws
    | [] => [[d]]
theorem spl_ne (c : Char) : ∀ s, spl c s ≠ []
  | [] => by simp [spl]
  | d :: s => by
    unfold spl
    split
    · simp
    · split <;> simp
theorem spl_go {c d : Char} (h : d ≠ c) (s : St) : ∃ w ws, spl c s = w :: ws ∧ spl c (d :: s) = (d :: w) :: ws := by
  cases e : spl c s with
  | nil => exact absurd e (spl_ne c s)
  | cons w ws =>
    refine ⟨w, ws, rfl, ?_⟩
    rw [spl, if_neg h, e]
theorem spl_free (c : Char) : ∀ (s : St), ∀ w ∈ spl c s, c ∉ w
  | [], w, hw => by
    have : w = [] := by simpa [spl] using hw
    subst this; simp
  | d :: s, w, hw => by
    by_cases h : d = c
    · rw [spl, if_pos h] at hw
      rcases List.mem_cons.mp hw with rfl | hw
      · simp
      · exact spl_free c s w hw
    · obtain ⟨v, vs, e1, e2⟩ := spl_go h s
      rw [e2] at hw
      have ih := spl_free c s
      rw [e1] at ih
      rcases List.mem_cons.mp hw with rfl | hw
      · intro hm
        rcases List.mem_cons.mp hm with z | z
        · exact h z.symm
        · exact ih v List.mem_cons_self z
      · exact ih w (List.mem_cons_of_mem _ hw)
theorem jn_spl (c : Char) : ∀ s : St, jnS [c] (spl c s) = s
  | [] => by simp [spl, jnS]
  | d :: s => by
    have ih := jn_spl c s
    by_cases h : d = c
    · rw [spl, if_pos h]
      cases e : spl c s with
      | nil => exact absurd e (spl_ne c s)
      | cons w ws =>
        rw [e] at ih
        show [] ++ [c] ++ jnS [c] (w :: ws) = _
        rw [ih, h]; rfl
    · obtain ⟨v, vs, e1, e2⟩ := spl_go h s
      rw [e1] at ih
      rw [e2]
      cases vs with
      | nil =>
        have ih : v = s := ih
        show d :: v = _
        rw [ih]
      | cons u us =>
        have ih : v ++ [c] ++ jnS [c] (u :: us) = s := ih
        show (d :: v) ++ [c] ++ jnS [c] (u :: us) = _
        rw [← ih]; rfl
theorem sD_free {c : Char} {w : St} (h : c ∉ w) : c.toNat ∉ (sD w).cps.toList := by
  rw [sD_cps]
  intro hm
  obtain ⟨d, hd, e⟩ := List.mem_map.mp hm
  rw [toNat_inj e] at hd
  exact h hd
theorem split_sD (c : Char) (s : St) : Txt.split (sD s) (sD [c]) = (spl c s).map sD := by
  have hsep : sD [c] = ⟨#[c.toNat]⟩ := rfl
  refine join_uniq (c := c.toNat) (split_ne _ _) (by have := spl_ne c s; simp [this]) (fun p hp => StrLaws.split_free (sD s) c.toNat p hp) (fun q hq => ?_) ?_
  · obtain ⟨w, hw, rfl⟩ := List.mem_map.mp hq
    exact sD_free (spl_free c s w hw)
  · rw [← hsep, StrLaws.join_split, join_sD, jn_spl]
theorem spl_word {c : Char} : ∀ {w : St}, c ∉ w → spl c w = [w]
  | [], _ => rfl
  | d :: w, h => by
    have hd : d ≠ c := fun e => h (by rw [e]; exact List.mem_cons_self)
    obtain ⟨v, vs, e1, e2⟩ := spl_go hd w
    rw [spl_word (fun m => h (List.mem_cons_of_mem _ m))] at e1
    cases e1
    exact e2
theorem spl_app {c : Char} : ∀ {w : St} (s : St), c ∉ w → spl c (w ++ c :: s) = w :: spl c s
  | [], s, _ => by rw [List.nil_append, spl, if_pos rfl]
  | d :: w, s, h => by
    have hd : d ≠ c := fun e => h (by rw [e]; exact List.mem_cons_self)
    obtain ⟨v, vs, e1, e2⟩ := spl_go hd (w ++ c :: s)
    rw [spl_app s (fun m => h (List.mem_cons_of_mem _ m))] at e1
    cases e1
    exact e2
theorem spl_jn {c : Char} : ∀ {ws : List St}, ws ≠ [] → (∀ w ∈ ws, c ∉ w) → spl c (jnS [c] ws) = ws
  | [], h, _ => absurd rfl h
  | [w], _, h => spl_word (h w List.mem_cons_self)
  | w :: v :: ws, _, h => by
    show spl c (w ++ [c] ++ jnS [c] (v :: ws)) = _
    rw [List.append_assoc]
    show spl c (w ++ c :: jnS [c] (v :: ws)) = _
    rw [spl_app _ (h w List.mem_cons_self), spl_jn (by simp) (fun x hx => h x (List.mem_cons_of_mem _ hx))]
def spT (c : Char) (s : St) : R (List St) := if s.length + 2 ≤ sizeLine then .ok (spl c s) else .bad
theorem rf_sp {c : Char} {t : St} {m : R St} (ht : t = [c]) (h : Rf (f σ) m eSt) (h2 : Rf (k σ) (.ok t) eSt) : Rf (eMt .split f (aC k aN) σ) (m.bind fun s => spT c s) (eLs true eSt) := by
  subst ht
  unfold eMt
  refine h.bind fun s => ?_
  have e : aC k aN σ = .ok (.tup [eSt [c]]) := by unfold aC aN; rw [show k σ = .ok (eSt [c]) from h2]; rfl
  show Rf (if recvOk .split (eSt s) = true then (aC k aN σ).bind fun r => (tupOf r).bind fun ds => mtD .split (eSt s) ds else .bad) _ _
  rw [if_pos (show recvOk .split (eSt s) = true from rfl), e]
  show Rf (if ((sD [c]).length == 0) = false ∧ (sD s).length + 2 ≤ sizeLine then R.ok (D.lst true ((Txt.split (sD s) (sD [c])).map D.str)) else .bad) (spT c s) _
  unfold spT
  refine .guard (fun h => ⟨rfl, by rw [sD_len]; exact h⟩) (rf_ok ?_)
  rw [split_sD, List.map_map]
  rfl
theorem rf_sp_p {c : Char} {t s : St} (ht : t = [c]) (h : Rf (f σ) (.ok s) eSt) (h2 : Rf (k σ) (.ok t) eSt) : Rf (eMt .split f (aC k aN) σ) (spT c s) (eLs true eSt) := rf_sp ht h h2
theorem rf_sp_m {c : Char} {t : St} {m : R St} (ht : t = [c]) (h : Rf (f σ) m eSt) (h2 : Rf (k σ) (.ok t) eSt) : Rf (eMt .split f (aC k aN) σ) (m.bind fun s => spT c s) (eLs true eSt) := rf_sp ht h h2
/-! int(text), str(x) -/
def itT (s : St) : R Int := match PySem.intText? (sD s) with
  | some n => if s.length ≤ 640 then .ok n else .bad
  | none => .bad
theorem rf_it {m : R St} (h : Rf (f σ) m eSt) : Rf (eBi .int (aC f aN) σ) (m.bind fun s => itT s) D.int := by
  have q : eBi .int (aC f aN) σ = (f σ).bind fun x => biD .int [x] := by
    unfold eBi aC aN
    cases f σ <;> rfl
  rw [q]
  refine h.bind fun s => ?_
  show Rf (match PySem.intText? (sD s) with | some n => if (sD s).length ≤ 640 then R.ok (D.int n) else .bad | none => .bad) (itT s) D.int
  unfold itT
  cases PySem.intText? (sD s) with
  | none => exact True.intro
  | some n =>
    show Rf (if (sD s).length ≤ 640 then R.ok (D.int n) else .bad) (if s.length ≤ 640 then R.ok n else .bad) D.int
    rw [sD_len]
    exact .guard id (rf_ok rfl)
theorem rf_it_p {s : St} (h : Rf (f σ) (.ok s) eSt) : Rf (eBi .int (aC f aN) σ) (itT s) D.int := rf_it h
theorem rf_it_m {m : R St} (h : Rf (f σ) m eSt) : Rf (eBi .int (aC f aN) σ) (m.bind fun s => itT s) D.int := rf_it h
def stiT (i : Int) : R St := if i.natAbs.log2 < 1920 then .ok (toString i).toList else .bad
def stuT : Turn → R St
  | .inl i => stiT i
  | .inr s => .ok s
theorem st1 {α β : Type} {e : α → D} {eb : β → D} {M : α → R β} {m : R α} (h : Rf (f σ) m e) (h2 : ∀ a, Rf (stD [e a]) (M a) eb) : Rf (eStr (aC f aN) σ) (m.bind M) eb := by
  have q : eStr (aC f aN) σ = (f σ).bind fun x => stD [x] := by
    unfold eStr aC aN
    cases f σ <;> rfl
  rw [q]
  exact h.bind h2
theorem stD_int (i : Int) : Rf (stD [D.int i]) (stiT i) eSt := by
  show Rf (if i.natAbs.log2 < 1920 then R.ok (D.str (Str.ofString (toString i))) else .bad) (stiT i) eSt
  unfold stiT
  exact .guard id (rf_ok (congrArg R.ok (k_str _)))
theorem rf_strI {m : R Int} (h : Rf (f σ) m D.int) : Rf (eStr (aC f aN) σ) (m.bind fun i => stiT i) eSt := st1 h stD_int
theorem rf_strI_p {i : Int} (h : Rf (f σ) (.ok i) D.int) : Rf (eStr (aC f aN) σ) (stiT i) eSt := rf_strI h
theorem rf_strI_m {m : R Int} (h : Rf (f σ) m D.int) : Rf (eStr (aC f aN) σ) (m.bind fun i => stiT i) eSt := rf_strI h
theorem rf_strT {m : R Turn} (h : Rf (f σ) m eTu) : Rf (eStr (aC f aN) σ) (m.bind fun i => stuT i) eSt := st1 h fun t => by
  cases t with
  | inl i => exact stD_int i
  | inr s => exact rf_ok rfl
theorem rf_strT_p {i : Turn} (h : Rf (f σ) (.ok i) eTu) : Rf (eStr (aC f aN) σ) (stuT i) eSt := rf_strT h
theorem rf_strT_m {m : R Turn} (h : Rf (f σ) m eTu) : Rf (eStr (aC f aN) σ) (m.bind fun i => stuT i) eSt := rf_strT h
end
end DI
namespace DI
open PySem
section
variable {σ : Sl} {F : SF}
/-- a def with no return -/
def runN (m : O Unit Unit Unit) : R Unit := match m with
  | .nx _ => .ok ()
  | .er c fs => .err c fs
  | _ => .bad
theorem g_funN {M : O Unit Unit Unit} (h : Gs (fun _ _ => True) (fun _ _ => True) (fun _ => True) eNon (F σ) M) : Rf (resR (F σ)) (runN M) eNon := by
  cases M with
  | nx s => obtain ⟨σ', q, _⟩ := h; exact congrArg resR q
  | er c fs => obtain ⟨σ', q, _⟩ := h; exact congrArg resR q
  | _ => exact True.intro
end
end DI
/-! TL16: zip with a name ahead, enumerate of zip -/
namespace DI
open PySem
instance (priority := 2000) beqPr {α β : Type} [DecidableEq α] [DecidableEq β] : BEq (α × β) := instBEqOfDecidableEq
instance (priority := 2000) lawPr {α β : Type} [DecidableEq α] [DecidableEq β] : LawfulBEq (α × β) := inferInstanceAs (@LawfulBEq (α × β) instBEqOfDecidableEq)
section
variable {α β : Type} {e : α → D} {e' : β → D} {σ : Sl} {f k : Sl → R D}
theorem u_iZT : iZT f σ = (f σ).bind fun r => (tupOf r).bind zipTD := rfl
theorem u_iEZ : iEZ f σ = (f σ).bind fun r => (tupOf r).bind enZD := rfl
theorem ri_zN {m : R (List α)} {n : R (List β)} (cl : Cl e) (cl' : Cl e') (h : Rf (f σ) m (eSq e)) (h2 : Rf (k σ) n (eSq e')) : Ri (iZT (aC f (aC k aN)) σ) (m.bind fun xs => n.bind fun ys => .ok (xs.zip ys)) (eT2 e e') := by
  simp only [u_iZT, u_aC, u_aN, R.bind_assoc, R.bind_ok, tupOf_tup]
  exact h.bindI fun xs => h2.bindI fun ys => by
    show Ri ((itemsD (eSq e xs)).bind fun xs => (itemsD (eSq e' ys)).bind fun ys => .ok (zipL xs ys)) _ _
    rw [it_Q cl, it_Q cl', R.bind_ok, R.bind_ok, zip_map]; exact rfl
theorem ri_eZ {m : R (List α)} {n : R (List β)} (cl : Cl e) (cl' : Cl e') (h : Rf (f σ) m (eSq e)) (h2 : Rf (k σ) n (eSq e')) : Ri (iEZ (aC f (aC k aN)) σ) (m.bind fun xs => n.bind fun ys => .ok (enT 0 (xs.zip ys))) (eT2 D.int (eT2 e e')) := by
  simp only [u_iEZ, u_aC, u_aN, R.bind_assoc, R.bind_ok, tupOf_tup]
  exact h.bindI fun xs => h2.bindI fun ys => by
    show Ri ((itemsD (eSq e xs)).bind fun xs => (itemsD (eSq e' ys)).bind fun ys => .ok (enumL 0 (zipL xs ys))) _ _
    rw [it_Q cl, it_Q cl', R.bind_ok, R.bind_ok, zip_map, enT_map]; exact rfl
theorem ri_zN_pp {xs : List α} {ys : List β} (c : Cl e) (c' : Cl e') (h0 : Rf (f σ) (.ok xs) (eSq e)) (h1 : Rf (k σ) (.ok ys) (eSq e')) : Ri (iZT (aC f (aC k aN)) σ) (.ok (xs.zip ys)) (eT2 e e') := ri_zN c c' h0 h1
theorem ri_zN_pm {xs : List α} {m1 : R (List β)} (c : Cl e) (c' : Cl e') (h0 : Rf (f σ) (.ok xs) (eSq e)) (h1 : Rf (k σ) m1 (eSq e')) : Ri (iZT (aC f (aC k aN)) σ) (m1.bind fun ys => .ok (xs.zip ys)) (eT2 e e') := ri_zN c c' h0 h1
theorem ri_zN_mp {m0 : R (List α)} {ys : List β} (c : Cl e) (c' : Cl e') (h0 : Rf (f σ) m0 (eSq e)) (h1 : Rf (k σ) (.ok ys) (eSq e')) : Ri (iZT (aC f (aC k aN)) σ) (m0.bind fun xs => .ok (xs.zip ys)) (eT2 e e') := ri_zN c c' h0 h1
theorem ri_zN_mm {m0 : R (List α)} {m1 : R (List β)} (c : Cl e) (c' : Cl e') (h0 : Rf (f σ) m0 (eSq e)) (h1 : Rf (k σ) m1 (eSq e')) : Ri (iZT (aC f (aC k aN)) σ) (m0.bind fun xs => m1.bind fun ys => .ok (xs.zip ys)) (eT2 e e') := ri_zN c c' h0 h1
theorem ri_eZ_pp {xs : List α} {ys : List β} (c : Cl e) (c' : Cl e') (h0 : Rf (f σ) (.ok xs) (eSq e)) (h1 : Rf (k σ) (.ok ys) (eSq e')) : Ri (iEZ (aC f (aC k aN)) σ) (.ok (enT 0 (xs.zip ys))) (eT2 D.int (eT2 e e')) := ri_eZ c c' h0 h1
theorem ri_eZ_pm {xs : List α} {m1 : R (List β)} (c : Cl e) (c' : Cl e') (h0 : Rf (f σ) (.ok xs) (eSq e)) (h1 : Rf (k σ) m1 (eSq e')) : Ri (iEZ (aC f (aC k aN)) σ) (m1.bind fun ys => .ok (enT 0 (xs.zip ys))) (eT2 D.int (eT2 e e')) := ri_eZ c c' h0 h1
theorem ri_eZ_mp {m0 : R (List α)} {ys : List β} (c : Cl e) (c' : Cl e') (h0 : Rf (f σ) m0 (eSq e)) (h1 : Rf (k σ) (.ok ys) (eSq e')) : Ri (iEZ (aC f (aC k aN)) σ) (m0.bind fun xs => .ok (enT 0 (xs.zip ys))) (eT2 D.int (eT2 e e')) := ri_eZ c c' h0 h1
theorem ri_eZ_mm {m0 : R (List α)} {m1 : R (List β)} (c : Cl e) (c' : Cl e') (h0 : Rf (f σ) m0 (eSq e)) (h1 : Rf (k σ) m1 (eSq e')) : Ri (iEZ (aC f (aC k aN)) σ) (m0.bind fun xs => m1.bind fun ys => .ok (enT 0 (xs.zip ys))) (eT2 D.int (eT2 e e')) := ri_eZ c c' h0 h1
end
end DI
/-! TM2: what an outcome shows, refusals too; a dict that numbers a list -/
namespace DI
open PySem
section
variable {α β γ S S' L L' : Type}
def We (m : O S L α) (N : S → Prop) (C B : L → Prop) (Q : α → Prop) (X : Nat → List D → Prop) : Prop :=
  match m with
  | .nx s => N s
  | .ct l => C l
  | .bk l => B l
  | .rt a => Q a
  | .er c fs => X c fs
  | .bad => False
theorem we_run {m : O S L α} {Q : α → Prop} {X : Nat → List D → Prop} (h : We m Nope Nope Nope Q X) : (∃ a, runO m = .ok a ∧ Q a) ∨ ∃ c fs, runO m = .err c fs ∧ X c fs := by
  cases m with
  | rt a => exact .inl ⟨a, rfl, h⟩
  | er c fs => exact .inr ⟨c, fs, rfl, h⟩
  | _ => exact h.elim
/-- the result is just r -/
theorem we_eq {m : O S L α} {r : R α} (h : We m Nope Nope Nope (fun a => r = .ok a) (fun c fs => r = .err c fs)) : runO m = r := by
  rcases we_run h with ⟨a, e, q⟩ | ⟨c, fs, e, q⟩
  · rw [e, q]
  · rw [e, q]
theorem we_of {m : O S L α} {N : S → Prop} {C B : L → Prop} {Q : α → Prop} {X : Nat → List D → Prop} (h : Wp m N C B Q) : We m N C B Q X := by
  cases m with
  | er _ _ => exact h.elim
  | bad => exact h.elim
  | _ => exact h
theorem we_imp {m : O S L α} {N N' : S → Prop} {C C' B B' : L → Prop} {Q Q' : α → Prop} {X X' : Nat → List D → Prop} (h : We m N C B Q X) (hn : ∀ s, N s → N' s) (hc : ∀ s, C s → C' s) (hb : ∀ s, B s → B' s) (hq : ∀ s, Q s → Q' s) (hx : ∀ c fs, X c fs → X' c fs) : We m N' C' B' Q' X' := by
  cases m with
  | nx s => exact hn _ h
  | ct s => exact hc _ h
  | bk s => exact hb _ h
  | rt s => exact hq _ h
  | er c fs => exact hx _ _ h
  | bad => exact h.elim
theorem we_thn {m : O S L α} {M : S → O S' L α} {N : S' → Prop} {C B : L → Prop} {Q : α → Prop} {X : Nat → List D → Prop} (N' : S → Prop) (h : We m N' C B Q X) (h2 : ∀ s, N' s → We (M s) N C B Q X) : We (m.thn M) N C B Q X := by
  cases m with
  | nx s => exact h2 s h
  | bad => exact h.elim
  | _ => exact h
theorem we_forK {F : β → S → O S S α} {Q : α → Prop} {C B : L → Prop} {N : S → Prop} {X : Nat → List D → Prop} (P : Nat → S → Prop) : ∀ (xs : List β) (k : Nat) (s : S), P k s → (∀ i x s, xs[i]? = some x → P (k + i) s → We (F x s) (P (k + i + 1)) (P (k + i + 1)) N Q X) → (∀ s, P (k + xs.length) s → N s) → We (forT xs F s : O S L α) N C B Q X
  | [], k, s, h0, _, hn => hn s h0
  | x :: xs, k, s, h0, h, hn => by
    have q := h 0 x s rfl h0
    have go : ∀ s', P (k + 1) s' → We (forT xs F s' : O S L α) N C B Q X := fun s' p => we_forK P xs (k + 1) s' p (fun i y s hy hi => by
      have := h (i + 1) y s (by simpa using hy) (by rw [show k + (i + 1) = k + 1 + i by omega]; exact hi)
      rw [show k + (i + 1) + 1 = k + 1 + i + 1 by omega] at this
      exact this) (fun s p => hn s (by rw [List.length_cons, show k + (xs.length + 1) = k + 1 + xs.length by omega]; exact p))
    rw [forT_cons]
    cases e : F x s with
    | nx t => rw [e] at q; exact go t q
    | ct t => rw [e] at q; exact go t q
    | bk t => rw [e] at q; exact q
    | rt a => rw [e] at q; exact q
    | er _ _ => rw [e] at q; exact q
    | bad => rw [e] at q; exact q.elim
theorem we_for {F : β → S → O S S α} {M : S → O S' L α} {N : S' → Prop} {C B : L → Prop} {Q : α → Prop} {X : Nat → List D → Prop} {xs : List β} {s : S} (P : Nat → S → Prop) (h0 : P 0 s) (h : ∀ i x s, xs[i]? = some x → P i s → We (F x s) (P (i + 1)) (P (i + 1)) (P xs.length) Q X) (h2 : ∀ s, P xs.length s → We (M s) N C B Q X) : We (O.thn (forT xs F s : O S L α) M) N C B Q X :=
  we_thn (P xs.length) (we_forK P xs 0 s h0 (fun i x s hx hi => by rw [Nat.zero_add] at hi ⊢; exact h i x s hx hi) (fun s p => by rw [Nat.zero_add] at p; exact p)) h2
theorem we_whl {F : S → O S S α} {Cd : S → R Bool} {M : S → O S' L α} {N : S' → Prop} {C B : L → Prop} {Q : α → Prop} {X : Nat → List D → Prop} {s : S} (I : S → Prop) (μ : S → Nat) (Z : S → Prop) (h0 : I s)
    (h : ∀ s, I s → (Cd s = .ok false ∧ Z s) ∨ (Cd s = .ok true ∧ We (F s) (fun s' => I s' ∧ μ s' < μ s) (fun s' => I s' ∧ μ s' < μ s) Z Q X)) (h2 : ∀ s, Z s → We (M s) N C B Q X) : We (O.thn (whlT Cd F s : O S L α) M) N C B Q X := by
  refine we_thn Z ?_ h2
  refine whlT_rule I μ (fun m => We m Z C B Q X) (fun s hi => ?_) s h0
  rcases h s hi with ⟨hc, z⟩ | ⟨hc, ev⟩
  · exact .inl ⟨hc, z⟩
  · refine .inr ⟨hc, ?_⟩
    cases e : F s with
    | nx t => rw [e] at ev; exact .inl ⟨t, .inl rfl, ev.1, ev.2⟩
    | ct t => rw [e] at ev; exact .inl ⟨t, .inr rfl, ev.1, ev.2⟩
    | bk t => rw [e] at ev; exact .inr (.inl ⟨t, rfl, ev⟩)
    | rt a => rw [e] at ev; exact .inr (.inr (.inl ⟨a, rfl, ev⟩))
    | er c fs => rw [e] at ev; exact .inr (.inr (.inr ⟨c, fs, rfl, ev⟩))
    | bad => rw [e] at ev; exact ev.elim
/-! a dict that numbers a list -/
variable [DecidableEq α]
def numD (xs : List α) : List (α × Int) := xs.mapIdx fun i x => (x, (i : Int))
theorem numD_keys (xs : List α) : (numD xs).map (·.1) = xs := by
  unfold numD
  apply List.ext_getElem?
  intro i
  rw [List.getElem?_map, List.getElem?_mapIdx]
  cases xs[i]? <;> rfl
theorem numD_len (xs : List α) : (numD xs).length = xs.length := by unfold numD; simp
theorem numD_has (xs : List α) (a : α) : hasT (numD xs) a = decide (a ∈ xs) := by
  by_cases h : a ∈ xs
  · rw [decide_eq_true h, hasT_iff, numD_keys]; exact h
  · rw [decide_eq_false h]
    cases q : hasT (numD xs) a with
    | false => rfl
    | true => rw [hasT_iff, numD_keys] at q; exact absurd q h
theorem numD_app (xs : List α) (a : α) : numD (xs ++ [a]) = numD xs ++ [(a, (xs.length : Int))] := by unfold numD; simp
theorem numD_put {xs : List α} {a : α} (h : a ∉ xs) (hl : xs.length < 1000000) : puT (numD xs) a (xs.length : Int) = .ok (numD (xs ++ [a])) := by
  rw [puT_ok _ _ (by rw [numD_len]; exact hl), putT_new (by rw [numD_keys]; exact h), numD_app]
theorem numD_get {xs : List α} {i : Nat} {a : α} (nd : xs.Nodup) (h : xs[i]? = some a) : getT (numD xs) a = some (i : Int) := by
  refine getT_of (by rw [numD_keys]; exact nd) ?_
  refine List.mem_of_getElem? (i := i) ?_
  unfold numD
  rw [List.getElem?_mapIdx, h]
  rfl
def ixO (xs : List α) (a : α) : Nat := xs.idxOf a
theorem numD_idx {xs : List α} {a : α} (nd : xs.Nodup) (h : a ∈ xs) : getT (numD xs) a = some ((ixO xs a : Nat) : Int) := by
  refine numD_get nd ?_
  unfold ixO
  rw [List.getElem?_eq_getElem (List.idxOf_lt_length_of_mem h), List.getElem_idxOf]
end
end DI
/-! ### the defs of k29_looker_of_pairs: what they compute, and that they do (printed by gen.py) -/
namespace DI
open PySem PySem.Spec PyProof.Rows L2
def topS (i : Nat) : Stmt := PySem.Challenge.pw_striproam_k29_looker_of_pairs.main.body.getD i (.Pass ⟨0, 0, 0, 0⟩)
abbrev st_p_signs_in : Stmt := topS 1
abbrev st_p_is_room : Stmt := topS 2
abbrev st_p_are_rooms : Stmt := topS 3
abbrev st_p_shows_alike : Stmt := topS 4
abbrev st_l_cell : Stmt := topS 6
abbrev st_l_oneway : Stmt := topS 7
abbrev st_l_firsts : Stmt := topS 8
abbrev st_l_due : Stmt := topS 9
abbrev st_l_turned : Stmt := topS 10
abbrev st_l_spoilt : Stmt := topS 11
abbrev st_l_told : Stmt := topS 12
abbrev st_p_law : Stmt := topS 13
def tE : Nat → List Str := fun c => []
structure Tx (K : PySem.W.Frag) (mg : Str → Option Value) (cE : Nat → Option (Addr × List Str)) : Prop where
  tE : ∀ c C ns, cE c = some (C, ns) → tE c = ns
  b_all : mg "all" = none
  b_bool : mg "bool" = none
  b_enumerate : mg "enumerate" = none
  b_isinstance : mg "isinstance" = none
  b_len : mg "len" = none
  b_list : mg "list" = none
  b_max : mg "max" = none
  b_range : mg "range" = none
  b_tuple : mg "tuple" = none
  b_zip : mg "zip" = none
  d_p_signs_in : TxD K mg "signs_in" st_p_signs_in ["machine"]
  d_p_is_room : TxD K mg "is_room" st_p_is_room ["machine", "number"]
  d_p_are_rooms : TxD K mg "are_rooms" st_p_are_rooms ["one", "two", "pairs"]
  d_p_shows_alike : TxD K mg "shows_alike" st_p_shows_alike ["one", "two", "pairs"]
  d_l_cell : TxD K mg "_law_cell" st_l_cell ["_law_script", "_law_k"]
  d_l_oneway : TxD K mg "_law_oneway" st_l_oneway ["_law_script", "_law_at", "_law_rooms", "_law_signs", "_law_words"]
  d_l_firsts : TxD K mg "_law_firsts" st_l_firsts ["_law_one", "_law_two", "_law_pair"]
  d_l_due : TxD K mg "_law_due" st_l_due ["_law_one", "_law_two", "_law_pairs"]
  d_l_turned : TxD K mg "_law_turned" st_l_turned ["_law_machine", "_law_cut"]
  d_l_spoilt : TxD K mg "_law_spoilt" st_l_spoilt ["_law_pairs", "_law_how", "_law_cell_here"]
  d_l_told : TxD K mg "_law_told" st_l_told ["_law_one", "_law_two", "_law_pairs"]
  d_p_law : TxD K mg "law" st_p_law ["_law_script"]
/- slots of signs_in: 0 machine -/
noncomputable def b_p_signs_in : SF :=
  sRet (eBi .len (aC (eIx (eIx (eV 0) (eK (.int 0))) (eK (.int 0))) (aN)))
noncomputable def h_p_signs_in : List D → R D := runF 1 b_p_signs_in
/- slots of is_room: 0 machine, 1 number -/
noncomputable def b_p_is_room : SF :=
  sRet (eCC .le .lt (eK (.int 0)) (eV 1) (eBi .len (aC (eIx (eV 0) (eK (.int 0))) (aN))))
noncomputable def h_p_is_room : List D → R D := runF 2 b_p_is_room
/- slots of are_rooms: 0 one, 1 two, 2 pairs, 3 here, 4 there -/
noncomputable def b_p_are_rooms : SF :=
  sRet (eBi .all (aC (eComp [3, 4] (.many [3, 4]) (iSeq' (eV 2)) (eT) (eO (eAnd (eF h_p_is_room (aC (eV 0) (aC (eV 3) (aN)))) (eF h_p_is_room (aC (eV 1) (aC (eV 4) (aN))))))) (aN)))
noncomputable def h_p_are_rooms : List D → R D := runF 5 b_p_are_rooms
/- slots of shows_alike: 0 one, 1 two, 2 pairs, 3 known, 4 pair, 5 here, 6 there -/
noncomputable def b_p_shows_alike : SF :=
  sSeq (sIf (eOr (eC .ne (eF h_p_signs_in (aC (eV 0) (aN))) (eF h_p_signs_in (aC (eV 1) (aN)))) (eOr (eC .nmem (eTup (aC (eK (.int 0)) (aC (eK (.int 0)) (aN)))) (eV 2)) (eNot (eF h_p_are_rooms (aC (eV 0) (aC (eV 1) (aC (eV 2) (aN))))))))
    (sRet (eK (.bl false)))
    (sSkip)) <|
  sSeq (sSet 3 (eD0)) <|
  sSeq (sFor (.one 4) (iSeq' (eO (eV 2)))
    (sPutK 3 (eV 4) (eK (.bl true)))) <|
  sSeq (sFor (.many [5, 6]) (iSeq' (eO (eV 2)))
    (sSeq (sIf (eC .ne (eIx (eIx (eV 0) (eK (.int 1))) (eV 5)) (eIx (eIx (eV 1) (eK (.int 1))) (eV 6)))
      (sRet (eK (.bl false)))
      (sSkip)) <|
    sFor (.one 4) (iZT (aC (eO (eIx (eIx (eV 0) (eK (.int 0))) (eV 5))) (aC (eO (eIx (eIx (eV 1) (eK (.int 0))) (eV 6))) (aN))))
      (sIf (eC .nmem (eV 4) (eV 3))
        (sRet (eK (.bl false)))
        (sSkip)))) <|
  sRet (eK (.bl true))
noncomputable def h_p_shows_alike : List D → R D := runF 7 b_p_shows_alike
/- slots of _law_cell: 0 _law_script, 1 _law_k, 2 _law_cell_here, 3 _law_mixed -/
noncomputable def b_l_cell : SF :=
  sSeq (sSet 2 (eK (.int 0))) <|
  sSeq (sIf (eC .gt (eBi .len (aC (eV 0) (aN))) (eK (.int 0)))
    (sSet 2 (eO (eIx (eV 0) (eB .mod (eV 1) (eBi .len (aC (eV 0) (aN)))))))
    (sSkip)) <|
  sSeq (sSet 3 (eB .mod (eB .mul (eB .add (eB .add (eB .mod (eV 2) (eK (.int 2147483647))) (eB .mul (eK (.int 7919)) (eV 1))) (eK (.int 1))) (eK (.int 48271))) (eK (.int 2147483647)))) <|
  sRet (eB .add (eB .mul (eB .fdiv (eV 2) (eK (.int 2147483647))) (eK (.int 2147483659))) (eB .mod (eB .add (eB .mul (eV 3) (eK (.int 69621))) (eB .mul (eK (.int 104729)) (eV 1))) (eK (.int 2147483659))))
noncomputable def h_l_cell : List D → R D := runF 4 b_l_cell
/- slots of _law_oneway: 0 _law_script, 1 _law_at, 2 _law_rooms, 3 _law_signs, 4 _law_words, 5 _law_rows, 6 _law_told_here, 7 _law_room, 8 _law_digits, 9 _law_number, 10 _law_row, 11 _law_k -/
noncomputable def b_l_oneway : SF :=
  sSeq (sSet 5 (eLst (aN))) <|
  sSeq (sSet 6 (eLst (aN))) <|
  sSeq (sFor (.one 7) (iR1 (aC (eV 2) (aN)))
    (sSeq (sSet 8 (eO (eAnd (eC .lt (eB .add (eV 1) (eV 7)) (eBi .len (aC (eV 0) (aN)))) (eC .eq (eB .mod (eIx (eV 0) (eK (.int 0))) (eK (.int 2))) (eK (.int 1)))))) <|
    sSeq (sSet 9 (eB .mod (eF h_l_cell (aC (eV 0) (aC (eB .add (eV 1) (eV 7)) (aN)))) (eK (.int 2147483647)))) <|
    sSeq (sIf (eV 8)
      (sSet 9 (eO (eIx (eV 0) (eB .add (eV 1) (eV 7)))))
      (sSkip)) <|
    sSeq (sSet 10 (eLst (aN))) <|
    sSeq (sFor (.one 11) (iR1 (aC (eV 3) (aN)))
      (sSeq (sIf (eNot (eV 8))
        (sSet 9 (eB .fdiv (eB .mod (eB .add (eB .mul (eV 9) (eK (.int 48271))) (eK (.int 7919))) (eK (.int 2147483647))) (eK (.int 64))))
        (sSkip)) <|
      sSeq (sApp 10 (eB .mod (eV 9) (eV 2))) <|
      sSet 9 (eB .fdiv (eV 9) (eV 2)))) <|
    sSeq (sApp 6 (eO (eIx (eLst (aC (eK (.str "by")) (aC (eK (.str "out")) (aC (eK (.str "ever")) (aN))))) (eB .mod (eV 9) (eV 4))))) <|
    sApp 5 (eBi .tuple (aC (eV 10) (aN))))) <|
  sRet (eTup (aC (eBi .tuple (aC (eV 5) (aN))) (aC (eBi .tuple (aC (eV 6) (aN))) (aN))))
noncomputable def h_l_oneway : List D → R D := runF 12 b_l_oneway
/- slots of _law_firsts: 0 _law_one, 1 _law_two, 2 _law_pair, 3 _law_strips, 4 _law_waiting, 5 _law_at, 6 _law_here, 7 _law_there, 8 _law_k, 9 _law_after -/
noncomputable def b_l_firsts : SF :=
  sSeq (sSet 3 (eDN1 (eV 2) (eK (.str "")))) <|
  sSeq (sSet 4 (eLst (aC (eO (eV 2)) (aN)))) <|
  sSeq (sSet 5 (eK (.int 0))) <|
  sSeq (sWhl (eC .lt (eV 5) (eBi .len (aC (eV 4) (aN))))
    (sSeq (sUnp (.many [6, 7]) (eIx (eV 4) (eV 5))) <|
    sSeq (sFor (.one 8) (iR1 (aC (eBi .len (aC (eIx (eIx (eV 0) (eK (.int 0))) (eV 6)) (aN))) (aN)))
      (sSeq (sSet 9 (eTup (aC (eO (eIx (eIx (eIx (eV 0) (eK (.int 0))) (eV 6)) (eV 8))) (aC (eO (eIx (eIx (eIx (eV 1) (eK (.int 0))) (eV 7)) (eV 8))) (aN))))) <|
      sIf (eC .nmem (eV 9) (eV 3))
        (sSeq (sPutK 3 (eV 9) (eB .add (eIx (eV 3) (eTup (aC (eO (eV 6)) (aC (eO (eV 7)) (aN))))) (eIx (eK (.str "abc")) (eV 8)))) <|
        sApp 4 (eO (eV 9)))
        (sSkip))) <|
    sSet 5 (eB .add (eV 5) (eK (.int 1))))) <|
  sRetV 3
noncomputable def h_l_firsts : List D → R D := runF 10 b_l_firsts
/- slots of _law_due: 0 _law_one, 1 _law_two, 2 _law_pairs, 3 _law_here, 4 _law_there, 5 _law_pair -/
noncomputable def b_l_due : SF :=
  sSeq (sIf (eOr (eC .ne (eBi .len (aC (eIx (eIx (eV 0) (eK (.int 0))) (eK (.int 0))) (aN))) (eBi .len (aC (eIx (eIx (eV 1) (eK (.int 0))) (eK (.int 0))) (aN)))) (eC .nmem (eTup (aC (eK (.int 0)) (aC (eK (.int 0)) (aN)))) (eV 2)))
    (sRet (eK (.bl false)))
    (sSkip)) <|
  sSeq (sFor (.many [3, 4]) (iSeq' (eO (eV 2)))
    (sSeq (sIf (eOr (eNot (eCC .le .lt (eK (.int 0)) (eV 3) (eBi .len (aC (eIx (eV 0) (eK (.int 0))) (aN))))) (eOr (eNot (eCC .le .lt (eK (.int 0)) (eV 4) (eBi .len (aC (eIx (eV 1) (eK (.int 0))) (aN))))) (eC .ne (eIx (eIx (eV 0) (eK (.int 1))) (eV 3)) (eIx (eIx (eV 1) (eK (.int 1))) (eV 4)))))
      (sRet (eK (.bl false)))
      (sSkip)) <|
    sIf (eC .mem (eK (.bl false)) (eComp [5] (.one 5) (iZT (aC (eIx (eIx (eV 0) (eK (.int 0))) (eV 3)) (aC (eIx (eIx (eV 1) (eK (.int 0))) (eV 4)) (aN)))) (eT) (eC .mem (eV 5) (eV 2))))
      (sRet (eK (.bl false)))
      (sSkip))) <|
  sRet (eK (.bl true))
noncomputable def h_l_due : List D → R D := runF 6 b_l_due
/- slots of _law_turned: 0 _law_machine, 1 _law_cut, 2 _law_rows, 3 _law_words, 4 _law_order, 5 _law_place, 6 _law_k, 7 _law_room, 8 _law_made, 9 _law_after -/
noncomputable def b_l_turned : SF :=
  sSeq (sUnp (.many [2, 3]) (eV 0)) <|
  sSeq (sSet 4 (eLR2 (eK (.int 1)) (eBi .len (aC (eV 2) (aN))))) <|
  sSeq (sSet 1 (eB .mod (eV 1) (eBi .max (aC (eK (.int 1)) (aC (eBi .len (aC (eV 4) (aN))) (aN)))))) <|
  sSeq (sSet 4 (eB .add (eB .add (eLst (aC (eK (.int 0)) (aN))) (eSl (eV 4) false (eV 1) true (eK .non))) (eSl (eV 4) true (eK .non) false (eV 1)))) <|
  sSeq (sSet 5 (eD0)) <|
  sFz 4 <| sSeq (sFor (.many [6, 7]) (iEn (aC (eO (eV 4)) (aN)))
    (sPutK 5 (eV 7) (eO (eV 6)))) <|
  sSeq (sSet 8 (eComp [7] (.one 7) (iSeq' (eV 4)) (eT) (eBi .tuple (aC (eComp [9] (.one 9) (iSeq' (eIx (eV 2) (eV 7))) (eT) (eO (eIx (eV 5) (eV 9)))) (aN))))) <|
  sRet (eTup (aC (eBi .tuple (aC (eV 8) (aN))) (aC (eBi .tuple (aC (eComp [7] (.one 7) (iSeq' (eV 4)) (eT) (eO (eIx (eV 3) (eV 7)))) (aN))) (aN))))
noncomputable def h_l_turned : List D → R D := runF 10 b_l_turned
/- slots of _law_spoilt: 0 _law_pairs, 1 _law_how, 2 _law_cell_here, 3 _law_at, 4 _law_made -/
noncomputable def b_l_spoilt : SF :=
  sSeq (sSet 3 (eB .mod (eV 2) (eBi .len (aC (eV 0) (aN))))) <|
  sSeq (sSet 4 (eLi (aC (eV 0) (aN)))) <|
  sSeq (sIf (eC .eq (eV 1) (eK (.int 0)))
    (sPop 4 (eV 3))
    (sSkip)) <|
  sSeq (sIf (eC .eq (eV 1) (eK (.int 1)))
    (sApp 4 (eTup (aC (eB .mod (eB .fdiv (eV 2) (eK (.int 8))) (eK (.int 6))) (aC (eB .mod (eB .fdiv (eV 2) (eK (.int 64))) (eK (.int 6))) (aN)))))
    (sSkip)) <|
  sSeq (sIf (eC .eq (eV 1) (eK (.int 2)))
    (sPutL 4 (eV 3) (eTup (aC (eO (eIx (eIx (eV 4) (eV 3)) (eK (.int 0)))) (aC (eB .add (eK (.int 6)) (eB .mod (eB .fdiv (eV 2) (eK (.int 8))) (eB .pow (eK (.int 10)) (eK (.int 9))))) (aN)))))
    (sSkip)) <|
  sSeq (sIf (eC .eq (eV 1) (eK (.int 3)))
    (sPutL 4 (eV 3) (eTup (aC (eB .sub (eNeg (eK (.int 1))) (eB .mod (eB .fdiv (eV 2) (eK (.int 8))) (eK (.int 6)))) (aC (eO (eIx (eIx (eV 4) (eV 3)) (eK (.int 1)))) (aN)))))
    (sSkip)) <|
  sSeq (sIf (eC .eq (eV 1) (eK (.int 4)))
    (sIns 4 (eV 3) (eTup (aC (eO (eIx (eIx (eV 4) (eV 3)) (eK (.int 0)))) (aC (eB .sub (eNeg (eK (.int 1))) (eB .mod (eB .fdiv (eV 2) (eK (.int 8))) (eK (.int 6)))) (aN)))))
    (sSkip)) <|
  sSeq (sIf (eAnd (eC .eq (eV 1) (eK (.int 5))) (eC .eq (eB .mod (eB .fdiv (eV 2) (eK (.int 8))) (eK (.int 4))) (eK (.int 1))))
    (sSet 4 (eLst (aN)))
    (sSkip)) <|
  sRetV 4
noncomputable def h_l_spoilt : List D → R D := runF 5 b_l_spoilt
/- slots of _law_told: 0 _law_one, 1 _law_two, 2 _law_pairs, 3 _law_handed, 4 _law_found -/
noncomputable def b_l_told : SF :=
  sSeq (sSet 3 (eLi (aC (eV 2) (aN)))) <|
  sSeq (sSet 4 (eF h_p_shows_alike (aC (eV 0) (aC (eV 1) (aC (eV 3) (aN)))))) <|
  sRet (eO (eAnd (eIsi .bool (eV 4)) (eAnd (eC .eq (eV 4) (eF h_l_due (aC (eV 0) (aC (eV 1) (aC (eV 2) (aN)))))) (eC .eq (eV 3) (eV 2)))))
noncomputable def h_l_told : List D → R D := runF 5 b_l_told
/- slots of law: 0 _law_script, 1 _law_cell_here, 2 _law_signs, 3 _law_rooms, 4 _law_one, 5 _law_two, 6 _law_pairs, 7 _law_cut, 8 _law_more, 9 _law_words -/
noncomputable def b_p_law : SF :=
  sSeq (sSet 1 (eF h_l_cell (aC (eV 0) (aC (eK (.int 0)) (aN))))) <|
  sSeq (sSet 2 (eB .add (eK (.int 1)) (eB .mod (eV 1) (eK (.int 3))))) <|
  sSeq (sSet 3 (eB .add (eK (.int 1)) (eB .mod (eB .fdiv (eV 1) (eK (.int 3))) (eK (.int 6))))) <|
  sSeq (sSet 4 (eF h_l_oneway (aC (eV 0) (aC (eK (.int 4)) (aC (eV 3) (aC (eV 2) (aC (eB .add (eK (.int 1)) (eB .mod (eB .fdiv (eV 1) (eK (.int 18))) (eK (.int 3)))) (aN)))))))) <|
  sSeq (sSet 5 (eF h_l_turned (aC (eV 4) (aC (eF h_l_cell (aC (eV 0) (aC (eK (.int 1)) (aN)))) (aN))))) <|
  sSeq (sIf (eC .eq (eB .mod (eB .fdiv (eV 1) (eK (.int 54))) (eK (.int 4))) (eK (.int 1)))
    (sSet 5 (eF h_l_oneway (aC (eV 0) (aC (eB .add (eK (.int 4)) (eV 3)) (aC (eB .add (eK (.int 1)) (eB .mod (eF h_l_cell (aC (eV 0) (aC (eK (.int 1)) (aN)))) (eK (.int 6)))) (aC (eV 2) (aC (eB .add (eK (.int 1)) (eB .mod (eB .fdiv (eV 1) (eK (.int 18))) (eK (.int 2)))) (aN))))))))
    (sSkip)) <|
  sSeq (sSet 6 (eLd (aC (eF h_l_firsts (aC (eV 4) (aC (eV 5) (aC (eTup (aC (eK (.int 0)) (aC (eK (.int 0)) (aN)))) (aN))))) (aN)))) <|
  sSeq (sSet 7 (eB .mod (eF h_l_cell (aC (eV 0) (aC (eK (.int 2)) (aN)))) (eBi .len (aC (eV 6) (aN))))) <|
  sSeq (sSet 6 (eB .add (eB .add (eSl (eV 6) false (eV 7) true (eK .non)) (eSl (eV 6) true (eK .non) false (eV 7))) (eSl (eV 6) true (eK .non) false (eB .mod (eB .fdiv (eF h_l_cell (aC (eV 0) (aC (eK (.int 2)) (aN)))) (eK (.int 64))) (eB .add (eBi .len (aC (eV 6) (aN))) (eK (.int 1))))))) <|
  sSeq (sIf (eNot (eF h_l_told (aC (eV 4) (aC (eV 5) (aC (eV 6) (aN))))))
    (sRet (eK (.bl false)))
    (sSkip)) <|
  sSeq (sSet 8 (eB .mod (eF h_l_cell (aC (eV 0) (aC (eK (.int 3)) (aN)))) (eK (.int 2147483647)))) <|
  sSeq (sIf (eC .eq (eB .mod (eB .fdiv (eV 1) (eK (.int 54))) (eK (.int 8))) (eK (.int 2)))
    (sRet (eF h_l_told (aC (eV 4) (aC (eF h_l_oneway (aC (eV 0) (aC (eK (.int 10)) (aC (eV 3) (aC (eB .add (eK (.int 1)) (eB .mod (eV 2) (eK (.int 3)))) (aC (eK (.int 1)) (aN))))))) (aC (eV 6) (aN))))))
    (sSkip)) <|
  sSeq (sIf (eC .eq (eB .mod (eV 8) (eK (.int 8))) (eK (.int 6)))
    (sSeq (sSet 9 (eLi (aC (eIx (eV 5) (eK (.int 1))) (aN)))) <|
    sSeq (sPutL 9 (eB .mod (eB .fdiv (eV 8) (eK (.int 8))) (eBi .len (aC (eV 9) (aN)))) (eO (eIx (eLst (aC (eK (.str "by")) (aC (eK (.str "out")) (aC (eK (.str "ever")) (aN))))) (eB .mod (eB .fdiv (eV 8) (eK (.int 64))) (eK (.int 3)))))) <|
    sSet 5 (eTup (aC (eO (eIx (eV 5) (eK (.int 0)))) (aC (eBi .tuple (aC (eV 9) (aN))) (aN)))))
    (sSkip)) <|
  sRet (eF h_l_told (aC (eV 4) (aC (eV 5) (aC (eF h_l_spoilt (aC (eV 6) (aC (eB .mod (eV 8) (eK (.int 8))) (aC (eB .fdiv (eV 8) (eK (.int 8))) (aN))))) (aN)))))
noncomputable def h_p_law : List D → R D := runF 10 b_p_law
section
variable {P : Program} {w : World} {K : PySem.W.Frag} {mg : Str → Option Value} {base : Heap} {cE : Nat → Option (Addr × List Str)}
theorem sc_p_signs_in : FnScope ["machine"] ["machine"] (defScope st_p_signs_in) := ⟨rfl, rfl, rfl, by decide +kernel, rfl, by decide +kernel, by decide +kernel⟩
theorem ok_p_signs_in (T : Tx K mg cE) : DefOk P w K mg base ⟨P, w, K, cE, fun _ => none, none⟩ 1 "signs_in" ["machine"] 1 h_p_signs_in :=
  di_def _ T.d_p_signs_in sc_p_signs_in 1 rfl 1 rfl b_p_signs_in fun f cdv A outer s H E hr tk hp => by
  have hu := hu70 hr
  have nd := sc_p_signs_in.nd
  exact ss_one (t_ret (z_len ⟨rfl, rfl, rfl⟩ (z_aC (z_ix hu ⟨rfl, rfl, rfl⟩ (z_ix hu ⟨rfl, rfl, rfl⟩ (z_v 0) (z_i)) (z_i)) (z_aN)) T.b_len))
theorem sc_p_is_room : FnScope ["machine", "number"] ["machine", "number"] (defScope st_p_is_room) := ⟨rfl, rfl, rfl, by decide +kernel, rfl, by decide +kernel, by decide +kernel⟩
theorem ok_p_is_room (T : Tx K mg cE) : DefOk P w K mg base ⟨P, w, K, cE, fun _ => none, none⟩ 1 "is_room" ["machine", "number"] 2 h_p_is_room :=
  di_def _ T.d_p_is_room sc_p_is_room 2 rfl 2 rfl b_p_is_room fun f cdv A outer s H E hr tk hp => by
  have hu := hu70 hr
  have nd := sc_p_is_room.nd
  exact ss_one (t_ret (z_lelt (z_i) (z_v 1) (z_len ⟨rfl, rfl, rfl⟩ (z_aC (z_ix hu ⟨rfl, rfl, rfl⟩ (z_v 0) (z_i)) (z_aN)) T.b_len)))
theorem sc_p_are_rooms : FnScope ["one", "two", "pairs", "here", "there"] ["one", "two", "pairs"] (defScope st_p_are_rooms) := ⟨rfl, rfl, rfl, by decide +kernel, rfl, by decide +kernel, by decide +kernel⟩
theorem ok_p_are_rooms (T : Tx K mg cE) : DefOk P w K mg base ⟨P, w, K, cE, fun _ => none, none⟩ 2 "are_rooms" ["one", "two", "pairs"] 3 h_p_are_rooms :=
  di_def _ T.d_p_are_rooms sc_p_are_rooms 3 rfl 5 rfl b_p_are_rooms fun f cdv A outer s H E hr tk hp => by
  have hu := hu70 hr
  have nd := sc_p_are_rooms.nd
  exact ss_one (t_ret (z_all rfl ⟨rfl, rfl, rfl⟩ (z_aC (z_comp [("here", 3), ("there", 4)] nd (i_seq ⟨rfl, rfl, rfl⟩ (z_v 2)) (fun _ _ _ _ _ => g_many ⟨rfl, rfl, rfl⟩ (g_cons (g_one 3 nd) (g_cons (g_one 4 nd) (g_nil)))) (fun _ _ _ _ _ => sts_nil) (fun _ _ _ _ _ => z_o (z_and (z_call' (ok_p_is_room T) (hr.mono (by decide)) takes0 (z_aC (z_v 0) (z_aC (z_v 3) (z_aN))) (len_aC (len_aC (len_aN)))) (z_one (z_call' (ok_p_is_room T) (hr.mono (by decide)) takes0 (z_aC (z_v 1) (z_aC (z_v 4) (z_aN))) (len_aC (len_aC (len_aN)))))))) (z_aN)) T.b_all))
theorem sc_p_shows_alike : FnScope ["one", "two", "pairs", "known", "pair", "here", "there"] ["one", "two", "pairs"] (defScope st_p_shows_alike) := ⟨rfl, rfl, rfl, by decide +kernel, rfl, by decide +kernel, by decide +kernel⟩
theorem ok_p_shows_alike (T : Tx K mg cE) : DefOk P w K mg base ⟨P, w, K, cE, fun _ => none, none⟩ 3 "shows_alike" ["one", "two", "pairs"] 3 h_p_shows_alike :=
  di_def _ T.d_p_shows_alike sc_p_shows_alike 3 rfl 7 rfl b_p_shows_alike fun f cdv A outer s H E hr tk hp => by
  have hu := hu70 hr
  have nd := sc_p_shows_alike.nd
  exact ss_cons (t_if (y_w (w_or (y_ne hu ⟨rfl, rfl, rfl⟩ (z_call' (ok_p_signs_in T) (hr.mono (by decide)) tk (z_aC (z_v 0) (z_aN)) (len_aC (len_aN))) (z_call' (ok_p_signs_in T) (hr.mono (by decide)) tk (z_aC (z_v 1) (z_aN)) (len_aC (len_aN)))) (w_or (y_nin hu ⟨rfl, rfl, rfl⟩ (z_tup (z_aO (z_i) (z_aO (z_i) (z_aN)))) (z_v 2)) (w_or1 (y_not (y_e (z_call' (ok_p_are_rooms T) (hr.mono (by decide)) tk (z_aC (z_v 0) (z_aC (z_v 1) (z_aC (z_v 2) (z_aN)))) (len_aC (len_aC (len_aC (len_aN)))))))))))
    (ss_one (t_ret (z_b)))
    (ss_nil)) <|
  ss_cons (t_set 3 nd (z_d0)) <|
  ss_cons (t_for hp (i_seq ⟨rfl, rfl, rfl⟩ (z_o (z_v 2))) (g_one 4 nd)
    (ss_one (t_putk 3 hu ⟨rfl, rfl, rfl⟩ (z_b) (z_v 4)))) <|
  ss_cons (t_for hp (i_seq ⟨rfl, rfl, rfl⟩ (z_o (z_v 2))) (g_many ⟨rfl, rfl, rfl⟩ (g_cons (g_one 5 nd) (g_cons (g_one 6 nd) (g_nil))))
    (ss_cons (t_if (y_ne hu ⟨rfl, rfl, rfl⟩ (z_ix hu ⟨rfl, rfl, rfl⟩ (z_ix hu ⟨rfl, rfl, rfl⟩ (z_v 0) (z_i)) (z_v 5)) (z_ix hu ⟨rfl, rfl, rfl⟩ (z_ix hu ⟨rfl, rfl, rfl⟩ (z_v 1) (z_i)) (z_v 6)))
      (ss_one (t_ret (z_b)))
      (ss_nil)) <|
    ss_one (t_for hp (i_zN ⟨rfl, rfl, rfl⟩ (z_aO (z_o (z_ix hu ⟨rfl, rfl, rfl⟩ (z_ix hu ⟨rfl, rfl, rfl⟩ (z_v 0) (z_i)) (z_v 5))) (z_aO (z_o (z_ix hu ⟨rfl, rfl, rfl⟩ (z_ix hu ⟨rfl, rfl, rfl⟩ (z_v 1) (z_i)) (z_v 6))) (z_aN))) T.b_zip) (g_one 4 nd)
      (ss_one (t_if (y_nin hu ⟨rfl, rfl, rfl⟩ (z_v 4) (z_v 3))
        (ss_one (t_ret (z_b)))
        (ss_nil)))))) <|
  ss_one (t_ret (z_b))
theorem sc_l_cell : FnScope ["_law_script", "_law_k", "_law_cell_here", "_law_mixed"] ["_law_script", "_law_k"] (defScope st_l_cell) := ⟨rfl, rfl, rfl, by decide +kernel, rfl, by decide +kernel, by decide +kernel⟩
theorem ok_l_cell (T : Tx K mg cE) : DefOk P w K mg base ⟨P, w, K, cE, fun _ => none, none⟩ 1 "_law_cell" ["_law_script", "_law_k"] 2 h_l_cell :=
  di_def _ T.d_l_cell sc_l_cell 2 rfl 4 rfl b_l_cell fun f cdv A outer s H E hr tk hp => by
  have hu := hu70 hr
  have nd := sc_l_cell.nd
  exact ss_cons (t_set 2 nd (z_i)) <|
  ss_cons (t_if (y_gt (z_len ⟨rfl, rfl, rfl⟩ (z_aC (z_v 0) (z_aN)) T.b_len) (z_i))
    (ss_one (t_set 2 nd (z_o (z_ix hu ⟨rfl, rfl, rfl⟩ (z_v 0) (z_mod (z_v 1) (z_len ⟨rfl, rfl, rfl⟩ (z_aC (z_v 0) (z_aN)) T.b_len))))))
    (ss_nil)) <|
  ss_cons (t_set 3 nd (z_mod (z_mul (z_add ⟨rfl, rfl, rfl⟩ (z_add ⟨rfl, rfl, rfl⟩ (z_mod (z_v 2) (z_i)) (z_mul (z_i) (z_v 1))) (z_i)) (z_i)) (z_i))) <|
  ss_one (t_ret (z_add ⟨rfl, rfl, rfl⟩ (z_mul (z_fdiv (z_v 2) (z_i)) (z_i)) (z_mod (z_add ⟨rfl, rfl, rfl⟩ (z_mul (z_v 3) (z_i)) (z_mul (z_i) (z_v 1))) (z_i))))
theorem sc_l_oneway : FnScope ["_law_script", "_law_at", "_law_rooms", "_law_signs", "_law_words", "_law_rows", "_law_told_here", "_law_room", "_law_digits", "_law_number", "_law_row", "_law_k"] ["_law_script", "_law_at", "_law_rooms", "_law_signs", "_law_words"] (defScope st_l_oneway) := ⟨rfl, rfl, rfl, by decide +kernel, rfl, by decide +kernel, by decide +kernel⟩
theorem ok_l_oneway (T : Tx K mg cE) : DefOk P w K mg base ⟨P, w, K, cE, fun _ => none, none⟩ 2 "_law_oneway" ["_law_script", "_law_at", "_law_rooms", "_law_signs", "_law_words"] 5 h_l_oneway :=
  di_def _ T.d_l_oneway sc_l_oneway 5 rfl 12 rfl b_l_oneway fun f cdv A outer s H E hr tk hp => by
  have hu := hu70 hr
  have nd := sc_l_oneway.nd
  exact ss_cons (t_set 5 nd (z_lst (z_aN))) <|
  ss_cons (t_set 6 nd (z_lst (z_aN))) <|
  ss_cons (t_for hp (i_r1 (z_aC (z_v 2) (z_aN)) T.b_range) (g_one 7 nd)
    (ss_cons (t_set 8 nd (z_o (z_and (z_lt (z_add ⟨rfl, rfl, rfl⟩ (z_v 1) (z_v 7)) (z_len ⟨rfl, rfl, rfl⟩ (z_aC (z_v 0) (z_aN)) T.b_len)) (z_one (z_eq hu ⟨rfl, rfl, rfl⟩ (z_mod (z_ix hu ⟨rfl, rfl, rfl⟩ (z_v 0) (z_i)) (z_i)) (z_i)))))) <|
    ss_cons (t_set 9 nd (z_mod (z_call' (ok_l_cell T) (hr.mono (by decide)) tk (z_aC (z_v 0) (z_aC (z_add ⟨rfl, rfl, rfl⟩ (z_v 1) (z_v 7)) (z_aN))) (len_aC (len_aC (len_aN)))) (z_i))) <|
    ss_cons (t_if (y_e (z_v 8))
      (ss_one (t_set 9 nd (z_o (z_ix hu ⟨rfl, rfl, rfl⟩ (z_v 0) (z_add ⟨rfl, rfl, rfl⟩ (z_v 1) (z_v 7))))))
      (ss_nil)) <|
    ss_cons (t_set 10 nd (z_lst (z_aN))) <|
    ss_cons (t_for hp (i_r1 (z_aC (z_v 3) (z_aN)) T.b_range) (g_one 11 nd)
      (ss_cons (t_if (y_not (y_e (z_v 8)))
        (ss_one (t_set 9 nd (z_fdiv (z_mod (z_add ⟨rfl, rfl, rfl⟩ (z_mul (z_v 9) (z_i)) (z_i)) (z_i)) (z_i))))
        (ss_nil)) <|
      ss_cons (t_app 10 ⟨rfl, rfl, rfl⟩ (z_mod (z_v 9) (z_v 2))) <|
      ss_one (t_set 9 nd (z_fdiv (z_v 9) (z_v 2))))) <|
    ss_cons (t_app 6 ⟨rfl, rfl, rfl⟩ (z_o (z_ix hu ⟨rfl, rfl, rfl⟩ (z_lst (z_aO (z_s) (z_aO (z_s) (z_aO (z_s) (z_aN))))) (z_mod (z_v 9) (z_v 4))))) <|
    ss_one (t_app 5 ⟨rfl, rfl, rfl⟩ (z_tuple ⟨rfl, rfl, rfl⟩ (z_aC (z_v 10) (z_aN)) T.b_tuple)))) <|
  ss_one (t_ret (z_tup (z_aO (z_tuple ⟨rfl, rfl, rfl⟩ (z_aC (z_v 5) (z_aN)) T.b_tuple) (z_aO (z_tuple ⟨rfl, rfl, rfl⟩ (z_aC (z_v 6) (z_aN)) T.b_tuple) (z_aN)))))
theorem sc_l_firsts : FnScope ["_law_one", "_law_two", "_law_pair", "_law_strips", "_law_waiting", "_law_at", "_law_here", "_law_there", "_law_k", "_law_after"] ["_law_one", "_law_two", "_law_pair"] (defScope st_l_firsts) := ⟨rfl, rfl, rfl, by decide +kernel, rfl, by decide +kernel, by decide +kernel⟩
theorem ok_l_firsts (T : Tx K mg cE) : DefOk P w K mg base ⟨P, w, K, cE, fun _ => none, none⟩ 1 "_law_firsts" ["_law_one", "_law_two", "_law_pair"] 3 h_l_firsts :=
  di_def _ T.d_l_firsts sc_l_firsts 3 rfl 10 rfl b_l_firsts fun f cdv A outer s H E hr tk hp => by
  have hu := hu70 hr
  have nd := sc_l_firsts.nd
  exact ss_cons (t_set 3 nd (z_dN1 hu ⟨rfl, rfl, rfl⟩ (z_v 2) (z_s))) <|
  ss_cons (t_set 4 nd (z_lst (z_aO (z_o (z_v 2)) (z_aN)))) <|
  ss_cons (t_set 5 nd (z_i)) <|
  ss_cons (t_whl hp (y_lt (z_v 5) (z_len ⟨rfl, rfl, rfl⟩ (z_aC (z_v 4) (z_aN)) T.b_len))
    (ss_cons (t_unp (z_ix hu ⟨rfl, rfl, rfl⟩ (z_v 4) (z_v 5)) (g_many ⟨rfl, rfl, rfl⟩ (g_cons (g_one 6 nd) (g_cons (g_one 7 nd) (g_nil))))) <|
    ss_cons (t_for hp (i_r1 (z_aC (z_len ⟨rfl, rfl, rfl⟩ (z_aC (z_ix hu ⟨rfl, rfl, rfl⟩ (z_ix hu ⟨rfl, rfl, rfl⟩ (z_v 0) (z_i)) (z_v 6)) (z_aN)) T.b_len) (z_aN)) T.b_range) (g_one 8 nd)
      (ss_cons (t_set 9 nd (z_tup (z_aO (z_o (z_ix hu ⟨rfl, rfl, rfl⟩ (z_ix hu ⟨rfl, rfl, rfl⟩ (z_ix hu ⟨rfl, rfl, rfl⟩ (z_v 0) (z_i)) (z_v 6)) (z_v 8))) (z_aO (z_o (z_ix hu ⟨rfl, rfl, rfl⟩ (z_ix hu ⟨rfl, rfl, rfl⟩ (z_ix hu ⟨rfl, rfl, rfl⟩ (z_v 1) (z_i)) (z_v 7)) (z_v 8))) (z_aN))))) <|
      ss_one (t_if (y_nin hu ⟨rfl, rfl, rfl⟩ (z_v 9) (z_v 3))
        (ss_cons (t_putk 3 hu ⟨rfl, rfl, rfl⟩ (z_add ⟨rfl, rfl, rfl⟩ (z_ix hu ⟨rfl, rfl, rfl⟩ (z_v 3) (z_tup (z_aO (z_o (z_v 6)) (z_aO (z_o (z_v 7)) (z_aN))))) (z_ix hu ⟨rfl, rfl, rfl⟩ (z_s) (z_v 8))) (z_v 9)) <|
        ss_one (t_app 4 ⟨rfl, rfl, rfl⟩ (z_o (z_v 9))))
        (ss_nil)))) <|
    ss_one (t_set 5 nd (z_add ⟨rfl, rfl, rfl⟩ (z_v 5) (z_i))))) <|
  ss_one (t_retV 3)
theorem sc_l_due : FnScope ["_law_one", "_law_two", "_law_pairs", "_law_here", "_law_there", "_law_pair"] ["_law_one", "_law_two", "_law_pairs"] (defScope st_l_due) := ⟨rfl, rfl, rfl, by decide +kernel, rfl, by decide +kernel, by decide +kernel⟩
theorem ok_l_due (T : Tx K mg cE) : DefOk P w K mg base ⟨P, w, K, cE, fun _ => none, none⟩ 1 "_law_due" ["_law_one", "_law_two", "_law_pairs"] 3 h_l_due :=
  di_def _ T.d_l_due sc_l_due 3 rfl 6 rfl b_l_due fun f cdv A outer s H E hr tk hp => by
  have hu := hu70 hr
  have nd := sc_l_due.nd
  exact ss_cons (t_if (y_w (w_or (y_ne hu ⟨rfl, rfl, rfl⟩ (z_len ⟨rfl, rfl, rfl⟩ (z_aC (z_ix hu ⟨rfl, rfl, rfl⟩ (z_ix hu ⟨rfl, rfl, rfl⟩ (z_v 0) (z_i)) (z_i)) (z_aN)) T.b_len) (z_len ⟨rfl, rfl, rfl⟩ (z_aC (z_ix hu ⟨rfl, rfl, rfl⟩ (z_ix hu ⟨rfl, rfl, rfl⟩ (z_v 1) (z_i)) (z_i)) (z_aN)) T.b_len)) (w_or1 (y_nin hu ⟨rfl, rfl, rfl⟩ (z_tup (z_aO (z_i) (z_aO (z_i) (z_aN)))) (z_v 2)))))
    (ss_one (t_ret (z_b)))
    (ss_nil)) <|
  ss_cons (t_for hp (i_seq ⟨rfl, rfl, rfl⟩ (z_o (z_v 2))) (g_many ⟨rfl, rfl, rfl⟩ (g_cons (g_one 3 nd) (g_cons (g_one 4 nd) (g_nil))))
    (ss_cons (t_if (y_w (w_or (y_not (y_lelt (z_i) (z_v 3) (z_len ⟨rfl, rfl, rfl⟩ (z_aC (z_ix hu ⟨rfl, rfl, rfl⟩ (z_v 0) (z_i)) (z_aN)) T.b_len))) (w_or (y_not (y_lelt (z_i) (z_v 4) (z_len ⟨rfl, rfl, rfl⟩ (z_aC (z_ix hu ⟨rfl, rfl, rfl⟩ (z_v 1) (z_i)) (z_aN)) T.b_len))) (w_or1 (y_ne hu ⟨rfl, rfl, rfl⟩ (z_ix hu ⟨rfl, rfl, rfl⟩ (z_ix hu ⟨rfl, rfl, rfl⟩ (z_v 0) (z_i)) (z_v 3)) (z_ix hu ⟨rfl, rfl, rfl⟩ (z_ix hu ⟨rfl, rfl, rfl⟩ (z_v 1) (z_i)) (z_v 4)))))))
      (ss_one (t_ret (z_b)))
      (ss_nil)) <|
    ss_one (t_if (y_in hu ⟨rfl, rfl, rfl⟩ (z_b) (z_comp [("_law_pair", 5)] nd (i_zN ⟨rfl, rfl, rfl⟩ (z_aC (z_ix hu ⟨rfl, rfl, rfl⟩ (z_ix hu ⟨rfl, rfl, rfl⟩ (z_v 0) (z_i)) (z_v 3)) (z_aC (z_ix hu ⟨rfl, rfl, rfl⟩ (z_ix hu ⟨rfl, rfl, rfl⟩ (z_v 1) (z_i)) (z_v 4)) (z_aN))) T.b_zip) (fun _ _ _ _ _ => g_one 5 nd) (fun _ _ _ _ _ => sts_nil) (fun _ _ _ _ _ => z_in hu ⟨rfl, rfl, rfl⟩ (z_v 5) (z_v 2))))
      (ss_one (t_ret (z_b)))
      (ss_nil)))) <|
  ss_one (t_ret (z_b))
theorem sc_l_turned : FnScope ["_law_machine", "_law_cut", "_law_rows", "_law_words", "_law_order", "_law_place", "_law_k", "_law_room", "_law_made", "_law_after"] ["_law_machine", "_law_cut"] (defScope st_l_turned) := ⟨rfl, rfl, rfl, by decide +kernel, rfl, by decide +kernel, by decide +kernel⟩
theorem ok_l_turned (T : Tx K mg cE) : DefOk P w K mg base ⟨P, w, K, cE, fun _ => none, none⟩ 1 "_law_turned" ["_law_machine", "_law_cut"] 2 h_l_turned :=
  di_def _ T.d_l_turned sc_l_turned 2 rfl 10 rfl b_l_turned fun f cdv A outer s H E hr tk hp => by
  have hu := hu70 hr
  have nd := sc_l_turned.nd
  exact ss_cons (t_unp (z_v 0) (g_many ⟨rfl, rfl, rfl⟩ (g_cons (g_one 2 nd) (g_cons (g_one 3 nd) (g_nil))))) <|
  ss_cons (t_set 4 nd (z_lrg2 (z_i) (z_len ⟨rfl, rfl, rfl⟩ (z_aC (z_v 2) (z_aN)) T.b_len) T.b_list T.b_range)) <|
  ss_cons (t_set 1 nd (z_mod (z_v 1) (z_max rfl (z_aC (z_i) (z_aC (z_len ⟨rfl, rfl, rfl⟩ (z_aC (z_v 4) (z_aN)) T.b_len) (z_aN))) T.b_max))) <|
  ss_cons (t_set 4 nd (z_add ⟨rfl, rfl, rfl⟩ (z_add ⟨rfl, rfl, rfl⟩ (z_lst (z_aO (z_i) (z_aN))) (z_sl ⟨rfl, rfl, rfl⟩ (z_v 4) (z_pe (z_v 1)) z_pn)) (z_sl ⟨rfl, rfl, rfl⟩ (z_v 4) z_pn (z_pe (z_v 1))))) <|
  ss_cons (t_set 5 nd (z_d0)) <|
  ss_fz (i := 4) <| ss_cons (t_for hp (i_en ⟨rfl, rfl, rfl⟩ (z_aO (z_o (z_v 4)) (z_aN)) T.b_enumerate) (g_many ⟨rfl, rfl, rfl⟩ (g_cons (g_one 6 nd) (g_cons (g_one 7 nd) (g_nil))))
    (ss_one (t_putk 5 hu ⟨rfl, rfl, rfl⟩ (z_o (z_v 6)) (z_v 7)))) <|
  ss_cons (t_lc 8 [("_law_room", 7)] nd (i_seq ⟨rfl, rfl, rfl⟩ (z_v 4)) (fun _ _ _ _ _ => g_one 7 nd) (fun _ _ _ _ _ => sts_nil) (fun _ _ _ _ _ => z_tuple ⟨rfl, rfl, rfl⟩ (z_aC (z_comp [("_law_after", 9)] nd (i_seq ⟨rfl, rfl, rfl⟩ (z_ix hu ⟨rfl, rfl, rfl⟩ (z_v 2) (z_v 7))) (fun _ _ _ _ _ => g_one 9 nd) (fun _ _ _ _ _ => sts_nil) (fun _ _ _ _ _ => z_o (z_ix hu ⟨rfl, rfl, rfl⟩ (z_v 5) (z_v 9)))) (z_aN)) T.b_tuple)) <|
  ss_one (t_ret (z_tup (z_aO (z_tuple ⟨rfl, rfl, rfl⟩ (z_aC (z_v 8) (z_aN)) T.b_tuple) (z_aO (z_tuple ⟨rfl, rfl, rfl⟩ (z_aC (z_comp [("_law_room", 7)] nd (i_seq ⟨rfl, rfl, rfl⟩ (z_v 4)) (fun _ _ _ _ _ => g_one 7 nd) (fun _ _ _ _ _ => sts_nil) (fun _ _ _ _ _ => z_o (z_ix hu ⟨rfl, rfl, rfl⟩ (z_v 3) (z_v 7)))) (z_aN)) T.b_tuple) (z_aN)))))
theorem sc_l_spoilt : FnScope ["_law_pairs", "_law_how", "_law_cell_here", "_law_at", "_law_made"] ["_law_pairs", "_law_how", "_law_cell_here"] (defScope st_l_spoilt) := ⟨rfl, rfl, rfl, by decide +kernel, rfl, by decide +kernel, by decide +kernel⟩
theorem ok_l_spoilt (T : Tx K mg cE) : DefOk P w K mg base ⟨P, w, K, cE, fun _ => none, none⟩ 1 "_law_spoilt" ["_law_pairs", "_law_how", "_law_cell_here"] 3 h_l_spoilt :=
  di_def _ T.d_l_spoilt sc_l_spoilt 3 rfl 5 rfl b_l_spoilt fun f cdv A outer s H E hr tk hp => by
  have hu := hu70 hr
  have nd := sc_l_spoilt.nd
  exact ss_cons (t_set 3 nd (z_mod (z_v 2) (z_len ⟨rfl, rfl, rfl⟩ (z_aC (z_v 0) (z_aN)) T.b_len))) <|
  ss_cons (t_set 4 nd (z_li rfl ⟨rfl, rfl, rfl⟩ (z_aC (z_v 0) (z_aN)) T.b_list)) <|
  ss_cons (t_if (y_eq hu ⟨rfl, rfl, rfl⟩ (z_v 1) (z_i))
    (ss_one (t_pop 4 (z_v 3)))
    (ss_nil)) <|
  ss_cons (t_if (y_eq hu ⟨rfl, rfl, rfl⟩ (z_v 1) (z_i))
    (ss_one (t_app 4 ⟨rfl, rfl, rfl⟩ (z_tup (z_aO (z_mod (z_fdiv (z_v 2) (z_i)) (z_i)) (z_aO (z_mod (z_fdiv (z_v 2) (z_i)) (z_i)) (z_aN))))))
    (ss_nil)) <|
  ss_cons (t_if (y_eq hu ⟨rfl, rfl, rfl⟩ (z_v 1) (z_i))
    (ss_one (t_putL 4 (z_tup (z_aO (z_o (z_ix hu ⟨rfl, rfl, rfl⟩ (z_ix hu ⟨rfl, rfl, rfl⟩ (z_v 4) (z_v 3)) (z_i))) (z_aO (z_add ⟨rfl, rfl, rfl⟩ (z_i) (z_mod (z_fdiv (z_v 2) (z_i)) (z_pow (z_i) (z_i)))) (z_aN)))) (z_v 3)))
    (ss_nil)) <|
  ss_cons (t_if (y_eq hu ⟨rfl, rfl, rfl⟩ (z_v 1) (z_i))
    (ss_one (t_putL 4 (z_tup (z_aO (z_sub (z_neg (z_i)) (z_mod (z_fdiv (z_v 2) (z_i)) (z_i))) (z_aO (z_o (z_ix hu ⟨rfl, rfl, rfl⟩ (z_ix hu ⟨rfl, rfl, rfl⟩ (z_v 4) (z_v 3)) (z_i))) (z_aN)))) (z_v 3)))
    (ss_nil)) <|
  ss_cons (t_if (y_eq hu ⟨rfl, rfl, rfl⟩ (z_v 1) (z_i))
    (ss_one (t_ins 4 (z_v 3) (z_tup (z_aO (z_o (z_ix hu ⟨rfl, rfl, rfl⟩ (z_ix hu ⟨rfl, rfl, rfl⟩ (z_v 4) (z_v 3)) (z_i))) (z_aO (z_sub (z_neg (z_i)) (z_mod (z_fdiv (z_v 2) (z_i)) (z_i))) (z_aN))))))
    (ss_nil)) <|
  ss_cons (t_if (y_w (w_and (y_eq hu ⟨rfl, rfl, rfl⟩ (z_v 1) (z_i)) (w_and1 (y_eq hu ⟨rfl, rfl, rfl⟩ (z_mod (z_fdiv (z_v 2) (z_i)) (z_i)) (z_i)))))
    (ss_one (t_set 4 nd (z_lst (z_aN))))
    (ss_nil)) <|
  ss_one (t_retV 4)
theorem sc_l_told : FnScope ["_law_one", "_law_two", "_law_pairs", "_law_handed", "_law_found"] ["_law_one", "_law_two", "_law_pairs"] (defScope st_l_told) := ⟨rfl, rfl, rfl, by decide +kernel, rfl, by decide +kernel, by decide +kernel⟩
theorem ok_l_told (T : Tx K mg cE) : DefOk P w K mg base ⟨P, w, K, cE, fun _ => none, none⟩ 4 "_law_told" ["_law_one", "_law_two", "_law_pairs"] 3 h_l_told :=
  di_def _ T.d_l_told sc_l_told 3 rfl 5 rfl b_l_told fun f cdv A outer s H E hr tk hp => by
  have hu := hu70 hr
  have nd := sc_l_told.nd
  exact ss_cons (t_set 3 nd (z_li rfl ⟨rfl, rfl, rfl⟩ (z_aC (z_v 2) (z_aN)) T.b_list)) <|
  ss_cons (t_set 4 nd (z_call' (ok_p_shows_alike T) (hr.mono (by decide)) tk (z_aC (z_v 0) (z_aC (z_v 1) (z_aC (z_v 3) (z_aN)))) (len_aC (len_aC (len_aC (len_aN)))))) <|
  ss_one (t_ret (z_o (z_and (z_isi ⟨rfl, rfl, rfl⟩ .bool (z_v 4) T.b_isinstance T.b_bool) (z_and (z_eq hu ⟨rfl, rfl, rfl⟩ (z_v 4) (z_call' (ok_l_due T) (hr.mono (by decide)) tk (z_aC (z_v 0) (z_aC (z_v 1) (z_aC (z_v 2) (z_aN)))) (len_aC (len_aC (len_aC (len_aN)))))) (z_one (z_eq hu ⟨rfl, rfl, rfl⟩ (z_v 3) (z_v 2)))))))
theorem sc_p_law : FnScope ["_law_script", "_law_cell_here", "_law_signs", "_law_rooms", "_law_one", "_law_two", "_law_pairs", "_law_cut", "_law_more", "_law_words"] ["_law_script"] (defScope st_p_law) := ⟨rfl, rfl, rfl, by decide +kernel, rfl, by decide +kernel, by decide +kernel⟩
theorem ok_p_law (T : Tx K mg cE) {f : Addr} {fd : FuncData} (F : Fun K "law" "law" st_p_law f fd) : FnOk P w K mg base (L2.CX P w) 5 f fd ["_law_script"] (spI ⟨P, w, K, cE, fun _ => none, none⟩ 1 h_p_law) :=
  di_fn _ F sc_p_law 1 rfl 10 rfl b_p_law fun cdv A outer s H E hr tk hp => by
  have hu := hu70 hr
  have nd := sc_p_law.nd
  exact ss_cons (t_set 1 nd (z_call' (ok_l_cell T) (hr.mono (by decide)) tk (z_aC (z_v 0) (z_aC (z_i) (z_aN))) (len_aC (len_aC (len_aN))))) <|
  ss_cons (t_set 2 nd (z_add ⟨rfl, rfl, rfl⟩ (z_i) (z_mod (z_v 1) (z_i)))) <|
  ss_cons (t_set 3 nd (z_add ⟨rfl, rfl, rfl⟩ (z_i) (z_mod (z_fdiv (z_v 1) (z_i)) (z_i)))) <|
  ss_cons (t_set 4 nd (z_call' (ok_l_oneway T) (hr.mono (by decide)) tk (z_aC (z_v 0) (z_aC (z_i) (z_aC (z_v 3) (z_aC (z_v 2) (z_aC (z_add ⟨rfl, rfl, rfl⟩ (z_i) (z_mod (z_fdiv (z_v 1) (z_i)) (z_i))) (z_aN)))))) (len_aC (len_aC (len_aC (len_aC (len_aC (len_aN)))))))) <|
  ss_cons (t_set 5 nd (z_call' (ok_l_turned T) (hr.mono (by decide)) tk (z_aC (z_v 4) (z_aC (z_call' (ok_l_cell T) (hr.mono (by decide)) tk (z_aC (z_v 0) (z_aC (z_i) (z_aN))) (len_aC (len_aC (len_aN)))) (z_aN))) (len_aC (len_aC (len_aN))))) <|
  ss_cons (t_if (y_eq hu ⟨rfl, rfl, rfl⟩ (z_mod (z_fdiv (z_v 1) (z_i)) (z_i)) (z_i))
    (ss_one (t_set 5 nd (z_call' (ok_l_oneway T) (hr.mono (by decide)) tk (z_aC (z_v 0) (z_aC (z_add ⟨rfl, rfl, rfl⟩ (z_i) (z_v 3)) (z_aC (z_add ⟨rfl, rfl, rfl⟩ (z_i) (z_mod (z_call' (ok_l_cell T) (hr.mono (by decide)) tk (z_aC (z_v 0) (z_aC (z_i) (z_aN))) (len_aC (len_aC (len_aN)))) (z_i))) (z_aC (z_v 2) (z_aC (z_add ⟨rfl, rfl, rfl⟩ (z_i) (z_mod (z_fdiv (z_v 1) (z_i)) (z_i))) (z_aN)))))) (len_aC (len_aC (len_aC (len_aC (len_aC (len_aN)))))))))
    (ss_nil)) <|
  ss_cons (t_set 6 nd (z_ld rfl ⟨rfl, rfl, rfl⟩ (z_aC (z_call' (ok_l_firsts T) (hr.mono (by decide)) tk (z_aC (z_v 4) (z_aC (z_v 5) (z_aC (z_tup (z_aO (z_i) (z_aO (z_i) (z_aN)))) (z_aN)))) (len_aC (len_aC (len_aC (len_aN))))) (z_aN)) T.b_list)) <|
  ss_cons (t_set 7 nd (z_mod (z_call' (ok_l_cell T) (hr.mono (by decide)) tk (z_aC (z_v 0) (z_aC (z_i) (z_aN))) (len_aC (len_aC (len_aN)))) (z_len ⟨rfl, rfl, rfl⟩ (z_aC (z_v 6) (z_aN)) T.b_len))) <|
  ss_cons (t_set 6 nd (z_add ⟨rfl, rfl, rfl⟩ (z_add ⟨rfl, rfl, rfl⟩ (z_sl ⟨rfl, rfl, rfl⟩ (z_v 6) (z_pe (z_v 7)) z_pn) (z_sl ⟨rfl, rfl, rfl⟩ (z_v 6) z_pn (z_pe (z_v 7)))) (z_sl ⟨rfl, rfl, rfl⟩ (z_v 6) z_pn (z_pe (z_mod (z_fdiv (z_call' (ok_l_cell T) (hr.mono (by decide)) tk (z_aC (z_v 0) (z_aC (z_i) (z_aN))) (len_aC (len_aC (len_aN)))) (z_i)) (z_add ⟨rfl, rfl, rfl⟩ (z_len ⟨rfl, rfl, rfl⟩ (z_aC (z_v 6) (z_aN)) T.b_len) (z_i))))))) <|
  ss_cons (t_if (y_not (y_e (z_call' (ok_l_told T) (hr.mono (by decide)) tk (z_aC (z_v 4) (z_aC (z_v 5) (z_aC (z_v 6) (z_aN)))) (len_aC (len_aC (len_aC (len_aN)))))))
    (ss_one (t_ret (z_b)))
    (ss_nil)) <|
  ss_cons (t_set 8 nd (z_mod (z_call' (ok_l_cell T) (hr.mono (by decide)) tk (z_aC (z_v 0) (z_aC (z_i) (z_aN))) (len_aC (len_aC (len_aN)))) (z_i))) <|
  ss_cons (t_if (y_eq hu ⟨rfl, rfl, rfl⟩ (z_mod (z_fdiv (z_v 1) (z_i)) (z_i)) (z_i))
    (ss_one (t_ret (z_call' (ok_l_told T) (hr.mono (by decide)) tk (z_aC (z_v 4) (z_aC (z_call' (ok_l_oneway T) (hr.mono (by decide)) tk (z_aC (z_v 0) (z_aC (z_i) (z_aC (z_v 3) (z_aC (z_add ⟨rfl, rfl, rfl⟩ (z_i) (z_mod (z_v 2) (z_i))) (z_aC (z_i) (z_aN)))))) (len_aC (len_aC (len_aC (len_aC (len_aC (len_aN))))))) (z_aC (z_v 6) (z_aN)))) (len_aC (len_aC (len_aC (len_aN)))))))
    (ss_nil)) <|
  ss_cons (t_if (y_eq hu ⟨rfl, rfl, rfl⟩ (z_mod (z_v 8) (z_i)) (z_i))
    (ss_cons (t_set 9 nd (z_li rfl ⟨rfl, rfl, rfl⟩ (z_aC (z_ix hu ⟨rfl, rfl, rfl⟩ (z_v 5) (z_i)) (z_aN)) T.b_list)) <|
    ss_cons (t_putL 9 (z_o (z_ix hu ⟨rfl, rfl, rfl⟩ (z_lst (z_aO (z_s) (z_aO (z_s) (z_aO (z_s) (z_aN))))) (z_mod (z_fdiv (z_v 8) (z_i)) (z_i)))) (z_mod (z_fdiv (z_v 8) (z_i)) (z_len ⟨rfl, rfl, rfl⟩ (z_aC (z_v 9) (z_aN)) T.b_len))) <|
    ss_one (t_set 5 nd (z_tup (z_aO (z_o (z_ix hu ⟨rfl, rfl, rfl⟩ (z_v 5) (z_i))) (z_aO (z_tuple ⟨rfl, rfl, rfl⟩ (z_aC (z_v 9) (z_aN)) T.b_tuple) (z_aN))))))
    (ss_nil)) <|
  ss_one (t_ret (z_call' (ok_l_told T) (hr.mono (by decide)) tk (z_aC (z_v 4) (z_aC (z_v 5) (z_aC (z_call' (ok_l_spoilt T) (hr.mono (by decide)) tk (z_aC (z_v 6) (z_aC (z_mod (z_v 8) (z_i)) (z_aC (z_fdiv (z_v 8) (z_i)) (z_aN)))) (len_aC (len_aC (len_aC (len_aN))))) (z_aN)))) (len_aC (len_aC (len_aC (len_aN))))))
end
theorem all_mk {l : PySem.W.OpenLaw} {w : World} {K : PySem.W.Frag} {h : Heap} {mg : Str → Option Value} {fa : Addr} (X : K.In h) (G : h.Ns mainGlobals mg) (hfa : mg "law" = some (.ref fa)) (hlaw : ∀ ns : List Int, ns.length ≤ 63 → h_p_law [.lst false (ns.map D.int)] = .ok (.bl true))
    (z0 : PySem.W.nsIn K mainGlobals "all" = some none)
    (z1 : PySem.W.nsIn K mainGlobals "bool" = some none)
    (z2 : PySem.W.nsIn K mainGlobals "enumerate" = some none)
    (z3 : PySem.W.nsIn K mainGlobals "isinstance" = some none)
    (z4 : PySem.W.nsIn K mainGlobals "len" = some none)
    (z5 : PySem.W.nsIn K mainGlobals "list" = some none)
    (z6 : PySem.W.nsIn K mainGlobals "max" = some none)
    (z7 : PySem.W.nsIn K mainGlobals "range" = some none)
    (z8 : PySem.W.nsIn K mainGlobals "tuple" = some none)
    (z9 : PySem.W.nsIn K mainGlobals "zip" = some none)
    {f0 : Addr} {od0 an0 : Option Addr} {sl0 : Array (Option Value)} {oc0 kV0 dc0 pm0 cd0 ct0 : Value} (a0 : PySem.W.nsIn K mainGlobals "signs_in" = some (some (.ref f0)))
    (l0 : K.lookup f0 = some ⟨oc0, od0, .func (PySem.W.fnOf "signs_in" "signs_in" (defArgs st_p_signs_in) (defBody st_p_signs_in) (defScope st_p_signs_in) .none kV0 dc0 pm0 an0 cd0 ct0), sl0⟩) (c0 : PySem.W.codeIn K cd0 "signs_in" = true) (k0 : PySem.W.keepIn K (.ref f0) = true)
    {f1 : Addr} {od1 an1 : Option Addr} {sl1 : Array (Option Value)} {oc1 kV1 dc1 pm1 cd1 ct1 : Value} (a1 : PySem.W.nsIn K mainGlobals "is_room" = some (some (.ref f1)))
    (l1 : K.lookup f1 = some ⟨oc1, od1, .func (PySem.W.fnOf "is_room" "is_room" (defArgs st_p_is_room) (defBody st_p_is_room) (defScope st_p_is_room) .none kV1 dc1 pm1 an1 cd1 ct1), sl1⟩) (c1 : PySem.W.codeIn K cd1 "is_room" = true) (k1 : PySem.W.keepIn K (.ref f1) = true)
    {f2 : Addr} {od2 an2 : Option Addr} {sl2 : Array (Option Value)} {oc2 kV2 dc2 pm2 cd2 ct2 : Value} (a2 : PySem.W.nsIn K mainGlobals "are_rooms" = some (some (.ref f2)))
    (l2 : K.lookup f2 = some ⟨oc2, od2, .func (PySem.W.fnOf "are_rooms" "are_rooms" (defArgs st_p_are_rooms) (defBody st_p_are_rooms) (defScope st_p_are_rooms) .none kV2 dc2 pm2 an2 cd2 ct2), sl2⟩) (c2 : PySem.W.codeIn K cd2 "are_rooms" = true) (k2 : PySem.W.keepIn K (.ref f2) = true)
    {f3 : Addr} {od3 an3 : Option Addr} {sl3 : Array (Option Value)} {oc3 kV3 dc3 pm3 cd3 ct3 : Value} (a3 : PySem.W.nsIn K mainGlobals "shows_alike" = some (some (.ref f3)))
    (l3 : K.lookup f3 = some ⟨oc3, od3, .func (PySem.W.fnOf "shows_alike" "shows_alike" (defArgs st_p_shows_alike) (defBody st_p_shows_alike) (defScope st_p_shows_alike) .none kV3 dc3 pm3 an3 cd3 ct3), sl3⟩) (c3 : PySem.W.codeIn K cd3 "shows_alike" = true) (k3 : PySem.W.keepIn K (.ref f3) = true)
    {f4 : Addr} {od4 an4 : Option Addr} {sl4 : Array (Option Value)} {oc4 kV4 dc4 pm4 cd4 ct4 : Value} (a4 : PySem.W.nsIn K mainGlobals "_law_cell" = some (some (.ref f4)))
    (l4 : K.lookup f4 = some ⟨oc4, od4, .func (PySem.W.fnOf "_law_cell" "_law_cell" (defArgs st_l_cell) (defBody st_l_cell) (defScope st_l_cell) .none kV4 dc4 pm4 an4 cd4 ct4), sl4⟩) (c4 : PySem.W.codeIn K cd4 "_law_cell" = true) (k4 : PySem.W.keepIn K (.ref f4) = true)
    {f5 : Addr} {od5 an5 : Option Addr} {sl5 : Array (Option Value)} {oc5 kV5 dc5 pm5 cd5 ct5 : Value} (a5 : PySem.W.nsIn K mainGlobals "_law_oneway" = some (some (.ref f5)))
    (l5 : K.lookup f5 = some ⟨oc5, od5, .func (PySem.W.fnOf "_law_oneway" "_law_oneway" (defArgs st_l_oneway) (defBody st_l_oneway) (defScope st_l_oneway) .none kV5 dc5 pm5 an5 cd5 ct5), sl5⟩) (c5 : PySem.W.codeIn K cd5 "_law_oneway" = true) (k5 : PySem.W.keepIn K (.ref f5) = true)
    {f6 : Addr} {od6 an6 : Option Addr} {sl6 : Array (Option Value)} {oc6 kV6 dc6 pm6 cd6 ct6 : Value} (a6 : PySem.W.nsIn K mainGlobals "_law_firsts" = some (some (.ref f6)))
    (l6 : K.lookup f6 = some ⟨oc6, od6, .func (PySem.W.fnOf "_law_firsts" "_law_firsts" (defArgs st_l_firsts) (defBody st_l_firsts) (defScope st_l_firsts) .none kV6 dc6 pm6 an6 cd6 ct6), sl6⟩) (c6 : PySem.W.codeIn K cd6 "_law_firsts" = true) (k6 : PySem.W.keepIn K (.ref f6) = true)
    {f7 : Addr} {od7 an7 : Option Addr} {sl7 : Array (Option Value)} {oc7 kV7 dc7 pm7 cd7 ct7 : Value} (a7 : PySem.W.nsIn K mainGlobals "_law_due" = some (some (.ref f7)))
    (l7 : K.lookup f7 = some ⟨oc7, od7, .func (PySem.W.fnOf "_law_due" "_law_due" (defArgs st_l_due) (defBody st_l_due) (defScope st_l_due) .none kV7 dc7 pm7 an7 cd7 ct7), sl7⟩) (c7 : PySem.W.codeIn K cd7 "_law_due" = true) (k7 : PySem.W.keepIn K (.ref f7) = true)
    {f8 : Addr} {od8 an8 : Option Addr} {sl8 : Array (Option Value)} {oc8 kV8 dc8 pm8 cd8 ct8 : Value} (a8 : PySem.W.nsIn K mainGlobals "_law_turned" = some (some (.ref f8)))
    (l8 : K.lookup f8 = some ⟨oc8, od8, .func (PySem.W.fnOf "_law_turned" "_law_turned" (defArgs st_l_turned) (defBody st_l_turned) (defScope st_l_turned) .none kV8 dc8 pm8 an8 cd8 ct8), sl8⟩) (c8 : PySem.W.codeIn K cd8 "_law_turned" = true) (k8 : PySem.W.keepIn K (.ref f8) = true)
    {f9 : Addr} {od9 an9 : Option Addr} {sl9 : Array (Option Value)} {oc9 kV9 dc9 pm9 cd9 ct9 : Value} (a9 : PySem.W.nsIn K mainGlobals "_law_spoilt" = some (some (.ref f9)))
    (l9 : K.lookup f9 = some ⟨oc9, od9, .func (PySem.W.fnOf "_law_spoilt" "_law_spoilt" (defArgs st_l_spoilt) (defBody st_l_spoilt) (defScope st_l_spoilt) .none kV9 dc9 pm9 an9 cd9 ct9), sl9⟩) (c9 : PySem.W.codeIn K cd9 "_law_spoilt" = true) (k9 : PySem.W.keepIn K (.ref f9) = true)
    {f10 : Addr} {od10 an10 : Option Addr} {sl10 : Array (Option Value)} {oc10 kV10 dc10 pm10 cd10 ct10 : Value} (a10 : PySem.W.nsIn K mainGlobals "_law_told" = some (some (.ref f10)))
    (l10 : K.lookup f10 = some ⟨oc10, od10, .func (PySem.W.fnOf "_law_told" "_law_told" (defArgs st_l_told) (defBody st_l_told) (defScope st_l_told) .none kV10 dc10 pm10 an10 cd10 ct10), sl10⟩) (c10 : PySem.W.codeIn K cd10 "_law_told" = true) (k10 : PySem.W.keepIn K (.ref f10) = true)
    {f11 : Addr} {od11 an11 : Option Addr} {sl11 : Array (Option Value)} {oc11 kV11 dc11 pm11 cd11 ct11 : Value} (a11 : PySem.W.nsIn K mainGlobals "law" = some (some (.ref f11)))
    (l11 : K.lookup f11 = some ⟨oc11, od11, .func (PySem.W.fnOf "law" "law" (defArgs st_p_law) (defBody st_p_law) (defScope st_p_law) .none kV11 dc11 pm11 an11 cd11 ct11), sl11⟩) (c11 : PySem.W.codeIn K cd11 "law" = true) (k11 : PySem.W.keepIn K (.ref f11) = true)
    : ∃ fd : FuncData, (∀ (s : Shared) (v : Value), BindsTo s fd ⟨[v], []⟩ [("_law_script", v)]) ∧ ∀ base : Heap, K.In base → base.Ns mainGlobals mg → FnOk l.prog w K mg base (L2.CX l.prog w) 5 fa fd ["_law_script"] (spLaw K) := by
  have T : Tx K mg (tabE []) := {
    tE := tabE_all (fun _ h => nomatch h),
    b_all := PySem.W.mg_none_of X G z0,
    b_bool := PySem.W.mg_none_of X G z1,
    b_enumerate := PySem.W.mg_none_of X G z2,
    b_isinstance := PySem.W.mg_none_of X G z3,
    b_len := PySem.W.mg_none_of X G z4,
    b_list := PySem.W.mg_none_of X G z5,
    b_max := PySem.W.mg_none_of X G z6,
    b_range := PySem.W.mg_none_of X G z7,
    b_tuple := PySem.W.mg_none_of X G z8,
    b_zip := PySem.W.mg_none_of X G z9,
    d_p_signs_in := txd_mk X G a0 l0 c0 k0 (fun _ _ _ _ _ _ us hl => match us, hl with | [_], _ => rfl),
    d_p_is_room := txd_mk X G a1 l1 c1 k1 (fun _ _ _ _ _ _ us hl => match us, hl with | [_, _], _ => rfl),
    d_p_are_rooms := txd_mk X G a2 l2 c2 k2 (fun _ _ _ _ _ _ us hl => match us, hl with | [_, _, _], _ => rfl),
    d_p_shows_alike := txd_mk X G a3 l3 c3 k3 (fun _ _ _ _ _ _ us hl => match us, hl with | [_, _, _], _ => rfl),
    d_l_cell := txd_mk X G a4 l4 c4 k4 (fun _ _ _ _ _ _ us hl => match us, hl with | [_, _], _ => rfl),
    d_l_oneway := txd_mk X G a5 l5 c5 k5 (fun _ _ _ _ _ _ us hl => match us, hl with | [_, _, _, _, _], _ => rfl),
    d_l_firsts := txd_mk X G a6 l6 c6 k6 (fun _ _ _ _ _ _ us hl => match us, hl with | [_, _, _], _ => rfl),
    d_l_due := txd_mk X G a7 l7 c7 k7 (fun _ _ _ _ _ _ us hl => match us, hl with | [_, _, _], _ => rfl),
    d_l_turned := txd_mk X G a8 l8 c8 k8 (fun _ _ _ _ _ _ us hl => match us, hl with | [_, _], _ => rfl),
    d_l_spoilt := txd_mk X G a9 l9 c9 k9 (fun _ _ _ _ _ _ us hl => match us, hl with | [_, _, _], _ => rfl),
    d_l_told := txd_mk X G a10 l10 c10 k10 (fun _ _ _ _ _ _ us hl => match us, hl with | [_, _, _], _ => rfl),
    d_p_law := txd_mk X G a11 l11 c11 k11 (fun _ _ _ _ _ _ us hl => match us, hl with | [_], _ => rfl) }
  have e := hfa.symm.trans (PySem.W.mg_of X G a11)
  cases e
  refine ⟨PySem.W.fnOf "law" "law" (defArgs st_p_law) (defBody st_p_law) (defScope st_p_law) .none kV11 dc11 pm11 an11 cd11 ct11, fun s v => .of_eq rfl, fun base _ _ => ?_⟩
  exact FnOk.imp (ok_p_law T (fun_mk l11 c11 k11)) (sp_law (g := ⟨l.prog, w, K, (tabE []), fun _ => none, none⟩) hlaw)
end DI
namespace DI
open PySem
set_option maxHeartbeats 4000000
section
variable {α β γ δ ε ζ η : Type} {σ : Sl}
theorem rf_bip1_m {θ : Type} {b : Bi} {eθ : θ → D} {f1 : Sl → R D} {e1 : α → D} {m1 : R α} {g : α → θ} (T : ∀ a1, Rf (biD b [e1 a1]) (.ok (g a1)) eθ) (h1 : Rf (f1 σ) m1 e1) : Rf (eBi b (aC f1 aN) σ) (m1.bind fun a1 => .ok (g a1)) eθ := rf_bi1 (Φ := fun a1 => .ok (g a1)) T h1
theorem rf_bip1_p {θ : Type} {b : Bi} {eθ : θ → D} {f1 : Sl → R D} {e1 : α → D} {a1 : α} {g : α → θ} (T : ∀ a1, Rf (biD b [e1 a1]) (.ok (g a1)) eθ) (h1 : Rf (f1 σ) (.ok a1) e1) : Rf (eBi b (aC f1 aN) σ) (.ok (g a1)) eθ := rf_bi1 (Φ := fun a1 => .ok (g a1)) T h1
theorem rf_call2_pp {θ : Type} {h : List D → R D} {eθ : θ → D} {f1 : Sl → R D} {e1 : α → D} {a1 : α} {f2 : Sl → R D} {e2 : β → D} {a2 : β} {e1' : α → D} {e2' : β → D} {Φ : α → β → R θ} (T : ∀ a1 a2, Rf (h [e1' a1, e2' a2]) (Φ a1 a2) eθ) (z1 : Fz e1 e1') (z2 : Fz e2 e2') (hc : (Cl e1 ∧ Cl e2 ∧ True) ∨ Nf eθ) (h1 : Rf (f1 σ) (.ok a1) e1) (h2 : Rf (f2 σ) (.ok a2) e2) : Rf (eF h (aC f1 (aC f2 aN)) σ) (Φ a1 a2) eθ := rf_call2 T z1 z2 hc h1 h2
theorem rf_call3_ppp {θ : Type} {h : List D → R D} {eθ : θ → D} {f1 : Sl → R D} {e1 : α → D} {a1 : α} {f2 : Sl → R D} {e2 : β → D} {a2 : β} {f3 : Sl → R D} {e3 : γ → D} {a3 : γ} {e1' : α → D} {e2' : β → D} {e3' : γ → D} {Φ : α → β → γ → R θ} (T : ∀ a1 a2 a3, Rf (h [e1' a1, e2' a2, e3' a3]) (Φ a1 a2 a3) eθ) (z1 : Fz e1 e1') (z2 : Fz e2 e2') (z3 : Fz e3 e3') (hc : (Cl e1 ∧ Cl e2 ∧ Cl e3 ∧ True) ∨ Nf eθ) (h1 : Rf (f1 σ) (.ok a1) e1) (h2 : Rf (f2 σ) (.ok a2) e2) (h3 : Rf (f3 σ) (.ok a3) e3) : Rf (eF h (aC f1 (aC f2 (aC f3 aN))) σ) (Φ a1 a2 a3) eθ := rf_call3 T z1 z2 z3 hc h1 h2 h3
theorem rf_tup2_pp {f1 : Sl → R D} {e1 : α → D} {a1 : α} {f2 : Sl → R D} {e2 : β → D} {a2 : β} (h1 : Rf (f1 σ) (.ok a1) e1) (h2 : Rf (f2 σ) (.ok a2) e2) : Rf (eTup (aC f1 (aC f2 aN)) σ) (.ok (a1, a2)) (eT2 e1 e2) := rf_tup2 h1 h2
theorem rf_call1_p {θ : Type} {h : List D → R D} {eθ : θ → D} {f1 : Sl → R D} {e1 : α → D} {a1 : α} {e1' : α → D} {Φ : α → R θ} (T : ∀ a1, Rf (h [e1' a1]) (Φ a1) eθ) (z1 : Fz e1 e1') (hc : (Cl e1 ∧ True) ∨ Nf eθ) (h1 : Rf (f1 σ) (.ok a1) e1) : Rf (eF h (aC f1 aN) σ) (Φ a1) eθ := rf_call1 T z1 hc h1
theorem rf_tup2_mm {f1 : Sl → R D} {e1 : α → D} {m1 : R α} {f2 : Sl → R D} {e2 : β → D} {m2 : R β} (h1 : Rf (f1 σ) m1 e1) (h2 : Rf (f2 σ) m2 e2) : Rf (eTup (aC f1 (aC f2 aN)) σ) (m1.bind fun a1 => m2.bind fun a2 => .ok (a1, a2)) (eT2 e1 e2) := rf_tup2 h1 h2
theorem rf_bip2_pp {θ : Type} {b : Bi} {eθ : θ → D} {f1 : Sl → R D} {e1 : α → D} {a1 : α} {f2 : Sl → R D} {e2 : β → D} {a2 : β} {g : α → β → θ} (T : ∀ a1 a2, Rf (biD b [e1 a1, e2 a2]) (.ok (g a1 a2)) eθ) (h1 : Rf (f1 σ) (.ok a1) e1) (h2 : Rf (f2 σ) (.ok a2) e2) : Rf (eBi b (aC f1 (aC f2 aN)) σ) (.ok (g a1 a2)) eθ := rf_bi2 (Φ := fun a1 a2 => .ok (g a1 a2)) T h1 h2
theorem rf_tup2_pm {f1 : Sl → R D} {e1 : α → D} {a1 : α} {f2 : Sl → R D} {e2 : β → D} {m2 : R β} (h1 : Rf (f1 σ) (.ok a1) e1) (h2 : Rf (f2 σ) m2 e2) : Rf (eTup (aC f1 (aC f2 aN)) σ) (m2.bind fun a2 => .ok (a1, a2)) (eT2 e1 e2) := rf_tup2 h1 h2
theorem rf_tup2_mp {f1 : Sl → R D} {e1 : α → D} {m1 : R α} {f2 : Sl → R D} {e2 : β → D} {a2 : β} (h1 : Rf (f1 σ) m1 e1) (h2 : Rf (f2 σ) (.ok a2) e2) : Rf (eTup (aC f1 (aC f2 aN)) σ) (m1.bind fun a1 => .ok (a1, a2)) (eT2 e1 e2) := rf_tup2 h1 h2
theorem rf_call5_ppppp {θ : Type} {h : List D → R D} {eθ : θ → D} {f1 : Sl → R D} {e1 : α → D} {a1 : α} {f2 : Sl → R D} {e2 : β → D} {a2 : β} {f3 : Sl → R D} {e3 : γ → D} {a3 : γ} {f4 : Sl → R D} {e4 : δ → D} {a4 : δ} {f5 : Sl → R D} {e5 : ε → D} {a5 : ε} {e1' : α → D} {e2' : β → D} {e3' : γ → D} {e4' : δ → D} {e5' : ε → D} {Φ : α → β → γ → δ → ε → R θ} (T : ∀ a1 a2 a3 a4 a5, Rf (h [e1' a1, e2' a2, e3' a3, e4' a4, e5' a5]) (Φ a1 a2 a3 a4 a5) eθ) (z1 : Fz e1 e1') (z2 : Fz e2 e2') (z3 : Fz e3 e3') (z4 : Fz e4 e4') (z5 : Fz e5 e5') (hc : (Cl e1 ∧ Cl e2 ∧ Cl e3 ∧ Cl e4 ∧ Cl e5 ∧ True) ∨ Nf eθ) (h1 : Rf (f1 σ) (.ok a1) e1) (h2 : Rf (f2 σ) (.ok a2) e2) (h3 : Rf (f3 σ) (.ok a3) e3) (h4 : Rf (f4 σ) (.ok a4) e4) (h5 : Rf (f5 σ) (.ok a5) e5) : Rf (eF h (aC f1 (aC f2 (aC f3 (aC f4 (aC f5 aN))))) σ) (Φ a1 a2 a3 a4 a5) eθ := rf_call5 T z1 z2 z3 z4 z5 hc h1 h2 h3 h4 h5
theorem rf_call2_pm {θ : Type} {h : List D → R D} {eθ : θ → D} {f1 : Sl → R D} {e1 : α → D} {a1 : α} {f2 : Sl → R D} {e2 : β → D} {m2 : R β} {e1' : α → D} {e2' : β → D} {Φ : α → β → R θ} (T : ∀ a1 a2, Rf (h [e1' a1, e2' a2]) (Φ a1 a2) eθ) (z1 : Fz e1 e1') (z2 : Fz e2 e2') (hc : (Cl e1 ∧ Cl e2 ∧ True) ∨ Nf eθ) (h1 : Rf (f1 σ) (.ok a1) e1) (h2 : Rf (f2 σ) m2 e2) : Rf (eF h (aC f1 (aC f2 aN)) σ) (m2.bind fun a2 => Φ a1 a2) eθ := rf_call2 T z1 z2 hc h1 h2
theorem rf_call5_ppmpp {θ : Type} {h : List D → R D} {eθ : θ → D} {f1 : Sl → R D} {e1 : α → D} {a1 : α} {f2 : Sl → R D} {e2 : β → D} {a2 : β} {f3 : Sl → R D} {e3 : γ → D} {m3 : R γ} {f4 : Sl → R D} {e4 : δ → D} {a4 : δ} {f5 : Sl → R D} {e5 : ε → D} {a5 : ε} {e1' : α → D} {e2' : β → D} {e3' : γ → D} {e4' : δ → D} {e5' : ε → D} {Φ : α → β → γ → δ → ε → R θ} (T : ∀ a1 a2 a3 a4 a5, Rf (h [e1' a1, e2' a2, e3' a3, e4' a4, e5' a5]) (Φ a1 a2 a3 a4 a5) eθ) (z1 : Fz e1 e1') (z2 : Fz e2 e2') (z3 : Fz e3 e3') (z4 : Fz e4 e4') (z5 : Fz e5 e5') (hc : (Cl e1 ∧ Cl e2 ∧ Cl e3 ∧ Cl e4 ∧ Cl e5 ∧ True) ∨ Nf eθ) (h1 : Rf (f1 σ) (.ok a1) e1) (h2 : Rf (f2 σ) (.ok a2) e2) (h3 : Rf (f3 σ) m3 e3) (h4 : Rf (f4 σ) (.ok a4) e4) (h5 : Rf (f5 σ) (.ok a5) e5) : Rf (eF h (aC f1 (aC f2 (aC f3 (aC f4 (aC f5 aN))))) σ) (m3.bind fun a3 => Φ a1 a2 a3 a4 a5) eθ := rf_call5 T z1 z2 z3 z4 z5 hc h1 h2 h3 h4 h5
theorem rf_call3_pmp {θ : Type} {h : List D → R D} {eθ : θ → D} {f1 : Sl → R D} {e1 : α → D} {a1 : α} {f2 : Sl → R D} {e2 : β → D} {m2 : R β} {f3 : Sl → R D} {e3 : γ → D} {a3 : γ} {e1' : α → D} {e2' : β → D} {e3' : γ → D} {Φ : α → β → γ → R θ} (T : ∀ a1 a2 a3, Rf (h [e1' a1, e2' a2, e3' a3]) (Φ a1 a2 a3) eθ) (z1 : Fz e1 e1') (z2 : Fz e2 e2') (z3 : Fz e3 e3') (hc : (Cl e1 ∧ Cl e2 ∧ Cl e3 ∧ True) ∨ Nf eθ) (h1 : Rf (f1 σ) (.ok a1) e1) (h2 : Rf (f2 σ) m2 e2) (h3 : Rf (f3 σ) (.ok a3) e3) : Rf (eF h (aC f1 (aC f2 (aC f3 aN))) σ) (m2.bind fun a2 => Φ a1 a2 a3) eθ := rf_call3 T z1 z2 z3 hc h1 h2 h3
theorem rf_call3_ppm {θ : Type} {h : List D → R D} {eθ : θ → D} {f1 : Sl → R D} {e1 : α → D} {a1 : α} {f2 : Sl → R D} {e2 : β → D} {a2 : β} {f3 : Sl → R D} {e3 : γ → D} {m3 : R γ} {e1' : α → D} {e2' : β → D} {e3' : γ → D} {Φ : α → β → γ → R θ} (T : ∀ a1 a2 a3, Rf (h [e1' a1, e2' a2, e3' a3]) (Φ a1 a2 a3) eθ) (z1 : Fz e1 e1') (z2 : Fz e2 e2') (z3 : Fz e3 e3') (hc : (Cl e1 ∧ Cl e2 ∧ Cl e3 ∧ True) ∨ Nf eθ) (h1 : Rf (f1 σ) (.ok a1) e1) (h2 : Rf (f2 σ) (.ok a2) e2) (h3 : Rf (f3 σ) m3 e3) : Rf (eF h (aC f1 (aC f2 (aC f3 aN))) σ) (m3.bind fun a3 => Φ a1 a2 a3) eθ := rf_call3 T z1 z2 z3 hc h1 h2 h3
end
noncomputable def f_p_signs_in (machine : ((List (List Int)) × (List St))) : R Int := runO (L := Unit) (S := Unit) <|
  bnd ((ofR (L2.atI machine.1 0)).bind fun u => R.ok ((u.length : Int))) .rt
theorem tf_p_signs_in (machine : ((List (List Int)) × (List St))) : Rf (h_p_signs_in [(eT2 (eSq (eSq D.int)) (eSq eSt)) machine]) (f_p_signs_in machine) D.int := by
  unfold h_p_signs_in runF b_p_signs_in f_p_signs_in
  exact g_fun (g_last (g_ret (rf_bip1_m (g := fun u => (List.length u : Int)) bt_lenQ (rf_ixQ_pp (rf_ix2_0_p (rf_v (i := 0) (a := machine) (eT2 (eSq (eSq D.int)) (eSq eSt)) rfl)) (rf_k (a := 0) D.int rfl))) True.intro))
noncomputable def f_p_is_room (machine : ((List (List Int)) × (List St))) (number : Int) : R Bool := runO (L := Unit) (S := Unit) <|
  O.rt (decide (0 ≤ number) && decide (number < ((machine.1.length : Int))))
theorem tf_p_is_room (machine : ((List (List Int)) × (List St))) (number : Int) : Rf (h_p_is_room [(eT2 (eSq (eSq D.int)) (eSq eSt)) machine, D.int number]) (f_p_is_room machine number) D.bl := by
  unfold h_p_is_room runF b_p_is_room f_p_is_room
  exact g_fun (g_last (g_retP (a := decide (0 ≤ number) && decide (number < ((machine.1.length : Int)))) (rf_cc_lelt_pp (rf_k (a := 0) D.int rfl) (rf_v (i := 1) (a := number) D.int rfl) (rf_bip1_p (g := fun u => (List.length u : Int)) bt_lenQ (rf_ix2_0_p (rf_v (i := 0) (a := machine) (eT2 (eSq (eSq D.int)) (eSq eSt)) rfl))))))
noncomputable def f_p_are_rooms (one : ((List (List Int)) × (List St))) (two : ((List (List Int)) × (List St))) (pairs : (List (Int × Int))) : R Bool := runO (L := Unit) (S := Unit) <|
  bnd ((cmT pairs (fun (here, there) => (f_p_is_room one here).bind fun u => if u = true then f_p_is_room two there else R.ok false)).bind fun u => R.ok (u.all id)) .rt
theorem tf_p_are_rooms (one : ((List (List Int)) × (List St))) (two : ((List (List Int)) × (List St))) (pairs : (List (Int × Int))) : Rf (h_p_are_rooms [(eT2 (eSq (eSq D.int)) (eSq eSt)) one, (eT2 (eSq (eSq D.int)) (eSq eSt)) two, (eLs false (eT2 D.int D.int)) pairs]) (f_p_are_rooms one two pairs) D.bl := by
  unfold h_p_are_rooms runF b_p_are_rooms f_p_are_rooms
  exact g_fun (g_last (g_ret (rf_bip1_m (g := fun u => List.all u id) bt_all (rf_cm_p (ri_L_p (cl_t2 cl_int cl_int) (rf_v (i := 2) (a := pairs) (eLs false (eT2 D.int D.int)) rfl)) (fun q_ => by obtain ⟨here, there⟩ := q_; exact ⟨_, rfl, (rf_o cl_bl (rf_and_m (rf_call2_pp (Φ := f_p_is_room) tf_p_is_room (cl_t2 (cl_sq (cl_sq cl_int)) (cl_sq cl_st)).fz cl_int.fz (.inl ⟨(cl_t2 (cl_sq (cl_sq cl_int)) (cl_sq cl_st)), cl_int, True.intro⟩) (rf_v (i := 0) (a := one) (eT2 (eSq (eSq D.int)) (eSq eSt)) rfl) (rf_v (i := 3) (a := here) D.int rfl)) (rf_call2_pp (Φ := f_p_is_room) tf_p_is_room (cl_t2 (cl_sq (cl_sq cl_int)) (cl_sq cl_st)).fz cl_int.fz (.inl ⟨(cl_t2 (cl_sq (cl_sq cl_int)) (cl_sq cl_st)), cl_int, True.intro⟩) (rf_v (i := 1) (a := two) (eT2 (eSq (eSq D.int)) (eSq eSt)) rfl) (rf_v (i := 4) (a := there) D.int rfl))))⟩))) True.intro))
noncomputable def f_p_shows_alike (one : ((List (List Int)) × (List St))) (two : ((List (List Int)) × (List St))) (pairs : (List (Int × Int))) : R Bool := runO (L := Unit) (S := Unit) <|
  bnd (((f_p_signs_in one).bind fun u => (f_p_signs_in two).bind fun v => R.ok (!decide (u = v))).bind fun u => if u = true then R.ok true else if (!decide (((0, 0)) ∈ (pairs : List (Int × Int)))) = true then R.ok true else (f_p_are_rooms one two pairs).bind fun u => R.ok (!u)) fun b_ => if b_ = true then
    O.rt (false)
  else
    bnd (R.ok ([]) : R (List ((Int × Int) × Bool))) fun known =>
  O.thn (forT pairs (fun pair known =>
    bnd (R.ok (true)) fun v => bnd (R.ok (pair)) fun k => bnd (puT known k v) fun known =>
    O.nx known) known : O ((List ((Int × Int) × Bool))) _ _) fun known =>
  O.thn (forT pairs (fun (here, there) (_ : Unit) =>
    bnd ((ofR (L2.atI one.2 here)).bind fun u => (ofR (L2.atI two.2 there)).bind fun v => R.ok (!decide (u = v))) fun b_ => if b_ = true then
      O.rt (false)
    else
      O.thn (bnd ((ofR (L2.atI one.1 here)).bind fun u => (ofR (L2.atI two.1 there)).bind fun v => R.ok (List.zip u v)) fun l_ => forT l_ (fun pair (_ : Unit) =>
      if (!hasT known pair) = true then
        O.rt (false)
      else
        O.nx ()) () : O (Unit) _ _) fun (_ : Unit) =>
    O.nx ()) () : O (Unit) _ _) fun (_ : Unit) =>
  O.rt (true)
theorem tf_p_shows_alike (one : ((List (List Int)) × (List St))) (two : ((List (List Int)) × (List St))) (pairs : (List (Int × Int))) : Rf (h_p_shows_alike [(eT2 (eSq (eSq D.int)) (eSq eSt)) one, (eT2 (eSq (eSq D.int)) (eSq eSt)) two, (eLs false (eT2 D.int D.int)) pairs]) (f_p_shows_alike one two pairs) D.bl := by
  unfold h_p_shows_alike runF b_p_shows_alike f_p_shows_alike
  exact g_fun (g_last (g_seq (g_if (rf_or_m (rf_ne_mm py_int py_int pq_int (by decide) (by decide) (rf_call1_p (Φ := f_p_signs_in) tf_p_signs_in (cl_t2 (cl_sq (cl_sq cl_int)) (cl_sq cl_st)).fz (.inl ⟨(cl_t2 (cl_sq (cl_sq cl_int)) (cl_sq cl_st)), True.intro⟩) (rf_v (i := 0) (a := one) (eT2 (eSq (eSq D.int)) (eSq eSt)) rfl)) (rf_call1_p (Φ := f_p_signs_in) tf_p_signs_in (cl_t2 (cl_sq (cl_sq cl_int)) (cl_sq cl_st)).fz (.inl ⟨(cl_t2 (cl_sq (cl_sq cl_int)) (cl_sq cl_st)), True.intro⟩) (rf_v (i := 1) (a := two) (eT2 (eSq (eSq D.int)) (eSq eSt)) rfl))) (rf_or_p (rf_ninL_pp (py_t2 py_int py_int) (py_t2 py_int py_int) (pq_t2 pq_int pq_int) (by decide) (by decide) (rf_tup2_pp (rf_k (a := 0) D.int rfl) (rf_k (a := 0) D.int rfl)) (rf_v (i := 2) (a := pairs) (eLs false (eT2 D.int D.int)) rfl)) (rf_not_m (rf_call3_ppp (Φ := f_p_are_rooms) tf_p_are_rooms (cl_t2 (cl_sq (cl_sq cl_int)) (cl_sq cl_st)).fz (cl_t2 (cl_sq (cl_sq cl_int)) (cl_sq cl_st)).fz (cl_ls (cl_t2 cl_int cl_int)).fz (.inl ⟨(cl_t2 (cl_sq (cl_sq cl_int)) (cl_sq cl_st)), (cl_t2 (cl_sq (cl_sq cl_int)) (cl_sq cl_st)), (cl_ls (cl_t2 cl_int cl_int)), True.intro⟩) (rf_v (i := 0) (a := one) (eT2 (eSq (eSq D.int)) (eSq eSt)) rfl) (rf_v (i := 1) (a := two) (eT2 (eSq (eSq D.int)) (eSq eSt)) rfl) (rf_v (i := 2) (a := pairs) (eLs false (eT2 D.int D.int)) rfl))))) True.intro (g_retP (a := false) (rf_k (a := false) D.bl rfl)) (g_skip (g_seq (g_set (i := 3) (rf_d0 (κ := (kT2 kInt kInt)) (e' := D.bl)) True.intro fun known => (g_seq (g_thn (I' := (fun (known : (List ((Int × Int) × Bool))) (σ : Sl) => ∃ d4 d5 d6 : Option D, σ = [some ((eT2 (eSq (eSq D.int)) (eSq eSt)) one), some ((eT2 (eSq (eSq D.int)) (eSq eSt)) two), some ((eLs false (eT2 D.int D.int)) pairs), some ((eDc true (kT2 kInt kInt) D.bl) known), d4, d5, d6])) (g_forP (I := (fun (known : (List ((Int × Int) × Bool))) (σ : Sl) => ∃ d4 d5 d6 : Option D, σ = [some ((eT2 (eSq (eSq D.int)) (eSq eSt)) one), some ((eT2 (eSq (eSq D.int)) (eSq eSt)) two), some ((eLs false (eT2 D.int D.int)) pairs), some ((eDc true (kT2 kInt kInt) D.bl) known), d4, d5, d6])) (xs := pairs) (ri_L_p (cl_t2 cl_int cl_int) (rf_o (cl_ls (cl_t2 cl_int cl_int)) (rf_v (i := 2) (a := pairs) (eLs false (eT2 D.int D.int)) rfl))) ⟨_, _, _, rfl⟩ True.intro (fun pair known σ_ h_ => by obtain ⟨d4, d5, d6, rfl⟩ := h_; exact ⟨_, rfl, g_last (g_putk (i := 3) (kvs := known) D.bl ((ky_t2 ky_int ky_int).tupk kt_t2 (by decide)) cl_bl rfl (rf_k (a := true) D.bl rfl) (rf_v (i := 4) (a := pair) (eT2 D.int D.int) rfl) True.intro fun known => (g_nx ⟨_, _, _, rfl⟩))⟩)) fun known σ_ h_ => by obtain ⟨d4, d5, d6, rfl⟩ := h_; exact (g_seq (g_thn (I' := (fun (_ : Unit) (σ : Sl) => ∃ d4 d5 d6 : Option D, σ = [some ((eT2 (eSq (eSq D.int)) (eSq eSt)) one), some ((eT2 (eSq (eSq D.int)) (eSq eSt)) two), some ((eLs false (eT2 D.int D.int)) pairs), some ((eDc true (kT2 kInt kInt) D.bl) known), d4, d5, d6])) (g_forP (I := (fun (_ : Unit) (σ : Sl) => ∃ d4 d5 d6 : Option D, σ = [some ((eT2 (eSq (eSq D.int)) (eSq eSt)) one), some ((eT2 (eSq (eSq D.int)) (eSq eSt)) two), some ((eLs false (eT2 D.int D.int)) pairs), some ((eDc true (kT2 kInt kInt) D.bl) known), d4, d5, d6])) (xs := pairs) (ri_L_p (cl_t2 cl_int cl_int) (rf_o (cl_ls (cl_t2 cl_int cl_int)) (rf_v (i := 2) (a := pairs) (eLs false (eT2 D.int D.int)) rfl))) ⟨_, _, _, rfl⟩ True.intro (fun q_ s_ σ_ h_ => by obtain ⟨here, there⟩ := q_; obtain ⟨d4, d5, d6, rfl⟩ := h_; exact ⟨_, rfl, g_last (g_seq (g_if (rf_ne_mm py_st py_st pq_st (by decide) (by decide) (rf_ixQ_pp (rf_ix2_1_p (rf_v (i := 0) (a := one) (eT2 (eSq (eSq D.int)) (eSq eSt)) rfl)) (rf_v (i := 5) (a := here) D.int rfl)) (rf_ixQ_pp (rf_ix2_1_p (rf_v (i := 1) (a := two) (eT2 (eSq (eSq D.int)) (eSq eSt)) rfl)) (rf_v (i := 6) (a := there) D.int rfl))) True.intro (g_retP (a := false) (rf_k (a := false) D.bl rfl)) (g_skip (g_thn (I' := (fun (_ : Unit) (σ : Sl) => ∃ d4 : Option D, σ = [some ((eT2 (eSq (eSq D.int)) (eSq eSt)) one), some ((eT2 (eSq (eSq D.int)) (eSq eSt)) two), some ((eLs false (eT2 D.int D.int)) pairs), some ((eDc true (kT2 kInt kInt) D.bl) known), d4, some (D.int here), some (D.int there)])) (g_for (I := (fun (_ : Unit) (σ : Sl) => ∃ d4 : Option D, σ = [some ((eT2 (eSq (eSq D.int)) (eSq eSt)) one), some ((eT2 (eSq (eSq D.int)) (eSq eSt)) two), some ((eLs false (eT2 D.int D.int)) pairs), some ((eDc true (kT2 kInt kInt) D.bl) known), d4, some (D.int here), some (D.int there)])) (ri_zN_mm cl_int cl_int (rf_o (cl_sq cl_int) (rf_ixQ_pp (rf_ix2_0_p (rf_v (i := 0) (a := one) (eT2 (eSq (eSq D.int)) (eSq eSt)) rfl)) (rf_v (i := 5) (a := here) D.int rfl))) (rf_o (cl_sq cl_int) (rf_ixQ_pp (rf_ix2_0_p (rf_v (i := 1) (a := two) (eT2 (eSq (eSq D.int)) (eSq eSt)) rfl)) (rf_v (i := 6) (a := there) D.int rfl)))) ⟨_, rfl⟩ True.intro (fun pair s_ σ_ h_ => by obtain ⟨d4, rfl⟩ := h_; exact ⟨_, rfl, g_last (g_ifP (b := !hasT known pair) (rf_ninD_pp ((ky_t2 ky_int ky_int).tupk kt_t2 (by decide)) (rf_v (i := 4) (a := pair) (eT2 D.int D.int) rfl) (rf_v (i := 3) (a := known) (eDc true (kT2 kInt kInt) D.bl) rfl)) (g_retP (a := false) (rf_k (a := false) D.bl rfl)) (g_skip (g_nx ⟨_, rfl⟩)))⟩)) fun s_ σ_ h_ => by obtain ⟨d4, rfl⟩ := h_; exact (g_nx ⟨_, _, _, rfl⟩)))))⟩)) fun s_ σ_ h_ => by obtain ⟨d4, d5, d6, rfl⟩ := h_; exact (g_retP (a := true) (rf_k (a := true) D.bl rfl))))))))))))
noncomputable def f_l_cell (script : (List Int)) (k : Int) : R Int := runO (L := Unit) (S := Unit) <|
  bnd (R.ok (0) : R Int) fun cell_here =>
  O.thn (if (decide (0 < ((script.length : Int)))) = true then
    bnd ((modT k ((script.length : Int))).bind fun v => ofR (L2.atI script v) : R Int) fun cell_here =>
    O.nx cell_here
  else
    O.nx cell_here : O Int _ _) fun cell_here =>
  bnd (R.ok (((((cell_here % 2147483647) + (7919 * k)) + 1) * 48271) % 2147483647) : R Int) fun mixed =>
  O.rt (((cell_here / 2147483647) * 2147483659) + (((mixed * 69621) + (104729 * k)) % 2147483659))
theorem tf_l_cell (script : (List Int)) (k : Int) : Rf (h_l_cell [(eLs false D.int) script, D.int k]) (f_l_cell script k) D.int := by
  unfold h_l_cell runF b_l_cell f_l_cell
  exact g_fun (g_last (g_seq (g_set (i := 2) (rf_k (a := 0) D.int rfl) True.intro fun cell_here => (g_seq (g_thn (I' := (fun (cell_here : Int) (σ : Sl) => ∃ d3 : Option D, σ = [some ((eLs false D.int) script), some (D.int k), some (D.int cell_here), d3])) (g_last (g_ifP (b := decide (0 < ((script.length : Int)))) (rf_gt_pp (rf_bip1_p (g := fun u => (List.length u : Int)) bt_lenL (rf_v (i := 0) (a := script) (eLs false D.int) rfl)) (rf_k (a := 0) D.int rfl)) (g_set (i := 2) (rf_o cl_int (rf_ixL_pm (rf_v (i := 0) (a := script) (eLs false D.int) rfl) (rf_mod_pp (rf_v (i := 1) (a := k) D.int rfl) (rf_bip1_p (g := fun u => (List.length u : Int)) bt_lenL (rf_v (i := 0) (a := script) (eLs false D.int) rfl))))) True.intro fun cell_here => (g_nx ⟨_, rfl⟩)) (g_skip (g_nx ⟨_, rfl⟩)))) fun cell_here σ_ h_ => by obtain ⟨d3, rfl⟩ := h_; exact (g_seq (g_set (i := 3) (rf_modK_p (j := 2147483647) (by decide) (rf_mulR_p (j := 48271) (by decide) (rf_add_pp (rf_add_pp (rf_modK_p (j := 2147483647) (by decide) (rf_v (i := 2) (a := cell_here) D.int rfl)) (rf_mulL_p (j := 7919) (by decide) (rf_v (i := 1) (a := k) D.int rfl))) (rf_k (a := 1) D.int rfl)))) True.intro fun mixed => (g_retP (a := ((cell_here / 2147483647) * 2147483659) + (((mixed * 69621) + (104729 * k)) % 2147483659)) (rf_add_pp (rf_mulR_p (j := 2147483659) (by decide) (rf_fdivK_p (j := 2147483647) (by decide) (rf_v (i := 2) (a := cell_here) D.int rfl))) (rf_modK_p (j := 2147483659) (by decide) (rf_add_pp (rf_mulR_p (j := 69621) (by decide) (rf_v (i := 3) (a := mixed) D.int rfl)) (rf_mulL_p (j := 104729) (by decide) (rf_v (i := 1) (a := k) D.int rfl)))))))))))))
noncomputable def f_l_oneway (script : (List Int)) (at_ : Int) (rooms : Int) (signs : Int) (words : Int) : R ((List (List Int)) × (List St)) := runO (L := Unit) (S := Unit) <|
  bnd (R.ok ([]) : R (List (List Int))) fun rows =>
  bnd (R.ok ([]) : R (List St)) fun told_here =>
  O.thn (bnd (rngT rooms) fun l_ => forT l_ (fun room (rows, told_here) =>
    bnd (if (decide ((at_ + room) < ((script.length : Int)))) = true then ((ofR (L2.atI script 0)).bind fun u => R.ok (u % 2)).bind fun u => R.ok (decide (u = 1)) else R.ok false : R Bool) fun digits =>
    bnd ((f_l_cell script (at_ + room)).bind fun u => R.ok (u % 2147483647) : R Int) fun number =>
    O.thn (if digits = true then
      bnd (ofR (L2.atI script (at_ + room)) : R Int) fun number =>
      O.nx number
    else
      O.nx number : O Int _ _) fun number =>
    bnd (R.ok ([]) : R (List Int)) fun row =>
    O.thn (bnd (rngT signs) fun l_ => forT l_ (fun k (number, row) =>
      O.thn (if (!digits) = true then
        bnd (R.ok ((((number * 48271) + 7919) % 2147483647) / 64) : R Int) fun number =>
        O.nx number
      else
        O.nx number : O Int _ _) fun number =>
      bnd (modT number rooms) fun u => bnd (apT row u) fun row =>
      bnd (fdivT number rooms : R Int) fun number =>
      O.nx (number, row)) (number, row) : O (Int × (List Int)) _ _) fun (number, row) =>
    bnd ((modT number words).bind fun v => ofR (L2.atI (["by".toList, "out".toList, "ever".toList]) v)) fun u => bnd (apT told_here u) fun told_here =>
    bnd (apT rows row) fun rows =>
    O.nx (rows, told_here)) (rows, told_here) : O ((List (List Int)) × (List St)) _ _) fun (rows, told_here) =>
  O.rt ((rows, told_here))
theorem tf_l_oneway (script : (List Int)) (at_ : Int) (rooms : Int) (signs : Int) (words : Int) : Rf (h_l_oneway [(eLs false D.int) script, D.int at_, D.int rooms, D.int signs, D.int words]) (f_l_oneway script at_ rooms signs words) (eT2 (eSq (eSq D.int)) (eSq eSt)) := by
  unfold h_l_oneway runF b_l_oneway f_l_oneway
  exact g_fun (g_last (g_seq (g_set (i := 5) (rf_lstP (e := (eSq D.int)) (as := []) rl_nil (by simp)) True.intro fun rows => (g_seq (g_set (i := 6) (rf_lstP (e := eSt) (as := []) rl_nil (by simp)) True.intro fun told_here => (g_seq (g_thn (I' := (fun (s_ : (List (List Int)) × (List St)) (σ : Sl) => match s_ with | (rows, told_here) => ∃ d7 d8 d9 d10 d11 : Option D, σ = [some ((eLs false D.int) script), some (D.int at_), some (D.int rooms), some (D.int signs), some (D.int words), some ((eLs true (eSq D.int)) rows), some ((eLs true eSt) told_here), d7, d8, d9, d10, d11])) (g_for (I := (fun (s_ : (List (List Int)) × (List St)) (σ : Sl) => match s_ with | (rows, told_here) => ∃ d7 d8 d9 d10 d11 : Option D, σ = [some ((eLs false D.int) script), some (D.int at_), some (D.int rooms), some (D.int signs), some (D.int words), some ((eLs true (eSq D.int)) rows), some ((eLs true eSt) told_here), d7, d8, d9, d10, d11])) (ri_r1_p (rf_v (i := 2) (a := rooms) D.int rfl)) ⟨_, _, _, _, _, rfl⟩ True.intro (fun room s_ σ_ h_ => by obtain ⟨rows, told_here⟩ := s_; obtain ⟨d7, d8, d9, d10, d11, rfl⟩ := h_; exact ⟨_, rfl, g_last (g_seq (g_set (i := 8) (rf_o cl_bl (rf_and_p (rf_lt_pp (rf_add_pp (rf_v (i := 1) (a := at_) D.int rfl) (rf_v (i := 7) (a := room) D.int rfl)) (rf_bip1_p (g := fun u => (List.length u : Int)) bt_lenL (rf_v (i := 0) (a := script) (eLs false D.int) rfl))) (rf_eq_mp py_int py_int pq_int (by decide) (by decide) (rf_modK_m (j := 2) (by decide) (rf_ixL_pp (rf_v (i := 0) (a := script) (eLs false D.int) rfl) (rf_k (a := 0) D.int rfl))) (rf_k (a := 1) D.int rfl)))) True.intro fun digits => (g_seq (g_set (i := 9) (rf_modK_m (j := 2147483647) (by decide) (rf_call2_pp (Φ := f_l_cell) tf_l_cell (cl_ls cl_int).fz cl_int.fz (.inl ⟨(cl_ls cl_int), cl_int, True.intro⟩) (rf_v (i := 0) (a := script) (eLs false D.int) rfl) (rf_add_pp (rf_v (i := 1) (a := at_) D.int rfl) (rf_v (i := 7) (a := room) D.int rfl)))) True.intro fun number => (g_seq (g_thn (I' := (fun (number : Int) (σ : Sl) => ∃ d10 d11 : Option D, σ = [some ((eLs false D.int) script), some (D.int at_), some (D.int rooms), some (D.int signs), some (D.int words), some ((eLs true (eSq D.int)) rows), some ((eLs true eSt) told_here), some (D.int room), some (D.bl digits), some (D.int number), d10, d11])) (g_last (g_ifP (b := digits) (rf_v (i := 8) (a := digits) D.bl rfl) (g_set (i := 9) (rf_o cl_int (rf_ixL_pp (rf_v (i := 0) (a := script) (eLs false D.int) rfl) (rf_add_pp (rf_v (i := 1) (a := at_) D.int rfl) (rf_v (i := 7) (a := room) D.int rfl)))) True.intro fun number => (g_nx ⟨_, _, rfl⟩)) (g_skip (g_nx ⟨_, _, rfl⟩)))) fun number σ_ h_ => by obtain ⟨d10, d11, rfl⟩ := h_; exact (g_seq (g_set (i := 10) (rf_lstP (e := D.int) (as := []) rl_nil (by simp)) True.intro fun row => (g_seq (g_thn (I' := (fun (s_ : Int × (List Int)) (σ : Sl) => match s_ with | (number, row) => ∃ d11 : Option D, σ = [some ((eLs false D.int) script), some (D.int at_), some (D.int rooms), some (D.int signs), some (D.int words), some ((eLs true (eSq D.int)) rows), some ((eLs true eSt) told_here), some (D.int room), some (D.bl digits), some (D.int number), some ((eLs true D.int) row), d11])) (g_for (I := (fun (s_ : Int × (List Int)) (σ : Sl) => match s_ with | (number, row) => ∃ d11 : Option D, σ = [some ((eLs false D.int) script), some (D.int at_), some (D.int rooms), some (D.int signs), some (D.int words), some ((eLs true (eSq D.int)) rows), some ((eLs true eSt) told_here), some (D.int room), some (D.bl digits), some (D.int number), some ((eLs true D.int) row), d11])) (ri_r1_p (rf_v (i := 3) (a := signs) D.int rfl)) ⟨_, rfl⟩ True.intro (fun k s_ σ_ h_ => by obtain ⟨number, row⟩ := s_; obtain ⟨d11, rfl⟩ := h_; exact ⟨_, rfl, g_last (g_seq (g_thn (I' := (fun (number : Int) (σ : Sl) => σ = [some ((eLs false D.int) script), some (D.int at_), some (D.int rooms), some (D.int signs), some (D.int words), some ((eLs true (eSq D.int)) rows), some ((eLs true eSt) told_here), some (D.int room), some (D.bl digits), some (D.int number), some ((eLs true D.int) row), some (D.int k)])) (g_last (g_ifP (b := !digits) (rf_not_p (rf_v (i := 8) (a := digits) D.bl rfl)) (g_set (i := 9) (rf_fdivK_p (j := 64) (by decide) (rf_modK_p (j := 2147483647) (by decide) (rf_add_pp (rf_mulR_p (j := 48271) (by decide) (rf_v (i := 9) (a := number) D.int rfl)) (rf_k (a := 7919) D.int rfl)))) True.intro fun number => (g_nx rfl)) (g_skip (g_nx rfl)))) fun number σ_ h_ => by obtain rfl := h_; exact (g_seq (g_app (i := 10) (xs := row) D.int rfl (rf_mod_pp (rf_v (i := 9) (a := number) D.int rfl) (rf_v (i := 2) (a := rooms) D.int rfl)) True.intro fun row => (g_set (i := 9) (rf_fdiv_pp (rf_v (i := 9) (a := number) D.int rfl) (rf_v (i := 2) (a := rooms) D.int rfl)) True.intro fun number => (g_nx ⟨_, rfl⟩))))))⟩)) fun s_ σ_ h_ => by obtain ⟨number, row⟩ := s_; obtain ⟨d11, rfl⟩ := h_; exact (g_seq (g_app (i := 6) (xs := told_here) eSt rfl (rf_o cl_st (rf_ixL_pm (rf_lstP (as := ["by".toList, "out".toList, "ever".toList]) (rl_consP (rf_k (a := "by".toList) eSt (k_str _)) (rl_consP (rf_k (a := "out".toList) eSt (k_str _)) (rl_consP (rf_k (a := "ever".toList) eSt (k_str _)) rl_nil))) (by simp)) (rf_mod_pp (rf_v (i := 9) (a := number) D.int rfl) (rf_v (i := 4) (a := words) D.int rfl)))) True.intro fun told_here => (g_appP (i := 5) (xs := rows) (a := row) (eSq D.int) rfl (rf_bip1_p (g := fun u => u) (bt_tupL cl_int) (rf_v (i := 10) (a := row) (eLs true D.int) rfl)) True.intro fun rows => (g_nx ⟨_, _, _, _, _, rfl⟩))))))))))))))⟩)) fun s_ σ_ h_ => by obtain ⟨rows, told_here⟩ := s_; obtain ⟨d7, d8, d9, d10, d11, rfl⟩ := h_; exact (g_retP (a := (rows, told_here)) (rf_tup2_pp (rf_bip1_p (g := fun u => u) (bt_tupL (cl_sq cl_int)) (rf_v (i := 5) (a := rows) (eLs true (eSq D.int)) rfl)) (rf_bip1_p (g := fun u => u) (bt_tupL cl_st) (rf_v (i := 6) (a := told_here) (eLs true eSt) rfl)))))))))))
noncomputable def f_l_firsts (one : ((List (List Int)) × (List St))) (two : ((List (List Int)) × (List St))) (pair : (Int × Int)) : R (List ((Int × Int) × St)) := runO (L := Unit) (S := Unit) <|
  bnd (R.ok ([(pair, "".toList)]) : R (List ((Int × Int) × St))) fun strips =>
  bnd (R.ok ([pair]) : R (List (Int × Int))) fun waiting =>
  bnd (R.ok (0) : R Int) fun at_ =>
  O.thn (whlT (fun (strips, waiting, at_) => R.ok (decide (at_ < ((waiting.length : Int))))) (fun (strips, waiting, at_) =>
    bnd (ofR (L2.atI waiting at_)) fun (here, there) =>
    O.thn (bnd (((ofR (L2.atI one.1 here)).bind fun u => R.ok ((u.length : Int))).bind fun u => rngT u) fun l_ => forT l_ (fun k (strips, waiting) =>
      bnd (((ofR (L2.atI one.1 here)).bind fun u => ofR (L2.atI u k)).bind fun u => ((ofR (L2.atI two.1 there)).bind fun u => ofR (L2.atI u k)).bind fun v => R.ok ((u, v)) : R (Int × Int)) fun after =>
      if (!hasT strips after) = true then
        bnd ((ofR (getT strips ((here, there)))).bind fun u => ((sixT ("abc".toList) k).bind fun u => R.ok ((fun c => [c]) u)).bind fun v => szT (u.length + v.length) (u ++ v)) fun v => bnd (R.ok (after)) fun k => bnd (puT strips k v) fun strips =>
        bnd (apT waiting after) fun waiting =>
        O.nx (strips, waiting)
      else
        O.nx (strips, waiting)) (strips, waiting) : O ((List ((Int × Int) × St)) × (List (Int × Int))) _ _) fun (strips, waiting) =>
    bnd (R.ok (at_ + 1) : R Int) fun at_ =>
    O.nx (strips, waiting, at_)) (strips, waiting, at_) : O ((List ((Int × Int) × St)) × (List (Int × Int)) × Int) _ _) fun (strips, waiting, at_) =>
  bnd (R.ok (strips)) .rt
theorem tf_l_firsts (one : ((List (List Int)) × (List St))) (two : ((List (List Int)) × (List St))) (pair : (Int × Int)) : Rf (h_l_firsts [(eT2 (eSq (eSq D.int)) (eSq eSt)) one, (eT2 (eSq (eSq D.int)) (eSq eSt)) two, (eT2 D.int D.int) pair]) (f_l_firsts one two pair) (eDc true (kT2 kInt kInt) eSt) := by
  unfold h_l_firsts runF b_l_firsts f_l_firsts
  exact g_fun (g_last (g_seq (g_set (i := 3) (rf_dN1 (ky_t2 ky_int ky_int) kt_t2 (by decide) cl_st (m := .ok pair) (d := .ok ("".toList)) (rf_v (i := 2) (a := pair) (eT2 D.int D.int) rfl) (rf_k (a := "".toList) eSt (k_str _))) True.intro fun strips => (g_seq (g_set (i := 4) (rf_lstP (as := [pair]) (rl_consP (rf_o (cl_t2 cl_int cl_int) (rf_v (i := 2) (a := pair) (eT2 D.int D.int) rfl)) rl_nil) (by simp)) True.intro fun waiting => (g_seq (g_set (i := 5) (rf_k (a := 0) D.int rfl) True.intro fun at_ => (g_seq (g_thn (I' := (fun (s_ : (List ((Int × Int) × St)) × (List (Int × Int)) × Int) (σ : Sl) => match s_ with | (strips, waiting, at_) => ∃ d6 d7 d8 d9 : Option D, σ = [some ((eT2 (eSq (eSq D.int)) (eSq eSt)) one), some ((eT2 (eSq (eSq D.int)) (eSq eSt)) two), some ((eT2 D.int D.int) pair), some ((eDc true (kT2 kInt kInt) eSt) strips), some ((eLs true (eT2 D.int D.int)) waiting), some (D.int at_), d6, d7, d8, d9])) (g_whl (I := (fun (s_ : (List ((Int × Int) × St)) × (List (Int × Int)) × Int) (σ : Sl) => match s_ with | (strips, waiting, at_) => ∃ d6 d7 d8 d9 : Option D, σ = [some ((eT2 (eSq (eSq D.int)) (eSq eSt)) one), some ((eT2 (eSq (eSq D.int)) (eSq eSt)) two), some ((eT2 D.int D.int) pair), some ((eDc true (kT2 kInt kInt) eSt) strips), some ((eLs true (eT2 D.int D.int)) waiting), some (D.int at_), d6, d7, d8, d9])) ⟨_, _, _, _, rfl⟩ (fun _ _ _ => True.intro) (fun s_ σ_ h_ => by obtain ⟨strips, waiting, at_⟩ := s_; obtain ⟨d6, d7, d8, d9, rfl⟩ := h_; exact (rf_lt_pp (rf_v (i := 5) (a := at_) D.int rfl) (rf_bip1_p (g := fun u => (List.length u : Int)) bt_lenL (rf_v (i := 4) (a := waiting) (eLs true (eT2 D.int D.int)) rfl)))) (fun s_ σ_ h_ => by obtain ⟨strips, waiting, at_⟩ := s_; obtain ⟨d6, d7, d8, d9, rfl⟩ := h_; exact g_last (g_seq (g_unp (cl_t2 cl_int cl_int) (rf_ixL_pp (rf_v (i := 4) (a := waiting) (eLs true (eT2 D.int D.int)) rfl) (rf_v (i := 5) (a := at_) D.int rfl)) True.intro fun q_ => by obtain ⟨here, there⟩ := q_; exact ⟨_, rfl, (g_seq (g_thn (I' := (fun (s_ : (List ((Int × Int) × St)) × (List (Int × Int))) (σ : Sl) => match s_ with | (strips, waiting) => ∃ d8 d9 : Option D, σ = [some ((eT2 (eSq (eSq D.int)) (eSq eSt)) one), some ((eT2 (eSq (eSq D.int)) (eSq eSt)) two), some ((eT2 D.int D.int) pair), some ((eDc true (kT2 kInt kInt) eSt) strips), some ((eLs true (eT2 D.int D.int)) waiting), some (D.int at_), some (D.int here), some (D.int there), d8, d9])) (g_for (I := (fun (s_ : (List ((Int × Int) × St)) × (List (Int × Int))) (σ : Sl) => match s_ with | (strips, waiting) => ∃ d8 d9 : Option D, σ = [some ((eT2 (eSq (eSq D.int)) (eSq eSt)) one), some ((eT2 (eSq (eSq D.int)) (eSq eSt)) two), some ((eT2 D.int D.int) pair), some ((eDc true (kT2 kInt kInt) eSt) strips), some ((eLs true (eT2 D.int D.int)) waiting), some (D.int at_), some (D.int here), some (D.int there), d8, d9])) (ri_r1_m (rf_bip1_m (g := fun u => (List.length u : Int)) bt_lenQ (rf_ixQ_pp (rf_ix2_0_p (rf_v (i := 0) (a := one) (eT2 (eSq (eSq D.int)) (eSq eSt)) rfl)) (rf_v (i := 6) (a := here) D.int rfl)))) ⟨_, _, rfl⟩ True.intro (fun k s_ σ_ h_ => by obtain ⟨strips, waiting⟩ := s_; obtain ⟨d8, d9, rfl⟩ := h_; exact ⟨_, rfl, g_last (g_seq (g_set (i := 9) (rf_tup2_mm (rf_o cl_int (rf_ixQ_mp (rf_ixQ_pp (rf_ix2_0_p (rf_v (i := 0) (a := one) (eT2 (eSq (eSq D.int)) (eSq eSt)) rfl)) (rf_v (i := 6) (a := here) D.int rfl)) (rf_v (i := 8) (a := k) D.int rfl))) (rf_o cl_int (rf_ixQ_mp (rf_ixQ_pp (rf_ix2_0_p (rf_v (i := 1) (a := two) (eT2 (eSq (eSq D.int)) (eSq eSt)) rfl)) (rf_v (i := 7) (a := there) D.int rfl)) (rf_v (i := 8) (a := k) D.int rfl)))) True.intro fun after => (g_ifP (b := !hasT strips after) (rf_ninD_pp ((ky_t2 ky_int ky_int).tupk kt_t2 (by decide)) (rf_v (i := 9) (a := after) (eT2 D.int D.int) rfl) (rf_v (i := 3) (a := strips) (eDc true (kT2 kInt kInt) eSt) rfl)) (g_seq (g_putk (i := 3) (kvs := strips) eSt ((ky_t2 ky_int ky_int).tupk kt_t2 (by decide)) cl_st rfl (rf_addS_mm (rf_ixD_pp ((ky_t2 ky_int ky_int).tupk kt_t2 (by decide)) (rf_v (i := 3) (a := strips) (eDc true (kT2 kInt kInt) eSt) rfl) (rf_tup2_pp (rf_o cl_int (rf_v (i := 6) (a := here) D.int rfl)) (rf_o cl_int (rf_v (i := 7) (a := there) D.int rfl)))) (rf_wid_m (fun c => [c]) (rf_ixS_pp (rf_k (a := "abc".toList) eSt (k_str _)) (rf_v (i := 8) (a := k) D.int rfl)) wd_chr)) (rf_v (i := 9) (a := after) (eT2 D.int D.int) rfl) True.intro fun strips => (g_appP (i := 4) (xs := waiting) (a := after) (eT2 D.int D.int) rfl (rf_o (cl_t2 cl_int cl_int) (rf_v (i := 9) (a := after) (eT2 D.int D.int) rfl)) True.intro fun waiting => (g_nx ⟨_, _, rfl⟩)))) (g_skip (g_nx ⟨_, _, rfl⟩)))))⟩)) fun s_ σ_ h_ => by obtain ⟨strips, waiting⟩ := s_; obtain ⟨d8, d9, rfl⟩ := h_; exact (g_set (i := 5) (rf_add_pp (rf_v (i := 5) (a := at_) D.int rfl) (rf_k (a := 1) D.int rfl)) True.intro fun at_ => (g_nx ⟨_, _, _, _, rfl⟩))))⟩)))) fun s_ σ_ h_ => by obtain ⟨strips, waiting, at_⟩ := s_; obtain ⟨d6, d7, d8, d9, rfl⟩ := h_; exact (g_retR (rf_v (i := 3) (a := strips) (eDc true (kT2 kInt kInt) eSt) rfl) True.intro))))))))))
noncomputable def f_l_due (one : ((List (List Int)) × (List St))) (two : ((List (List Int)) × (List St))) (pairs : (List (Int × Int))) : R Bool := runO (L := Unit) (S := Unit) <|
  bnd ((((ofR (L2.atI one.1 0)).bind fun u => R.ok ((u.length : Int))).bind fun u => ((ofR (L2.atI two.1 0)).bind fun u => R.ok ((u.length : Int))).bind fun v => R.ok (!decide (u = v))).bind fun u => R.ok (u || (!decide (((0, 0)) ∈ (pairs : List (Int × Int)))))) fun b_ => if b_ = true then
    O.rt (false)
  else
    O.thn (forT pairs (fun (here, there) (_ : Unit) =>
    bnd (if (!(decide (0 ≤ here) && decide (here < ((one.1.length : Int))))) = true then R.ok true else if (!(decide (0 ≤ there) && decide (there < ((two.1.length : Int))))) = true then R.ok true else (ofR (L2.atI one.2 here)).bind fun u => (ofR (L2.atI two.2 there)).bind fun v => R.ok (!decide (u = v))) fun b_ => if b_ = true then
      O.rt (false)
    else
      bnd ((((ofR (L2.atI one.1 here)).bind fun u => (ofR (L2.atI two.1 there)).bind fun v => R.ok (List.zip u v)).bind fun u => cmT u (fun pair => R.ok (decide (pair ∈ (pairs : List (Int × Int)))))).bind fun v => R.ok (decide (false ∈ (v : List Bool)))) fun b_ => if b_ = true then
      O.rt (false)
    else
      O.nx ()) () : O (Unit) _ _) fun (_ : Unit) =>
  O.rt (true)
theorem tf_l_due (one : ((List (List Int)) × (List St))) (two : ((List (List Int)) × (List St))) (pairs : (List (Int × Int))) : Rf (h_l_due [(eT2 (eSq (eSq D.int)) (eSq eSt)) one, (eT2 (eSq (eSq D.int)) (eSq eSt)) two, (eLs false (eT2 D.int D.int)) pairs]) (f_l_due one two pairs) D.bl := by
  unfold h_l_due runF b_l_due f_l_due
  exact g_fun (g_last (g_seq (g_if (rf_orP_m (rf_ne_mm py_int py_int pq_int (by decide) (by decide) (rf_bip1_m (g := fun u => (List.length u : Int)) bt_lenQ (rf_ixQ_pp (rf_ix2_0_p (rf_v (i := 0) (a := one) (eT2 (eSq (eSq D.int)) (eSq eSt)) rfl)) (rf_k (a := 0) D.int rfl))) (rf_bip1_m (g := fun u => (List.length u : Int)) bt_lenQ (rf_ixQ_pp (rf_ix2_0_p (rf_v (i := 1) (a := two) (eT2 (eSq (eSq D.int)) (eSq eSt)) rfl)) (rf_k (a := 0) D.int rfl)))) (rf_ninL_pp (py_t2 py_int py_int) (py_t2 py_int py_int) (pq_t2 pq_int pq_int) (by decide) (by decide) (rf_tup2_pp (rf_k (a := 0) D.int rfl) (rf_k (a := 0) D.int rfl)) (rf_v (i := 2) (a := pairs) (eLs false (eT2 D.int D.int)) rfl))) True.intro (g_retP (a := false) (rf_k (a := false) D.bl rfl)) (g_skip (g_seq (g_thn (I' := (fun (_ : Unit) (σ : Sl) => ∃ d3 d4 d5 : Option D, σ = [some ((eT2 (eSq (eSq D.int)) (eSq eSt)) one), some ((eT2 (eSq (eSq D.int)) (eSq eSt)) two), some ((eLs false (eT2 D.int D.int)) pairs), d3, d4, d5])) (g_forP (I := (fun (_ : Unit) (σ : Sl) => ∃ d3 d4 d5 : Option D, σ = [some ((eT2 (eSq (eSq D.int)) (eSq eSt)) one), some ((eT2 (eSq (eSq D.int)) (eSq eSt)) two), some ((eLs false (eT2 D.int D.int)) pairs), d3, d4, d5])) (xs := pairs) (ri_L_p (cl_t2 cl_int cl_int) (rf_o (cl_ls (cl_t2 cl_int cl_int)) (rf_v (i := 2) (a := pairs) (eLs false (eT2 D.int D.int)) rfl))) ⟨_, _, _, rfl⟩ True.intro (fun q_ s_ σ_ h_ => by obtain ⟨here, there⟩ := q_; obtain ⟨d3, d4, d5, rfl⟩ := h_; exact ⟨_, rfl, g_last (g_seq (g_if (rf_or_p (rf_not_p (rf_cc_lelt_pp (rf_k (a := 0) D.int rfl) (rf_v (i := 3) (a := here) D.int rfl) (rf_bip1_p (g := fun u => (List.length u : Int)) bt_lenQ (rf_ix2_0_p (rf_v (i := 0) (a := one) (eT2 (eSq (eSq D.int)) (eSq eSt)) rfl))))) (rf_or_p (rf_not_p (rf_cc_lelt_pp (rf_k (a := 0) D.int rfl) (rf_v (i := 4) (a := there) D.int rfl) (rf_bip1_p (g := fun u => (List.length u : Int)) bt_lenQ (rf_ix2_0_p (rf_v (i := 1) (a := two) (eT2 (eSq (eSq D.int)) (eSq eSt)) rfl))))) (rf_ne_mm py_st py_st pq_st (by decide) (by decide) (rf_ixQ_pp (rf_ix2_1_p (rf_v (i := 0) (a := one) (eT2 (eSq (eSq D.int)) (eSq eSt)) rfl)) (rf_v (i := 3) (a := here) D.int rfl)) (rf_ixQ_pp (rf_ix2_1_p (rf_v (i := 1) (a := two) (eT2 (eSq (eSq D.int)) (eSq eSt)) rfl)) (rf_v (i := 4) (a := there) D.int rfl))))) True.intro (g_retP (a := false) (rf_k (a := false) D.bl rfl)) (g_skip (g_if (rf_inL_pm py_bl py_bl pq_bl (by decide) (by decide) (rf_k (a := false) D.bl rfl) (rf_cm_m (ri_zN_mm cl_int cl_int (rf_ixQ_pp (rf_ix2_0_p (rf_v (i := 0) (a := one) (eT2 (eSq (eSq D.int)) (eSq eSt)) rfl)) (rf_v (i := 3) (a := here) D.int rfl)) (rf_ixQ_pp (rf_ix2_0_p (rf_v (i := 1) (a := two) (eT2 (eSq (eSq D.int)) (eSq eSt)) rfl)) (rf_v (i := 4) (a := there) D.int rfl))) (fun pair => ⟨_, rfl, (rf_inL_pp (py_t2 py_int py_int) (py_t2 py_int py_int) (pq_t2 pq_int pq_int) (by decide) (by decide) (rf_v (i := 5) (a := pair) (eT2 D.int D.int) rfl) (rf_v (i := 2) (a := pairs) (eLs false (eT2 D.int D.int)) rfl))⟩))) True.intro (g_retP (a := false) (rf_k (a := false) D.bl rfl)) (g_skip (g_nx ⟨_, _, _, rfl⟩))))))⟩)) fun s_ σ_ h_ => by obtain ⟨d3, d4, d5, rfl⟩ := h_; exact (g_retP (a := true) (rf_k (a := true) D.bl rfl))))))))
noncomputable def f_l_turned (machine : ((List (List Int)) × (List St))) (cut : Int) : R ((List (List Int)) × (List St)) := runO (L := Unit) (S := Unit) <|
  bnd (R.ok (machine)) fun (rows, words) =>
  bnd (lr2T 1 ((rows.length : Int)) : R (List Int)) fun order =>
  bnd (modT cut (if ((order.length : Int)) > 1 then ((order.length : Int)) else 1) : R Int) fun cut =>
  bnd ((szT (([0]).length + (cutL order (some cut) none).length) (([0]) ++ (cutL order (some cut) none))).bind fun u => szT (u.length + (cutL order none (some cut)).length) (u ++ (cutL order none (some cut))) : R (List Int)) fun order =>
  bnd (R.ok ([]) : R (List (Int × Int))) fun place =>
  O.thn (forT (enT 0 order) (fun (k, room) place =>
    bnd (R.ok (k)) fun v => bnd (R.ok (room)) fun k => bnd (puT place k v) fun place =>
    O.nx place) place : O ((List (Int × Int))) _ _) fun place =>
  bnd (cmT order (fun room => (((ofR (L2.atI rows room)).bind fun u => R.ok u).bind fun u => cmT u (fun after => ofR (getT place after))).bind fun u => R.ok (u)) : R (List (List Int))) fun made =>
  bnd (((cmT order (fun room => ofR (L2.atI words room))).bind fun u => R.ok (u)).bind fun v => R.ok ((made, v))) .rt
theorem tf_l_turned (machine : ((List (List Int)) × (List St))) (cut : Int) : Rf (h_l_turned [(eT2 (eSq (eSq D.int)) (eSq eSt)) machine, D.int cut]) (f_l_turned machine cut) (eT2 (eSq (eSq D.int)) (eSq eSt)) := by
  unfold h_l_turned runF b_l_turned f_l_turned
  exact g_fun (g_last (g_seq (g_unp (cl_t2 (cl_sq (cl_sq cl_int)) (cl_sq cl_st)) (rf_v (i := 0) (a := machine) (eT2 (eSq (eSq D.int)) (eSq eSt)) rfl) True.intro fun q_ => by obtain ⟨rows, words⟩ := q_; exact ⟨_, rfl, (g_seq (g_set (i := 4) (rf_lr2_pp (rf_k (a := 1) D.int rfl) (rf_bip1_p (g := fun u => (List.length u : Int)) bt_lenQ (rf_v (i := 2) (a := rows) (eSq (eSq D.int)) rfl))) True.intro fun order => (g_seq (g_set (i := 1) (rf_mod_pp (rf_v (i := 1) (a := cut) D.int rfl) (rf_bip2_pp (g := fun i j => if j > i then j else i) bt_max (rf_k (a := 1) D.int rfl) (rf_bip1_p (g := fun u => (List.length u : Int)) bt_lenL (rf_v (i := 4) (a := order) (eLs true D.int) rfl)))) True.intro fun cut => (g_seq (g_set (i := 4) (rf_addL_mp cl_int (rf_addL_pp cl_int (rf_lstP (as := [0]) (rl_consP (rf_k (a := 0) D.int rfl) rl_nil) (by simp)) (rf_slL_p cl_int (rf_v (i := 4) (a := order) (eLs true D.int) rfl) (sl_yesP (rf_v (i := 1) (a := cut) D.int rfl)) (sl_noP rfl))) (rf_slL_p cl_int (rf_v (i := 4) (a := order) (eLs true D.int) rfl) (sl_noP rfl) (sl_yesP (rf_v (i := 1) (a := cut) D.int rfl)))) True.intro fun order => (g_seq (g_set (i := 5) (rf_d0 (κ := kInt) (e' := D.int)) True.intro fun place => (g_fz (i := 4) (a := order) (eLs true D.int) rfl (fz_ls cl_int.fz) (g_seq (g_thn (I' := (fun (place : (List (Int × Int))) (σ : Sl) => ∃ d6 d7 d8 d9 : Option D, σ = [some ((eT2 (eSq (eSq D.int)) (eSq eSt)) machine), some (D.int cut), some ((eSq (eSq D.int)) rows), some ((eSq eSt) words), some ((eLs false D.int) order), some ((eDc true kInt D.int) place), d6, d7, d8, d9])) (g_forP (I := (fun (place : (List (Int × Int))) (σ : Sl) => ∃ d6 d7 d8 d9 : Option D, σ = [some ((eT2 (eSq (eSq D.int)) (eSq eSt)) machine), some (D.int cut), some ((eSq (eSq D.int)) rows), some ((eSq eSt) words), some ((eLs false D.int) order), some ((eDc true kInt D.int) place), d6, d7, d8, d9])) (xs := enT 0 order) (ri_enL_p cl_int (rf_o (cl_ls cl_int) (rf_v (i := 4) (a := order) (eLs false D.int) rfl))) ⟨_, _, _, _, rfl⟩ True.intro (fun q_ place σ_ h_ => by obtain ⟨k, room⟩ := q_; obtain ⟨d6, d7, d8, d9, rfl⟩ := h_; exact ⟨_, rfl, g_last (g_putk (i := 5) (kvs := place) D.int (ky_int.leaf kl_int) cl_int rfl (rf_o cl_int (rf_v (i := 6) (a := k) D.int rfl)) (rf_v (i := 7) (a := room) D.int rfl) True.intro fun place => (g_nx ⟨_, _, _, _, rfl⟩))⟩)) fun place σ_ h_ => by obtain ⟨d6, d7, d8, d9, rfl⟩ := h_; exact (g_seq (g_set (i := 8) (rf_cm_p (ri_L_p cl_int (rf_v (i := 4) (a := order) (eLs false D.int) rfl)) (fun room => ⟨_, rfl, (rf_bip1_m (g := fun u => u) (bt_tupL cl_int) (rf_cm_m (ri_Q_m cl_int (rf_ixQ_pp (rf_v (i := 2) (a := rows) (eSq (eSq D.int)) rfl) (rf_v (i := 7) (a := room) D.int rfl))) (fun after => ⟨_, rfl, (rf_o cl_int (rf_ixD_pp (ky_int.leaf kl_int) (rf_v (i := 5) (a := place) (eDc true kInt D.int) rfl) (rf_v (i := 9) (a := after) D.int rfl)))⟩)))⟩)) True.intro fun made => (g_ret (rf_tup2_pm (rf_bip1_p (g := fun u => u) (bt_tupL (cl_sq cl_int)) (rf_v (i := 8) (a := made) (eLs true (eSq D.int)) rfl)) (rf_bip1_m (g := fun u => u) (bt_tupL cl_st) (rf_cm_p (ri_L_p cl_int (rf_v (i := 4) (a := order) (eLs false D.int) rfl)) (fun room => ⟨_, rfl, (rf_o cl_st (rf_ixQ_pp (rf_v (i := 3) (a := words) (eSq eSt) rfl) (rf_v (i := 7) (a := room) D.int rfl)))⟩)))) True.intro))))))))))))))⟩)))
noncomputable def f_l_spoilt (pairs : (List (Int × Int))) (how : Int) (cell_here : Int) : R (List (Int × Int)) := runO (L := Unit) (S := Unit) <|
  bnd (modT cell_here ((pairs.length : Int)) : R Int) fun at_ =>
  bnd (R.ok (pairs) : R (List (Int × Int))) fun made =>
  O.thn (if (decide (how = 0)) = true then
    bnd (R.ok (at_)) fun u => bnd (popT made u) fun made =>
    O.nx made
  else
    O.nx made : O (List (Int × Int)) _ _) fun made =>
  O.thn (if (decide (how = 1)) = true then
    bnd (apT made ((((cell_here / 8) % 6), ((cell_here / 64) % 6)))) fun made =>
    O.nx made
  else
    O.nx made : O (List (Int × Int)) _ _) fun made =>
  O.thn (if (decide (how = 2)) = true then
    bnd (((ofR (L2.atI made at_)).bind fun u => R.ok (u.1)).bind fun u => (((powT 10 9).bind fun v => modT (cell_here / 8) v).bind fun v => R.ok (6 + v)).bind fun v => R.ok ((u, v))) fun v => bnd (R.ok (at_)) fun k => bnd (setT made k v) fun made =>
    O.nx made
  else
    O.nx made : O (List (Int × Int)) _ _) fun made =>
  O.thn (if (decide (how = 3)) = true then
    bnd (((ofR (L2.atI made at_)).bind fun u => R.ok (u.2)).bind fun v => R.ok ((((-1) - ((cell_here / 8) % 6)), v))) fun v => bnd (R.ok (at_)) fun k => bnd (setT made k v) fun made =>
    O.nx made
  else
    O.nx made : O (List (Int × Int)) _ _) fun made =>
  O.thn (if (decide (how = 4)) = true then
    bnd (R.ok (at_)) fun u => bnd (((ofR (L2.atI made at_)).bind fun u => R.ok (u.1)).bind fun u => R.ok ((u, ((-1) - ((cell_here / 8) % 6))))) fun v => bnd (insT made u v) fun made =>
    O.nx made
  else
    O.nx made : O (List (Int × Int)) _ _) fun made =>
  O.thn (if ((decide (how = 5)) && (decide (((cell_here / 8) % 4) = 1))) = true then
    bnd (R.ok ([]) : R (List (Int × Int))) fun made =>
    O.nx made
  else
    O.nx made : O (List (Int × Int)) _ _) fun made =>
  bnd (R.ok (made)) .rt
theorem tf_l_spoilt (pairs : (List (Int × Int))) (how : Int) (cell_here : Int) : Rf (h_l_spoilt [(eLs false (eT2 D.int D.int)) pairs, D.int how, D.int cell_here]) (f_l_spoilt pairs how cell_here) (eLs true (eT2 D.int D.int)) := by
  unfold h_l_spoilt runF b_l_spoilt f_l_spoilt
  exact g_fun (g_last (g_seq (g_set (i := 3) (rf_mod_pp (rf_v (i := 2) (a := cell_here) D.int rfl) (rf_bip1_p (g := fun u => (List.length u : Int)) bt_lenL (rf_v (i := 0) (a := pairs) (eLs false (eT2 D.int D.int)) rfl))) True.intro fun at_ => (g_seq (g_set (i := 4) (rf_liL_p (cl_t2 cl_int cl_int) (rf_v (i := 0) (a := pairs) (eLs false (eT2 D.int D.int)) rfl)) True.intro fun made => (g_seq (g_thn (I' := (fun (made : (List (Int × Int))) (σ : Sl) => σ = [some ((eLs false (eT2 D.int D.int)) pairs), some (D.int how), some (D.int cell_here), some (D.int at_), some ((eLs true (eT2 D.int D.int)) made)])) (g_last (g_ifP (b := decide (how = 0)) (rf_eq_pp py_int py_int pq_int (by decide) (by decide) (rf_v (i := 1) (a := how) D.int rfl) (rf_k (a := 0) D.int rfl)) (g_pop (i := 4) (xs := made) (eT2 D.int D.int) (cl_t2 cl_int cl_int) rfl (rf_v (i := 3) (a := at_) D.int rfl) True.intro fun made => (g_nx rfl)) (g_skip (g_nx rfl)))) fun made σ_ h_ => by obtain rfl := h_; exact (g_seq (g_thn (I' := (fun (made : (List (Int × Int))) (σ : Sl) => σ = [some ((eLs false (eT2 D.int D.int)) pairs), some (D.int how), some (D.int cell_here), some (D.int at_), some ((eLs true (eT2 D.int D.int)) made)])) (g_last (g_ifP (b := decide (how = 1)) (rf_eq_pp py_int py_int pq_int (by decide) (by decide) (rf_v (i := 1) (a := how) D.int rfl) (rf_k (a := 1) D.int rfl)) (g_appP (i := 4) (xs := made) (a := (((cell_here / 8) % 6), ((cell_here / 64) % 6))) (eT2 D.int D.int) rfl (rf_tup2_pp (rf_modK_p (j := 6) (by decide) (rf_fdivK_p (j := 8) (by decide) (rf_v (i := 2) (a := cell_here) D.int rfl))) (rf_modK_p (j := 6) (by decide) (rf_fdivK_p (j := 64) (by decide) (rf_v (i := 2) (a := cell_here) D.int rfl)))) True.intro fun made => (g_nx rfl)) (g_skip (g_nx rfl)))) fun made σ_ h_ => by obtain rfl := h_; exact (g_seq (g_thn (I' := (fun (made : (List (Int × Int))) (σ : Sl) => σ = [some ((eLs false (eT2 D.int D.int)) pairs), some (D.int how), some (D.int cell_here), some (D.int at_), some ((eLs true (eT2 D.int D.int)) made)])) (g_last (g_ifP (b := decide (how = 2)) (rf_eq_pp py_int py_int pq_int (by decide) (by decide) (rf_v (i := 1) (a := how) D.int rfl) (rf_k (a := 2) D.int rfl)) (g_putL (i := 4) (xs := made) (eT2 D.int D.int) (cl_t2 cl_int cl_int) rfl (rf_tup2_mm (rf_o cl_int (rf_ix2_0_m (rf_ixL_pp (rf_v (i := 4) (a := made) (eLs true (eT2 D.int D.int)) rfl) (rf_v (i := 3) (a := at_) D.int rfl)))) (rf_add_pm (rf_k (a := 6) D.int rfl) (rf_mod_pm (rf_fdivK_p (j := 8) (by decide) (rf_v (i := 2) (a := cell_here) D.int rfl)) (rf_pow_pp (rf_k (a := 10) D.int rfl) (rf_k (a := 9) D.int rfl))))) (rf_v (i := 3) (a := at_) D.int rfl) True.intro fun made => (g_nx rfl)) (g_skip (g_nx rfl)))) fun made σ_ h_ => by obtain rfl := h_; exact (g_seq (g_thn (I' := (fun (made : (List (Int × Int))) (σ : Sl) => σ = [some ((eLs false (eT2 D.int D.int)) pairs), some (D.int how), some (D.int cell_here), some (D.int at_), some ((eLs true (eT2 D.int D.int)) made)])) (g_last (g_ifP (b := decide (how = 3)) (rf_eq_pp py_int py_int pq_int (by decide) (by decide) (rf_v (i := 1) (a := how) D.int rfl) (rf_k (a := 3) D.int rfl)) (g_putL (i := 4) (xs := made) (eT2 D.int D.int) (cl_t2 cl_int cl_int) rfl (rf_tup2_pm (rf_sub_pp (rf_neg_p (rf_k (a := 1) D.int rfl)) (rf_modK_p (j := 6) (by decide) (rf_fdivK_p (j := 8) (by decide) (rf_v (i := 2) (a := cell_here) D.int rfl)))) (rf_o cl_int (rf_ix2_1_m (rf_ixL_pp (rf_v (i := 4) (a := made) (eLs true (eT2 D.int D.int)) rfl) (rf_v (i := 3) (a := at_) D.int rfl))))) (rf_v (i := 3) (a := at_) D.int rfl) True.intro fun made => (g_nx rfl)) (g_skip (g_nx rfl)))) fun made σ_ h_ => by obtain rfl := h_; exact (g_seq (g_thn (I' := (fun (made : (List (Int × Int))) (σ : Sl) => σ = [some ((eLs false (eT2 D.int D.int)) pairs), some (D.int how), some (D.int cell_here), some (D.int at_), some ((eLs true (eT2 D.int D.int)) made)])) (g_last (g_ifP (b := decide (how = 4)) (rf_eq_pp py_int py_int pq_int (by decide) (by decide) (rf_v (i := 1) (a := how) D.int rfl) (rf_k (a := 4) D.int rfl)) (g_ins (i := 4) (xs := made) (eT2 D.int D.int) (cl_t2 cl_int cl_int) rfl (rf_v (i := 3) (a := at_) D.int rfl) (rf_tup2_mp (rf_o cl_int (rf_ix2_0_m (rf_ixL_pp (rf_v (i := 4) (a := made) (eLs true (eT2 D.int D.int)) rfl) (rf_v (i := 3) (a := at_) D.int rfl)))) (rf_sub_pp (rf_neg_p (rf_k (a := 1) D.int rfl)) (rf_modK_p (j := 6) (by decide) (rf_fdivK_p (j := 8) (by decide) (rf_v (i := 2) (a := cell_here) D.int rfl))))) True.intro fun made => (g_nx rfl)) (g_skip (g_nx rfl)))) fun made σ_ h_ => by obtain rfl := h_; exact (g_seq (g_thn (I' := (fun (made : (List (Int × Int))) (σ : Sl) => σ = [some ((eLs false (eT2 D.int D.int)) pairs), some (D.int how), some (D.int cell_here), some (D.int at_), some ((eLs true (eT2 D.int D.int)) made)])) (g_last (g_ifP (b := (decide (how = 5)) && (decide (((cell_here / 8) % 4) = 1))) (rf_andP_p (rf_eq_pp py_int py_int pq_int (by decide) (by decide) (rf_v (i := 1) (a := how) D.int rfl) (rf_k (a := 5) D.int rfl)) (rf_eq_pp py_int py_int pq_int (by decide) (by decide) (rf_modK_p (j := 4) (by decide) (rf_fdivK_p (j := 8) (by decide) (rf_v (i := 2) (a := cell_here) D.int rfl))) (rf_k (a := 1) D.int rfl))) (g_set (i := 4) (rf_lstP (e := (eT2 D.int D.int)) (as := []) rl_nil (by simp)) True.intro fun made => (g_nx rfl)) (g_skip (g_nx rfl)))) fun made σ_ h_ => by obtain rfl := h_; exact (g_retR (rf_v (i := 4) (a := made) (eLs true (eT2 D.int D.int)) rfl) True.intro))))))))))))))))))
noncomputable def f_l_told (one : ((List (List Int)) × (List St))) (two : ((List (List Int)) × (List St))) (pairs : (List (Int × Int))) : R Bool := runO (L := Unit) (S := Unit) <|
  bnd (R.ok (pairs) : R (List (Int × Int))) fun handed =>
  bnd (f_p_shows_alike one two handed : R Bool) fun found =>
  bnd (if true = true then ((f_l_due one two pairs).bind fun v => R.ok (decide (found = v))).bind fun u => R.ok (u && (decide (handed = pairs))) else R.ok false) .rt
theorem tf_l_told (one : ((List (List Int)) × (List St))) (two : ((List (List Int)) × (List St))) (pairs : (List (Int × Int))) : Rf (h_l_told [(eT2 (eSq (eSq D.int)) (eSq eSt)) one, (eT2 (eSq (eSq D.int)) (eSq eSt)) two, (eLs false (eT2 D.int D.int)) pairs]) (f_l_told one two pairs) D.bl := by
  unfold h_l_told runF b_l_told f_l_told
  exact g_fun (g_last (g_seq (g_set (i := 3) (rf_liL_p (cl_t2 cl_int cl_int) (rf_v (i := 2) (a := pairs) (eLs false (eT2 D.int D.int)) rfl)) True.intro fun handed => (g_seq (g_set (i := 4) (rf_call3_ppp (Φ := f_p_shows_alike) tf_p_shows_alike (cl_t2 (cl_sq (cl_sq cl_int)) (cl_sq cl_st)).fz (cl_t2 (cl_sq (cl_sq cl_int)) (cl_sq cl_st)).fz (fz_ls (cl_t2 cl_int cl_int).fz) (.inr nf_bl) (rf_v (i := 0) (a := one) (eT2 (eSq (eSq D.int)) (eSq eSt)) rfl) (rf_v (i := 1) (a := two) (eT2 (eSq (eSq D.int)) (eSq eSt)) rfl) (rf_v (i := 3) (a := handed) (eLs true (eT2 D.int D.int)) rfl)) True.intro fun found => (g_ret (rf_o cl_bl (rf_and_p (rf_isi_p (b := fun _ => true) (fun _ => rfl) (rf_v (i := 4) (a := found) D.bl rfl)) (rf_andP_m (rf_eq_pm py_bl py_bl pq_bl (by decide) (by decide) (rf_v (i := 4) (a := found) D.bl rfl) (rf_call3_ppp (Φ := f_l_due) tf_l_due (cl_t2 (cl_sq (cl_sq cl_int)) (cl_sq cl_st)).fz (cl_t2 (cl_sq (cl_sq cl_int)) (cl_sq cl_st)).fz (cl_ls (cl_t2 cl_int cl_int)).fz (.inl ⟨(cl_t2 (cl_sq (cl_sq cl_int)) (cl_sq cl_st)), (cl_t2 (cl_sq (cl_sq cl_int)) (cl_sq cl_st)), (cl_ls (cl_t2 cl_int cl_int)), True.intro⟩) (rf_v (i := 0) (a := one) (eT2 (eSq (eSq D.int)) (eSq eSt)) rfl) (rf_v (i := 1) (a := two) (eT2 (eSq (eSq D.int)) (eSq eSt)) rfl) (rf_v (i := 2) (a := pairs) (eLs false (eT2 D.int D.int)) rfl))) (rf_eq_pp (py_ls (py_t2 py_int py_int)) (py_ls (py_t2 py_int py_int)) (pq_ls (pq_t2 pq_int pq_int)) (by decide) (by decide) (rf_v (i := 3) (a := handed) (eLs true (eT2 D.int D.int)) rfl) (rf_v (i := 2) (a := pairs) (eLs false (eT2 D.int D.int)) rfl))))) True.intro))))))
noncomputable def f_p_law (script : (List Int)) : R Bool := runO (L := Unit) (S := Unit) <|
  bnd (f_l_cell script 0 : R Int) fun cell_here =>
  bnd (R.ok (1 + (cell_here % 3)) : R Int) fun signs =>
  bnd (R.ok (1 + ((cell_here / 3) % 6)) : R Int) fun rooms =>
  bnd (f_l_oneway script 4 rooms signs (1 + ((cell_here / 18) % 3)) : R ((List (List Int)) × (List St))) fun one =>
  bnd ((f_l_cell script 1).bind fun v => f_l_turned one v : R ((List (List Int)) × (List St))) fun two =>
  O.thn (if (decide (((cell_here / 54) % 4) = 1)) = true then
    bnd ((((f_l_cell script 1).bind fun u => R.ok (u % 6)).bind fun v => R.ok (1 + v)).bind fun w => f_l_oneway script (4 + rooms) w signs (1 + ((cell_here / 18) % 2)) : R ((List (List Int)) × (List St))) fun two =>
    O.nx two
  else
    O.nx two : O ((List (List Int)) × (List St)) _ _) fun two =>
  bnd ((f_l_firsts one two ((0, 0))).bind fun u => R.ok (u.map (·.1)) : R (List (Int × Int))) fun pairs =>
  bnd ((f_l_cell script 2).bind fun u => modT u ((pairs.length : Int)) : R Int) fun cut =>
  bnd ((szT ((cutL pairs (some cut) none).length + (cutL pairs none (some cut)).length) ((cutL pairs (some cut) none) ++ (cutL pairs none (some cut)))).bind fun u => ((R.ok (pairs)).bind fun xs => (R.ok none).bind fun i => (okN (((f_l_cell script 2).bind fun u => R.ok (u / 64)).bind fun u => modT u (((pairs.length : Int)) + 1))).bind fun j => R.ok (cutL xs i j)).bind fun v => szT (u.length + v.length) (u ++ v) : R (List (Int × Int))) fun pairs =>
  bnd ((f_l_told one two pairs).bind fun u => R.ok (!u)) fun b_ => if b_ = true then
    O.rt (false)
  else
    bnd ((f_l_cell script 3).bind fun u => R.ok (u % 2147483647) : R Int) fun more =>
  if (decide (((cell_here / 54) % 8) = 2)) = true then
    bnd ((f_l_oneway script 10 rooms (1 + (signs % 3)) 1).bind fun v => f_l_told one v pairs) .rt
  else
    O.thn (if (decide ((more % 8) = 6)) = true then
    bnd (R.ok (two.2) : R (List St)) fun words =>
    bnd (ofR (L2.atI (["by".toList, "out".toList, "ever".toList]) ((more / 64) % 3))) fun v => bnd (modT (more / 8) ((words.length : Int))) fun k => bnd (setT words k v) fun words =>
    bnd (R.ok ((two.1, words)) : R ((List (List Int)) × (List St))) fun two =>
    O.nx two
  else
    O.nx two : O ((List (List Int)) × (List St)) _ _) fun two =>
  bnd ((f_l_spoilt pairs (more % 8) (more / 8)).bind fun w => f_l_told one two w) .rt
theorem tf_p_law (script : (List Int)) : Rf (h_p_law [(eLs false D.int) script]) (f_p_law script) D.bl := by
  unfold h_p_law runF b_p_law f_p_law
  exact g_fun (g_last (g_seq (g_set (i := 1) (rf_call2_pp (Φ := f_l_cell) tf_l_cell (cl_ls cl_int).fz cl_int.fz (.inl ⟨(cl_ls cl_int), cl_int, True.intro⟩) (rf_v (i := 0) (a := script) (eLs false D.int) rfl) (rf_k (a := 0) D.int rfl)) True.intro fun cell_here => (g_seq (g_set (i := 2) (rf_add_pp (rf_k (a := 1) D.int rfl) (rf_modK_p (j := 3) (by decide) (rf_v (i := 1) (a := cell_here) D.int rfl))) True.intro fun signs => (g_seq (g_set (i := 3) (rf_add_pp (rf_k (a := 1) D.int rfl) (rf_modK_p (j := 6) (by decide) (rf_fdivK_p (j := 3) (by decide) (rf_v (i := 1) (a := cell_here) D.int rfl)))) True.intro fun rooms => (g_seq (g_set (i := 4) (rf_call5_ppppp (Φ := f_l_oneway) tf_l_oneway (cl_ls cl_int).fz cl_int.fz cl_int.fz cl_int.fz cl_int.fz (.inl ⟨(cl_ls cl_int), cl_int, cl_int, cl_int, cl_int, True.intro⟩) (rf_v (i := 0) (a := script) (eLs false D.int) rfl) (rf_k (a := 4) D.int rfl) (rf_v (i := 3) (a := rooms) D.int rfl) (rf_v (i := 2) (a := signs) D.int rfl) (rf_add_pp (rf_k (a := 1) D.int rfl) (rf_modK_p (j := 3) (by decide) (rf_fdivK_p (j := 18) (by decide) (rf_v (i := 1) (a := cell_here) D.int rfl))))) True.intro fun one => (g_seq (g_set (i := 5) (rf_call2_pm (Φ := f_l_turned) tf_l_turned (cl_t2 (cl_sq (cl_sq cl_int)) (cl_sq cl_st)).fz cl_int.fz (.inl ⟨(cl_t2 (cl_sq (cl_sq cl_int)) (cl_sq cl_st)), cl_int, True.intro⟩) (rf_v (i := 4) (a := one) (eT2 (eSq (eSq D.int)) (eSq eSt)) rfl) (rf_call2_pp (Φ := f_l_cell) tf_l_cell (cl_ls cl_int).fz cl_int.fz (.inl ⟨(cl_ls cl_int), cl_int, True.intro⟩) (rf_v (i := 0) (a := script) (eLs false D.int) rfl) (rf_k (a := 1) D.int rfl))) True.intro fun two => (g_seq (g_thn (I' := (fun (two : ((List (List Int)) × (List St))) (σ : Sl) => ∃ d6 d7 d8 d9 : Option D, σ = [some ((eLs false D.int) script), some (D.int cell_here), some (D.int signs), some (D.int rooms), some ((eT2 (eSq (eSq D.int)) (eSq eSt)) one), some ((eT2 (eSq (eSq D.int)) (eSq eSt)) two), d6, d7, d8, d9])) (g_last (g_ifP (b := decide (((cell_here / 54) % 4) = 1)) (rf_eq_pp py_int py_int pq_int (by decide) (by decide) (rf_modK_p (j := 4) (by decide) (rf_fdivK_p (j := 54) (by decide) (rf_v (i := 1) (a := cell_here) D.int rfl))) (rf_k (a := 1) D.int rfl)) (g_set (i := 5) (rf_call5_ppmpp (Φ := f_l_oneway) tf_l_oneway (cl_ls cl_int).fz cl_int.fz cl_int.fz cl_int.fz cl_int.fz (.inl ⟨(cl_ls cl_int), cl_int, cl_int, cl_int, cl_int, True.intro⟩) (rf_v (i := 0) (a := script) (eLs false D.int) rfl) (rf_add_pp (rf_k (a := 4) D.int rfl) (rf_v (i := 3) (a := rooms) D.int rfl)) (rf_add_pm (rf_k (a := 1) D.int rfl) (rf_modK_m (j := 6) (by decide) (rf_call2_pp (Φ := f_l_cell) tf_l_cell (cl_ls cl_int).fz cl_int.fz (.inl ⟨(cl_ls cl_int), cl_int, True.intro⟩) (rf_v (i := 0) (a := script) (eLs false D.int) rfl) (rf_k (a := 1) D.int rfl)))) (rf_v (i := 2) (a := signs) D.int rfl) (rf_add_pp (rf_k (a := 1) D.int rfl) (rf_modK_p (j := 2) (by decide) (rf_fdivK_p (j := 18) (by decide) (rf_v (i := 1) (a := cell_here) D.int rfl))))) True.intro fun two => (g_nx ⟨_, _, _, _, rfl⟩)) (g_skip (g_nx ⟨_, _, _, _, rfl⟩)))) fun two σ_ h_ => by obtain ⟨d6, d7, d8, d9, rfl⟩ := h_; exact (g_seq (g_set (i := 6) (rf_ld_m (uk_t2 uk_int uk_int) (rf_call3_ppp (Φ := f_l_firsts) tf_l_firsts (cl_t2 (cl_sq (cl_sq cl_int)) (cl_sq cl_st)).fz (cl_t2 (cl_sq (cl_sq cl_int)) (cl_sq cl_st)).fz (cl_t2 cl_int cl_int).fz (.inl ⟨(cl_t2 (cl_sq (cl_sq cl_int)) (cl_sq cl_st)), (cl_t2 (cl_sq (cl_sq cl_int)) (cl_sq cl_st)), (cl_t2 cl_int cl_int), True.intro⟩) (rf_v (i := 4) (a := one) (eT2 (eSq (eSq D.int)) (eSq eSt)) rfl) (rf_v (i := 5) (a := two) (eT2 (eSq (eSq D.int)) (eSq eSt)) rfl) (rf_tup2_pp (rf_k (a := 0) D.int rfl) (rf_k (a := 0) D.int rfl)))) True.intro fun pairs => (g_seq (g_set (i := 7) (rf_mod_mp (rf_call2_pp (Φ := f_l_cell) tf_l_cell (cl_ls cl_int).fz cl_int.fz (.inl ⟨(cl_ls cl_int), cl_int, True.intro⟩) (rf_v (i := 0) (a := script) (eLs false D.int) rfl) (rf_k (a := 2) D.int rfl)) (rf_bip1_p (g := fun u => (List.length u : Int)) bt_lenL (rf_v (i := 6) (a := pairs) (eLs true (eT2 D.int D.int)) rfl))) True.intro fun cut => (g_seq (g_set (i := 6) (rf_addL_mm (cl_t2 cl_int cl_int) (rf_addL_pp (cl_t2 cl_int cl_int) (rf_slL_p (cl_t2 cl_int cl_int) (rf_v (i := 6) (a := pairs) (eLs true (eT2 D.int D.int)) rfl) (sl_yesP (rf_v (i := 7) (a := cut) D.int rfl)) (sl_noP rfl)) (rf_slL_p (cl_t2 cl_int cl_int) (rf_v (i := 6) (a := pairs) (eLs true (eT2 D.int D.int)) rfl) (sl_noP rfl) (sl_yesP (rf_v (i := 7) (a := cut) D.int rfl)))) (rf_slL (lo := R.ok none) (hi := okN (((f_l_cell script 2).bind fun u => R.ok (u / 64)).bind fun u => modT u (((pairs.length : Int)) + 1))) (cl_t2 cl_int cl_int) (rf_v (i := 6) (a := pairs) (eLs true (eT2 D.int D.int)) rfl) (fun _ => sl_no rfl) (fun _ => sl_yes (rf_mod_mp (rf_fdivK_m (j := 64) (by decide) (rf_call2_pp (Φ := f_l_cell) tf_l_cell (cl_ls cl_int).fz cl_int.fz (.inl ⟨(cl_ls cl_int), cl_int, True.intro⟩) (rf_v (i := 0) (a := script) (eLs false D.int) rfl) (rf_k (a := 2) D.int rfl))) (rf_add_pp (rf_bip1_p (g := fun u => (List.length u : Int)) bt_lenL (rf_v (i := 6) (a := pairs) (eLs true (eT2 D.int D.int)) rfl)) (rf_k (a := 1) D.int rfl)))) ne_no ne_okN)) True.intro fun pairs => (g_seq (g_if (rf_not_m (rf_call3_ppp (Φ := f_l_told) tf_l_told (cl_t2 (cl_sq (cl_sq cl_int)) (cl_sq cl_st)).fz (cl_t2 (cl_sq (cl_sq cl_int)) (cl_sq cl_st)).fz (fz_ls (cl_t2 cl_int cl_int).fz) (.inr nf_bl) (rf_v (i := 4) (a := one) (eT2 (eSq (eSq D.int)) (eSq eSt)) rfl) (rf_v (i := 5) (a := two) (eT2 (eSq (eSq D.int)) (eSq eSt)) rfl) (rf_v (i := 6) (a := pairs) (eLs true (eT2 D.int D.int)) rfl))) True.intro (g_retP (a := false) (rf_k (a := false) D.bl rfl)) (g_skip (g_seq (g_set (i := 8) (rf_modK_m (j := 2147483647) (by decide) (rf_call2_pp (Φ := f_l_cell) tf_l_cell (cl_ls cl_int).fz cl_int.fz (.inl ⟨(cl_ls cl_int), cl_int, True.intro⟩) (rf_v (i := 0) (a := script) (eLs false D.int) rfl) (rf_k (a := 3) D.int rfl))) True.intro fun more => (g_seq (g_ifP (b := decide (((cell_here / 54) % 8) = 2)) (rf_eq_pp py_int py_int pq_int (by decide) (by decide) (rf_modK_p (j := 8) (by decide) (rf_fdivK_p (j := 54) (by decide) (rf_v (i := 1) (a := cell_here) D.int rfl))) (rf_k (a := 2) D.int rfl)) (g_ret (rf_call3_pmp (Φ := f_l_told) tf_l_told (cl_t2 (cl_sq (cl_sq cl_int)) (cl_sq cl_st)).fz (cl_t2 (cl_sq (cl_sq cl_int)) (cl_sq cl_st)).fz (fz_ls (cl_t2 cl_int cl_int).fz) (.inr nf_bl) (rf_v (i := 4) (a := one) (eT2 (eSq (eSq D.int)) (eSq eSt)) rfl) (rf_call5_ppppp (Φ := f_l_oneway) tf_l_oneway (cl_ls cl_int).fz cl_int.fz cl_int.fz cl_int.fz cl_int.fz (.inl ⟨(cl_ls cl_int), cl_int, cl_int, cl_int, cl_int, True.intro⟩) (rf_v (i := 0) (a := script) (eLs false D.int) rfl) (rf_k (a := 10) D.int rfl) (rf_v (i := 3) (a := rooms) D.int rfl) (rf_add_pp (rf_k (a := 1) D.int rfl) (rf_modK_p (j := 3) (by decide) (rf_v (i := 2) (a := signs) D.int rfl))) (rf_k (a := 1) D.int rfl)) (rf_v (i := 6) (a := pairs) (eLs true (eT2 D.int D.int)) rfl)) True.intro) (g_skip (g_seq (g_thn (I' := (fun (two : ((List (List Int)) × (List St))) (σ : Sl) => ∃ d9 : Option D, σ = [some ((eLs false D.int) script), some (D.int cell_here), some (D.int signs), some (D.int rooms), some ((eT2 (eSq (eSq D.int)) (eSq eSt)) one), some ((eT2 (eSq (eSq D.int)) (eSq eSt)) two), some ((eLs true (eT2 D.int D.int)) pairs), some (D.int cut), some (D.int more), d9])) (g_last (g_ifP (b := decide ((more % 8) = 6)) (rf_eq_pp py_int py_int pq_int (by decide) (by decide) (rf_modK_p (j := 8) (by decide) (rf_v (i := 8) (a := more) D.int rfl)) (rf_k (a := 6) D.int rfl)) (g_seq (g_set (i := 9) (rf_liQ_p cl_st (rf_ix2_1_p (rf_v (i := 5) (a := two) (eT2 (eSq (eSq D.int)) (eSq eSt)) rfl))) True.intro fun words => (g_seq (g_putL (i := 9) (xs := words) eSt cl_st rfl (rf_o cl_st (rf_ixL_pp (rf_lstP (as := ["by".toList, "out".toList, "ever".toList]) (rl_consP (rf_k (a := "by".toList) eSt (k_str _)) (rl_consP (rf_k (a := "out".toList) eSt (k_str _)) (rl_consP (rf_k (a := "ever".toList) eSt (k_str _)) rl_nil))) (by simp)) (rf_modK_p (j := 3) (by decide) (rf_fdivK_p (j := 64) (by decide) (rf_v (i := 8) (a := more) D.int rfl))))) (rf_mod_pp (rf_fdivK_p (j := 8) (by decide) (rf_v (i := 8) (a := more) D.int rfl)) (rf_bip1_p (g := fun u => (List.length u : Int)) bt_lenL (rf_v (i := 9) (a := words) (eLs true eSt) rfl))) True.intro fun words => (g_set (i := 5) (rf_tup2_pp (rf_o (cl_sq (cl_sq cl_int)) (rf_ix2_0_p (rf_v (i := 5) (a := two) (eT2 (eSq (eSq D.int)) (eSq eSt)) rfl))) (rf_bip1_p (g := fun u => u) (bt_tupL cl_st) (rf_v (i := 9) (a := words) (eLs true eSt) rfl))) True.intro fun two => (g_nx ⟨_, rfl⟩)))))) (g_skip (g_nx ⟨_, rfl⟩)))) fun two σ_ h_ => by obtain ⟨d9, rfl⟩ := h_; exact (g_ret (rf_call3_ppm (Φ := f_l_told) tf_l_told (cl_t2 (cl_sq (cl_sq cl_int)) (cl_sq cl_st)).fz (cl_t2 (cl_sq (cl_sq cl_int)) (cl_sq cl_st)).fz (fz_ls (cl_t2 cl_int cl_int).fz) (.inr nf_bl) (rf_v (i := 4) (a := one) (eT2 (eSq (eSq D.int)) (eSq eSt)) rfl) (rf_v (i := 5) (a := two) (eT2 (eSq (eSq D.int)) (eSq eSt)) rfl) (rf_call3_ppp (Φ := f_l_spoilt) tf_l_spoilt (fz_ls (cl_t2 cl_int cl_int).fz) cl_int.fz cl_int.fz (.inr (nf_ls (nf_t2 nf_int nf_int))) (rf_v (i := 6) (a := pairs) (eLs true (eT2 D.int D.int)) rfl) (rf_modK_p (j := 8) (by decide) (rf_v (i := 8) (a := more) D.int rfl)) (rf_fdivK_p (j := 8) (by decide) (rf_v (i := 8) (a := more) D.int rfl)))) True.intro))))))))))))))))))))))))))))))
end DI
/-! strips in their order -/
namespace DI
open PySem
def lexB : St → St → Bool
  | [], [] => false
  | [], _ :: _ => true
  | _ :: _, [] => false
  | a :: as, b :: bs => if a.toNat < b.toNat then true else if a.toNat = b.toNat then lexB as bs else false
theorem lexB_irr : ∀ a : St, lexB a a = false
  | [] => rfl
  | a :: as => by rw [lexB, if_neg (by omega), if_pos rfl, lexB_irr as]
theorem lexB_tr : ∀ {a b c : St}, lexB a b = true → lexB b c = true → lexB a c = true
  | [], [], _, h, _ => by cases h
  | [], _ :: _, [], _, h => by cases h
  | [], _ :: _, _ :: _, _, _ => rfl
  | _ :: _, [], _, h, _ => by cases h
  | _ :: _, _ :: _, [], _, h => by cases h
  | a :: as, b :: bs, c :: cs, h, h2 => by
    rw [lexB] at h h2 ⊢
    by_cases q : a.toNat < b.toNat
    · by_cases q2 : b.toNat < c.toNat
      · rw [if_pos (by omega)]
      · rw [if_neg q2] at h2
        by_cases q3 : b.toNat = c.toNat
        · rw [if_pos (by omega)]
        · rw [if_neg q3] at h2; cases h2
    · rw [if_neg q] at h
      by_cases q1 : a.toNat = b.toNat
      · rw [if_pos q1] at h
        by_cases q2 : b.toNat < c.toNat
        · rw [if_pos (by omega)]
        · rw [if_neg q2] at h2
          by_cases q3 : b.toNat = c.toNat
          · rw [if_pos q3] at h2
            rw [if_neg (by omega), if_pos (by omega)]
            exact lexB_tr h h2
          · rw [if_neg q3] at h2; cases h2
      · rw [if_neg q1] at h; cases h
theorem lexB_tot : ∀ {a b : St}, lexB a b = false → lexB b a = false → a = b
  | [], [], _, _ => rfl
  | [], _ :: _, h, _ => by cases h
  | _ :: _, [], _, h => by cases h
  | a :: as, b :: bs, h, h2 => by
    rw [lexB] at h h2
    by_cases q : a.toNat < b.toNat
    · rw [if_pos q] at h; cases h
    · by_cases q1 : b.toNat < a.toNat
      · rw [if_pos q1] at h2; cases h2
      · have e : a.toNat = b.toNat := by omega
        rw [if_neg q, if_pos e] at h
        rw [if_neg q1, if_pos e.symm] at h2
        rw [toNat_inj e, lexB_tot h h2]
theorem lexB_app : ∀ {a b : St} {c d : Char}, a.length = b.length → lexB a b = true → lexB (a ++ [c]) (b ++ [d]) = true
  | [], [], _, _, _, h => by cases h
  | [], _ :: _, _, _, h, _ => by cases h
  | _ :: _, [], _, _, h, _ => by cases h
  | a :: as, b :: bs, c, d, hl, h => by
    rw [List.cons_append, List.cons_append]
    rw [lexB] at h ⊢
    by_cases q : a.toNat < b.toNat
    · rw [if_pos q]
    · rw [if_neg q] at h ⊢
      by_cases q1 : a.toNat = b.toNat
      · rw [if_pos q1] at h ⊢
        exact lexB_app (by simpa using hl) h
      · rw [if_neg q1] at h; cases h
theorem lexB_end : ∀ (a : St) {c d : Char}, c.toNat < d.toNat → lexB (a ++ [c]) (a ++ [d]) = true
  | [], c, d, h => by
    show (if c.toNat < d.toNat then true else _) = true
    rw [if_pos h]
  | a :: as, c, d, h => by
    rw [List.cons_append, List.cons_append, lexB, if_neg (by omega), if_pos rfl]
    exact lexB_end as h
/-- shorter ones first, then by the alphabet -/
def slt (a b : St) : Prop := a.length < b.length ∨ a.length = b.length ∧ lexB a b = true
instance (a b : St) : Decidable (slt a b) := inferInstanceAs (Decidable (_ ∨ _))
theorem slt_irr {a : St} (h : slt a a) : False := by
  rcases h with h | ⟨_, h⟩
  · omega
  · rw [lexB_irr] at h; cases h
theorem slt_tr {a b c : St} (h : slt a b) (h2 : slt b c) : slt a c := by
  rcases h with h | ⟨e, h⟩
  · rcases h2 with h2 | ⟨e2, h2⟩
    · exact .inl (by omega)
    · exact .inl (by omega)
  · rcases h2 with h2 | ⟨e2, h2⟩
    · exact .inl (by omega)
    · exact .inr ⟨by omega, lexB_tr h h2⟩
theorem slt_tot {a b : St} (h : ¬ slt a b) (h2 : ¬ slt b a) : a = b := by
  have e : a.length = b.length := by
    by_cases q : a.length < b.length
    · exact absurd (.inl q) h
    · by_cases q2 : b.length < a.length
      · exact absurd (.inl q2) h2
      · omega
  refine lexB_tot ?_ ?_
  · cases q : lexB a b with
    | false => rfl
    | true => exact absurd (.inr ⟨e, q⟩) h
  · cases q : lexB b a with
    | false => rfl
    | true => exact absurd (.inr ⟨e.symm, q⟩) h2
def sle (a b : St) : Prop := a = b ∨ slt a b
theorem sle_lt {a b c : St} (h : sle a b) (h2 : slt b c) : slt a c := by
  rcases h with rfl | h
  · exact h2
  · exact slt_tr h h2
theorem slt_le {a b c : St} (h : slt a b) (h2 : sle b c) : slt a c := by
  rcases h2 with rfl | h2
  · exact h
  · exact slt_tr h h2
theorem sle_tr {a b c : St} (h : sle a b) (h2 : sle b c) : sle a c := by
  rcases h with rfl | h
  · exact h2
  · exact .inr (slt_le h h2)
theorem slt_app {a b : St} (c d : Char) (h : slt a b) : slt (a ++ [c]) (b ++ [d]) := by
  rcases h with h | ⟨e, h⟩
  · exact .inl (by simp; exact h)
  · exact .inr ⟨by simp; exact e, lexB_app e h⟩
theorem slt_end (a : St) {c d : Char} (h : c.toNat < d.toNat) : slt (a ++ [c]) (a ++ [d]) := .inr ⟨by simp, lexB_end a h⟩
theorem slt_more (a : St) (c : Char) : slt a (a ++ [c]) := .inl (by simp)
theorem sle_app {a b : St} (c : Char) (h : sle a b) : sle (a ++ [c]) (b ++ [c]) := by
  rcases h with rfl | h
  · exact .inl rfl
  · exact .inr (slt_app c c h)
theorem slt_nil {a : St} (h : a ≠ []) : slt [] a := .inl (by cases a with
  | nil => exact absurd rfl h
  | cons x a => simp)
theorem nslt_nil {a : St} (h : slt a []) : False := by
  rcases h with h | ⟨e, h⟩
  · simp at h
  · have : a = [] := List.length_eq_zero_iff.mp e
    subst this; cases h
end DI
/-! going from room to room, first strips -/
namespace DI
open PySem
section
variable {α : Type} [DecidableEq α]
abbrev Suc (α : Type) := α → List (α × Char)
def bfI (s : St) (W : List (α × St)) (p : α × Char) : List (α × St) := if p.1 ∈ W.map (·.1) then W else W ++ [(p.1, s ++ [p.2])]
def bfA (s : St) (ys : List (α × Char)) (W : List (α × St)) : List (α × St) := ys.foldl (bfI s) W
def bfs (suc : Suc α) : Nat → List (α × St) → Nat → List (α × St)
  | 0, W, _ => W
  | f + 1, W, i => match W[i]? with
    | none => W
    | some e => bfs suc f (bfA e.2 (suc e.1) W) (i + 1)
structure SucOk (suc : Suc α) (U : List α) : Prop where
  inU : ∀ x ∈ U, ∀ p ∈ suc x, p.1 ∈ U
  asc : ∀ x, (suc x).Pairwise fun p q => p.2.toNat < q.2.toNat
/-- reached from p0 by a strip -/
inductive Leads (suc : Suc α) (p0 : α) : St → α → Prop where
  | nil : Leads suc p0 [] p0
  | snoc {s : St} {x y : α} {c : Char} : Leads suc p0 s x → (y, c) ∈ suc x → Leads suc p0 (s ++ [c]) y
structure BI (suc : Suc α) (U : List α) (p0 : α) (W : List (α × St)) (i : Nat) : Prop where
  nd : (W.map (·.1)).Nodup
  sub : ∀ e ∈ W, e.1 ∈ U
  hd : W[0]? = some (p0, [])
  le : i ≤ W.length
  src : ∀ e ∈ W, e = (p0, []) ∨ ∃ i' < i, ∃ e', W[i']? = some e' ∧ ∃ p ∈ suc e'.1, e = (p.1, e'.2 ++ [p.2])
  dn : ∀ i' < i, ∀ e', W[i']? = some e' → ∀ p ∈ suc e'.1, ∃ s, (p.1, s) ∈ W ∧ sle s (e'.2 ++ [p.2])
  srt : W.Pairwise fun e e' => slt e.2 e'.2
  lds : ∀ e ∈ W, Leads suc p0 e.2 e.1
theorem nodup_le {U : List α} : ∀ {L : List α}, L.Nodup → (∀ x ∈ L, x ∈ U) → L.length ≤ U.length := by
  intro L
  induction L generalizing U with
  | nil => intro _ _; simp
  | cons x L ih =>
    intro nd h
    rw [List.nodup_cons] at nd
    have hx := h x List.mem_cons_self
    have := ih (U := U.erase x) nd.2 fun y hy => by
      have hy' := h y (List.mem_cons_of_mem _ hy)
      have : y ≠ x := fun q => nd.1 (q ▸ hy)
      exact (List.mem_erase_of_ne this).mpr hy'
    rw [List.length_erase_of_mem hx] at this
    have := List.length_pos_of_mem hx
    rw [List.length_cons]; omega
variable {suc : Suc α} {U : List α} {p0 : α}
theorem BI.len {W : List (α × St)} {i : Nat} (h : BI suc U p0 W i) : W.length ≤ U.length := by
  have := nodup_le h.nd (U := U) fun x hx => by
    obtain ⟨e, he, rfl⟩ := List.mem_map.mp hx
    exact h.sub e he
  simpa using this
theorem bi_init (h0 : p0 ∈ U) : BI suc U p0 [(p0, [])] 0 where
  nd := by simp
  sub := fun e he => by simp at he; subst he; exact h0
  hd := rfl
  le := by simp
  src := fun e he => by simp at he; exact .inl he
  dn := fun i' h => by omega
  srt := by simp
  lds := fun e he => by simp at he; subst he; exact .nil
/-- within one room: some of its signs looked at -/
structure BJ (suc : Suc α) (U : List α) (p0 : α) (i : Nat) (e0 : α × St) (ys : List (α × Char)) (W : List (α × St)) : Prop where
  nd : (W.map (·.1)).Nodup
  sub : ∀ e ∈ W, e.1 ∈ U
  hd : W[0]? = some (p0, [])
  lt : i < W.length
  at0 : W[i]? = some e0
  src : ∀ e ∈ W, e = (p0, []) ∨ (∃ i' < i, ∃ e', W[i']? = some e' ∧ ∃ p ∈ suc e'.1, e = (p.1, e'.2 ++ [p.2])) ∨ ∃ p ∈ ys, e = (p.1, e0.2 ++ [p.2])
  dn : ∀ i' < i, ∀ e', W[i']? = some e' → ∀ p ∈ suc e'.1, ∃ s, (p.1, s) ∈ W ∧ sle s (e'.2 ++ [p.2])
  dn2 : ∀ p ∈ ys, ∃ s, (p.1, s) ∈ W ∧ sle s (e0.2 ++ [p.2])
  srt : W.Pairwise fun e e' => slt e.2 e'.2
  lds : ∀ e ∈ W, Leads suc p0 e.2 e.1
theorem pw_get {β : Type} {R : β → β → Prop} {xs : List β} (h : xs.Pairwise R) {i j : Nat} {x y : β} (hi : xs[i]? = some x) (hj : xs[j]? = some y) (hl : i < j) : R x y := by
  obtain ⟨a, rfl⟩ := List.getElem?_eq_some_iff.mp hi
  obtain ⟨b, rfl⟩ := List.getElem?_eq_some_iff.mp hj
  exact List.pairwise_iff_getElem.mp h i j a b hl
theorem bj_step (K : SucOk suc U) {i : Nat} {e0 : α × St} {ys : List (α × Char)} {p : α × Char} {W : List (α × St)} (h : BJ suc U p0 i e0 ys W) (hp : p ∈ suc e0.1) (hys : ∀ q ∈ ys, q ∈ suc e0.1 ∧ q.2.toNat < p.2.toNat) : BJ suc U p0 i e0 (ys ++ [p]) (bfI e0.2 W p) := by
  have old : ∀ e ∈ W, e.1 = p.1 → ∃ s, (p.1, s) ∈ W ∧ sle s (e0.2 ++ [p.2]) := fun e he q => by
    refine ⟨e.2, by rw [← q]; exact he, .inr ?_⟩
    rcases h.src e he with rfl | ⟨i', hi', e', he', p', hp', rfl⟩ | ⟨p', hp', rfl⟩
    · exact slt_nil (by simp)
    · exact slt_app _ _ (pw_get h.srt he' h.at0 hi')
    · exact slt_end _ (hys p' hp').2
  unfold bfI
  by_cases hin : p.1 ∈ W.map (·.1)
  · rw [if_pos hin]
    obtain ⟨e, he, q⟩ := List.mem_map.mp hin
    exact { h with
      src := fun e he => by
        rcases h.src e he with q | q | ⟨p', hp', q⟩
        · exact .inl q
        · exact .inr (.inl q)
        · exact .inr (.inr ⟨p', List.mem_append_left _ hp', q⟩)
      dn2 := fun p' hp' => by
        rcases List.mem_append.mp hp' with hp' | hp'
        · exact h.dn2 p' hp'
        · rw [List.mem_singleton.mp hp']; exact old e he q }
  · rw [if_neg hin]
    have keep : ∀ j e, W[j]? = some e → (W ++ [(p.1, e0.2 ++ [p.2])])[j]? = some e := fun j e q => by
      rw [List.getElem?_append_left (List.getElem?_eq_some_iff.mp q).1]; exact q
    have back : ∀ j e, j < W.length → (W ++ [(p.1, e0.2 ++ [p.2])])[j]? = some e → W[j]? = some e := fun j e hj q => by
      rw [List.getElem?_append_left hj] at q; exact q
    exact {
      nd := by
        rw [List.map_append, List.nodup_append]
        refine ⟨h.nd, by simp, fun x hx y hy q => ?_⟩
        simp at hy
        subst hy; subst q
        exact hin hx
      sub := fun e he => by
        rcases List.mem_append.mp he with he | he
        · exact h.sub e he
        · rw [List.mem_singleton.mp he]; exact K.inU e0.1 (h.sub e0 (List.mem_of_getElem? h.at0)) p hp
      hd := keep _ _ h.hd
      lt := by rw [List.length_append]; have := h.lt; omega
      at0 := keep _ _ h.at0
      src := fun e he => by
        rcases List.mem_append.mp he with he | he
        · rcases h.src e he with q | ⟨i', hi', e', he', q⟩ | ⟨p', hp', q⟩
          · exact .inl q
          · exact .inr (.inl ⟨i', hi', e', keep _ _ he', q⟩)
          · exact .inr (.inr ⟨p', List.mem_append_left _ hp', q⟩)
        · exact .inr (.inr ⟨p, by simp, List.mem_singleton.mp he⟩)
      dn := fun i' hi' e' he' q hq => by
        obtain ⟨s, hs, l⟩ := h.dn i' hi' e' (back _ _ (by have := h.lt; omega) he') q hq
        exact ⟨s, List.mem_append_left _ hs, l⟩
      dn2 := fun p' hp' => by
        rcases List.mem_append.mp hp' with hp' | hp'
        · obtain ⟨s, hs, l⟩ := h.dn2 p' hp'
          exact ⟨s, List.mem_append_left _ hs, l⟩
        · rw [List.mem_singleton.mp hp']
          exact ⟨_, by simp, .inl rfl⟩
      srt := by
        rw [List.pairwise_append]
        refine ⟨h.srt, by simp, fun e he y hy => ?_⟩
        rw [List.mem_singleton.mp hy]
        show slt e.2 (e0.2 ++ [p.2])
        rcases h.src e he with rfl | ⟨i', hi', e', he', p', hp', rfl⟩ | ⟨p', hp', rfl⟩
        · exact slt_nil (by simp)
        · exact slt_app _ _ (pw_get h.srt he' h.at0 hi')
        · exact slt_end _ (hys p' hp').2
      lds := fun e he => by
        rcases List.mem_append.mp he with he | he
        · exact h.lds e he
        · rw [List.mem_singleton.mp he]
          exact .snoc (h.lds e0 (List.mem_of_getElem? h.at0)) hp }
theorem bj_all (K : SucOk suc U) {i : Nat} {e0 : α × St} : ∀ (zs ys : List (α × Char)) (W : List (α × St)), BJ suc U p0 i e0 ys W → ys ++ zs = suc e0.1 → BJ suc U p0 i e0 (suc e0.1) (bfA e0.2 zs W)
  | [], ys, W, h, e => by rw [List.append_nil] at e; rw [← e]; exact h
  | p :: zs, ys, W, h, e => by
    have a := K.asc e0.1
    rw [← e, List.pairwise_append] at a
    refine bj_all K zs (ys ++ [p]) (bfI e0.2 W p) (bj_step K h (by rw [← e]; simp) fun q hq => ⟨by rw [← e]; exact List.mem_append_left _ hq, a.2.2 q hq p List.mem_cons_self⟩) (by rw [← e]; simp)
theorem bj_of {W : List (α × St)} {i : Nat} {e0 : α × St} (h : BI suc U p0 W i) (he : W[i]? = some e0) : BJ suc U p0 i e0 [] W where
  nd := h.nd
  sub := h.sub
  hd := h.hd
  lt := (List.getElem?_eq_some_iff.mp he).1
  at0 := he
  src := fun e q => by
    rcases h.src e q with q | q
    · exact .inl q
    · exact .inr (.inl q)
  dn := h.dn
  dn2 := fun p hp => nomatch hp
  srt := h.srt
  lds := h.lds
theorem bi_of {W : List (α × St)} {i : Nat} {e0 : α × St} (h : BJ suc U p0 i e0 (suc e0.1) W) : BI suc U p0 W (i + 1) where
  nd := h.nd
  sub := h.sub
  hd := h.hd
  le := h.lt
  src := fun e q => by
    rcases h.src e q with q | ⟨i', hi', q⟩ | q
    · exact .inl q
    · exact .inr ⟨i', by omega, q⟩
    · exact .inr ⟨i, by omega, e0, h.at0, q⟩
  dn := fun i' hi' e' he' p hp => by
    by_cases q : i' = i
    · subst q
      rw [h.at0] at he'
      cases he'
      exact h.dn2 p hp
    · exact h.dn i' (by omega) e' he' p hp
  srt := h.srt
  lds := h.lds
theorem bi_step (K : SucOk suc U) {W : List (α × St)} {i : Nat} {e0 : α × St} (h : BI suc U p0 W i) (he : W[i]? = some e0) : BI suc U p0 (bfA e0.2 (suc e0.1) W) (i + 1) :=
  bi_of (bj_all K (suc e0.1) [] W (bj_of h he) rfl)
theorem bfs_bi (K : SucOk suc U) : ∀ (f : Nat) (W : List (α × St)) (i : Nat), BI suc U p0 W i → U.length < f + i → BI suc U p0 (bfs suc f W i) (bfs suc f W i).length
  | 0, W, i, h, hf => absurd h.len (by have := h.le; omega)
  | f + 1, W, i, h, hf => by
    rw [bfs]
    cases e : W[i]? with
    | none =>
      have : i = W.length := by have := h.le; have := List.getElem?_eq_none_iff.mp e; omega
      subst this
      exact h
    | some e0 => exact bfs_bi K f _ (i + 1) (bi_step K h e) (by omega)
/-- all that are reached, with their first strips -/
def allF (suc : Suc α) (U : List α) (p0 : α) : List (α × St) := bfs suc (U.length + 1) [(p0, [])] 0
theorem allF_bi (K : SucOk suc U) (h0 : p0 ∈ U) : BI suc U p0 (allF suc U p0) (allF suc U p0).length := bfs_bi K _ _ _ (bi_init h0) (by omega)
/-- the first strip is the least one -/
theorem allF_least (K : SucOk suc U) (h0 : p0 ∈ U) {t : St} {x : α} (h : Leads suc p0 t x) : ∃ s, (x, s) ∈ allF suc U p0 ∧ sle s t := by
  have B := allF_bi K h0
  induction h with
  | nil => exact ⟨[], List.mem_of_getElem? B.hd, .inl rfl⟩
  | @snoc s x y c hs hy ih =>
    obtain ⟨s', m, l⟩ := ih
    obtain ⟨i, hi⟩ := List.getElem?_of_mem m
    obtain ⟨s2, m2, l2⟩ := B.dn i (List.getElem?_eq_some_iff.mp hi).1 _ hi (y, c) hy
    exact ⟨s2, m2, sle_tr l2 (sle_app c l)⟩
theorem leads_det {s : St} (hf : ∀ x, ∀ p ∈ suc x, ∀ q ∈ suc x, p.2 = q.2 → p.1 = q.1) {x : α} (h : Leads suc p0 s x) : ∀ {y : α}, Leads suc p0 s y → x = y := by
  induction h with
  | nil =>
    intro y h2
    generalize e : ([] : St) = t at h2
    cases h2 with
    | nil => rfl
    | snoc a b => simp at e
  | @snoc s x z c hs hz ih =>
    intro y h2
    generalize e : s ++ [c] = t at h2
    cases h2 with
    | nil => simp at e
    | @snoc s' x' y' c' a b =>
      obtain ⟨e1, e2⟩ := List.append_inj' e rfl
      simp at e2
      subst e1; subst e2
      have := ih a
      subst this
      exact hf _ _ hz _ b rfl
/-- one turn of the loop -/
theorem bfs_go {W : List (α × St)} {i f : Nat} {e : α × St} (h : W[i]? = some e) : bfs suc (f + 1) W i = bfs suc f (bfA e.2 (suc e.1) W) (i + 1) := by
  rw [bfs, h]
theorem bfs_end {W : List (α × St)} {f : Nat} : bfs suc f W W.length = W := by
  cases f with
  | zero => rfl
  | succ f => rw [bfs, List.getElem?_eq_none (by omega)]
end
end DI
/-! one-way machines drawn -/
namespace DI
open PySem
abbrev Ow := List (List Int) × List St
structure OwOk (n k : Nat) (m : Ow) : Prop where
  len : m.1.length = n
  wl : m.2.length = n
  row : ∀ r ∈ m.1, r.length = k ∧ ∀ x ∈ r, 0 ≤ x ∧ x < (n : Int)
def Wd3 (w : St) : Prop := w = "by".toList ∨ w = "out".toList ∨ w = "ever".toList
theorem cell_ok (ns : List Int) (k : Int) (hk : 0 ≤ k) : ∃ z : Int, f_l_cell ns k = .ok z := by
  unfold f_l_cell
  by_cases h : 0 < ns.length
  · obtain ⟨c, e, _⟩ := at_ex (xs := ns) (i := k % (ns.length : Int)) (Int.emod_nonneg _ (by omega)) (Int.emod_lt_of_pos _ (by omega))
    simp [h, modT_ok _ (show (0 : Int) < ns.length by omega), e]
  · simp [h]
theorem pick3w {i : Int} (h0 : 0 ≤ i) (h1 : i < 3) : ∃ w, ofR (L2.atI ["by".toList, "out".toList, "ever".toList] i) = .ok w ∧ Wd3 w := by
  rcases (show i = 0 ∨ i = 1 ∨ i = 2 by omega) with rfl | rfl | rfl
  · exact ⟨_, rfl, .inl rfl⟩
  · exact ⟨_, rfl, .inr (.inl rfl)⟩
  · exact ⟨_, rfl, .inr (.inr rfl)⟩
theorem oneway_ok (ns : List Int) {a : Int} (ha : 0 ≤ a) {n k w : Nat} (hn : 0 < n) (hn2 : n ≤ 1000) (hk : k ≤ 1000) (hw : 0 < w) (hw2 : w ≤ 3) : ∃ m, f_l_oneway ns a n k w = .ok m ∧ OwOk n k m ∧ ∀ x ∈ m.2, Wd3 x := by
  unfold f_l_oneway
  refine wp_run ?_
  rw [bnd_ok, bnd_ok, rngT_nat (by omega), bnd_ok]
  refine wp_for (fun i (s : List (List Int) × List St) => s.1.length = i ∧ s.2.length = i ∧ (∀ r ∈ s.1, r.length = k ∧ ∀ x ∈ r, 0 ≤ x ∧ x < (n : Int)) ∧ ∀ x ∈ s.2, Wd3 x) ⟨rfl, rfl, by simp, by simp⟩ ?_ ?_
  · rintro i x ⟨rows, told⟩ hx ⟨h1, h2, h3, h4⟩
    simp only at h1 h2 h3 h4
    have hi : i < n := by rw [← rg_len 0 n]; exact (List.getElem?_eq_some_iff.mp hx).1
    rw [rg_get, if_pos hi] at hx
    cases hx
    have dg : ∃ b : Bool, (if decide (a + (0 + (i : Int)) < (ns.length : Int)) = true then ((ofR (L2.atI ns 0)).bind fun u => R.ok (u % 2)).bind fun u => R.ok (decide (u = 1)) else R.ok false) = R.ok b ∧ (b = true → a + (0 + (i : Int)) < (ns.length : Int)) := by
      by_cases h : a + (0 + (i : Int)) < (ns.length : Int)
      · rw [if_pos (decide_eq_true h)]
        obtain ⟨y, e, _⟩ := at_ex (xs := ns) (i := 0) (by omega) (by omega)
        rw [e]
        exact ⟨_, rfl, fun _ => h⟩
      · rw [if_neg (by rw [decide_eq_false h]; decide)]
        exact ⟨false, rfl, fun q => by cases q⟩
    obtain ⟨b, eb, hb⟩ := dg
    obtain ⟨z, ez⟩ := cell_ok ns (a + (0 + (i : Int))) (by omega)
    show Wp (bnd _ _) _ _ _ _
    rw [eb, bnd_ok, ez, R.bind_ok, bnd_ok]
    refine wp_thn (fun _ => True) ?_ ?_
    · cases b with
      | true =>
        obtain ⟨y, e, _⟩ := at_ex (xs := ns) (i := a + (0 + (i : Int))) (by omega) (hb rfl)
        rw [if_pos rfl, e, bnd_ok]
        exact True.intro
      | false => exact True.intro
    · rintro num _
      rw [bnd_ok, rngT_nat (by omega), bnd_ok]
      refine wp_for (fun j (s : Int × List Int) => s.2.length = j ∧ ∀ x ∈ s.2, 0 ≤ x ∧ x < (n : Int)) ⟨rfl, by simp⟩ ?_ ?_
      · rintro j x ⟨num, row⟩ hx ⟨g1, g2⟩
        simp only at g1 g2
        have hj : j < k := by rw [← rg_len 0 k]; exact (List.getElem?_eq_some_iff.mp hx).1
        refine wp_thn (fun _ => True) ?_ ?_
        · split
          · rw [bnd_ok]; exact True.intro
          · exact True.intro
        · rintro num _
          rw [modT_ok _ (show (0 : Int) < n by omega), bnd_ok, apT_ok _ (by omega), bnd_ok, fdivT_ok _ (show (0 : Int) < n by omega) (by omega), bnd_ok]
          refine ⟨by simp [g1], fun x hx => ?_⟩
          rcases List.mem_append.mp hx with hx | hx
          · exact g2 x hx
          · rw [List.mem_singleton.mp hx]
            exact ⟨Int.emod_nonneg _ (by omega), Int.emod_lt_of_pos _ (by omega)⟩
      · rintro ⟨num, row⟩ ⟨g1, g2⟩
        rw [rg_len] at g1
        simp only at g1 g2
        obtain ⟨wd, ew, hwd⟩ := pick3w (i := num % (w : Int)) (Int.emod_nonneg _ (by omega)) (by have := Int.emod_lt_of_pos num (show (0 : Int) < w by omega); omega)
        show Wp (bnd _ _) _ _ _ _
        rw [modT_ok _ (show (0 : Int) < w by omega), R.bind_ok, ew, bnd_ok, apT_ok _ (by omega), bnd_ok, apT_ok _ (by omega), bnd_ok]
        refine ⟨by simp [h1], by simp [h2], fun r hr => ?_, fun x hx => ?_⟩
        · rcases List.mem_append.mp hr with hr | hr
          · exact h3 r hr
          · rw [List.mem_singleton.mp hr]; exact ⟨g1, g2⟩
        · rcases List.mem_append.mp hx with hx | hx
          · exact h4 x hx
          · rw [List.mem_singleton.mp hx]; exact hwd
  · rintro ⟨rows, told⟩ ⟨h1, h2, h3, h4⟩
    rw [rg_len] at h1 h2
    exact ⟨⟨h1, h2, h3⟩, h4⟩
section
variable {n k : Nat} {m : Ow}
theorem OwOk.rowG (h : OwOk n k m) {r : Int} (h0 : 0 ≤ r) (h1 : r < n) : ∃ row, ofR (L2.atI m.1 r) = .ok row ∧ m.1[r.toNat]? = some row ∧ row.length = k ∧ ∀ x ∈ row, 0 ≤ x ∧ x < (n : Int) := by
  obtain ⟨row, e, hm, g⟩ := at_ex (xs := m.1) h0 (by rw [h.len]; exact h1)
  exact ⟨row, e, g, h.row row hm⟩
theorem OwOk.wdG (h : OwOk n k m) {r : Int} (h0 : 0 ≤ r) (h1 : r < n) : ∃ w, ofR (L2.atI m.2 r) = .ok w ∧ m.2[r.toNat]? = some w ∧ w ∈ m.2 := by
  obtain ⟨w, e, hm, g⟩ := at_ex (xs := m.2) h0 (by rw [h.wl]; exact h1)
  exact ⟨w, e, g, hm⟩
def owRow (m : Ow) (r : Int) : List Int := m.1.getD r.toNat []
def owWd (m : Ow) (r : Int) : St := m.2.getD r.toNat []
theorem OwOk.rowE (h : OwOk n k m) {r : Int} (h0 : 0 ≤ r) (h1 : r < n) : ofR (L2.atI m.1 r) = .ok (owRow m r) ∧ (owRow m r).length = k ∧ ∀ x ∈ owRow m r, 0 ≤ x ∧ x < (n : Int) := by
  obtain ⟨row, e, g, q⟩ := h.rowG h0 h1
  have : owRow m r = row := by unfold owRow; rw [List.getD_eq_getElem?_getD, g]; rfl
  rw [this]
  exact ⟨e, q⟩
theorem OwOk.wdE (h : OwOk n k m) {r : Int} (h0 : 0 ≤ r) (h1 : r < n) : ofR (L2.atI m.2 r) = .ok (owWd m r) ∧ owWd m r ∈ m.2 := by
  obtain ⟨w, e, g, q⟩ := h.wdG h0 h1
  have : owWd m r = w := by unfold owWd; rw [List.getD_eq_getElem?_getD, g]; rfl
  rw [this]
  exact ⟨e, q⟩
end
end DI
/-! pairs of rooms to which strips lead both -/
namespace DI
open PySem
abbrev Pr := Int × Int
def sgC (i : Nat) : Char := "abc".toList.getD i 'a'
/-- the pairs that follow, each with its sign -/
def prS (one two : Ow) : Suc Pr := fun p => ((owRow one p.1).zip (owRow two p.2)).zip "abc".toList
def prU (n1 n2 : Nat) : List Pr := (rg 0 n1).flatMap fun a => (rg 0 n2).map fun b => (a, b)
theorem mem_prU {n1 n2 : Nat} {p : Pr} : p ∈ prU n1 n2 ↔ (0 ≤ p.1 ∧ p.1 < (n1 : Int)) ∧ 0 ≤ p.2 ∧ p.2 < (n2 : Int) := by
  unfold prU
  rw [List.mem_flatMap]
  constructor
  · rintro ⟨a, ha, hb⟩
    obtain ⟨b, hb2, e⟩ := List.mem_map.mp hb
    subst e
    exact ⟨mem_rg.mp ha, mem_rg.mp hb2⟩
  · rintro ⟨h1, h2⟩
    exact ⟨p.1, mem_rg.mpr h1, List.mem_map.mpr ⟨p.2, mem_rg.mpr h2, rfl⟩⟩
theorem prU_len (n1 n2 : Nat) : (prU n1 n2).length = n1 * n2 := by
  unfold prU
  rw [List.length_flatMap]
  have : ∀ xs : List Int, (xs.map fun a => ((rg 0 n2).map fun b => (a, b)).length).sum = xs.length * n2 := by
    intro xs
    induction xs with
    | nil => simp
    | cons x xs ih => rw [List.map_cons, List.sum_cons, ih, List.length_map, rg_len, List.length_cons, Nat.add_mul]; omega
  rw [this, rg_len]
section
variable {n1 n2 k : Nat} {one two : Ow}
theorem zip_mem {α β : Type} {x : α} {y : β} : ∀ {xs : List α} {ys : List β}, (x, y) ∈ xs.zip ys → x ∈ xs ∧ y ∈ ys := fun h => ⟨(List.of_mem_zip h).1, (List.of_mem_zip h).2⟩
theorem zip_pw {α : Type} {R : Char → Char → Prop} : ∀ (xs : List α) (ys : List Char), ys.Pairwise R → (xs.zip ys).Pairwise fun p q => R p.2 q.2
  | [], _, _ => by simp
  | _ :: _, [], _ => by simp
  | x :: xs, y :: ys, h => by
    rw [List.pairwise_cons] at h
    rw [List.zip_cons_cons, List.pairwise_cons]
    exact ⟨fun p hp => h.1 _ (zip_mem (x := p.1) (y := p.2) hp).2, zip_pw xs ys h.2⟩
theorem prS_asc (p : Pr) : (prS one two p).Pairwise fun a b => a.2.toNat < b.2.toNat := zip_pw (R := fun a b => a.toNat < b.toNat) _ _ (by decide)
theorem prS_ok (h1 : OwOk n1 k one) (h2 : OwOk n2 k two) : SucOk (prS one two) (prU n1 n2) where
  inU := fun p hp q hq => by
    obtain ⟨a, b⟩ := mem_prU.mp hp
    have hq := (zip_mem (x := q.1) (y := q.2) hq).1
    obtain ⟨x, y⟩ := zip_mem (x := q.1.1) (y := q.1.2) hq
    exact mem_prU.mpr ⟨(h1.rowE a.1 a.2).2.2 _ x, (h2.rowE b.1 b.2).2.2 _ y⟩
  asc := prS_asc
/-- what is met: all pairs, first strips -/
abbrev W0 := List (Pr × St)
theorem sixT_abc {k i : Nat} (hi : i < k) (hk : k ≤ 3) : sixT "abc".toList (i : Int) = .ok (sgC i) := by
  rcases (show i = 0 ∨ i = 1 ∨ i = 2 by omega) with rfl | rfl | rfl
  · rw [sixT_ok (by omega) (by decide) (by decide)]; rfl
  · rw [sixT_ok (by omega) (by decide) (by decide)]; rfl
  · rw [sixT_ok (by omega) (by decide) (by decide)]; rfl
theorem prS_get (h1 : OwOk n1 k one) (h2 : OwOk n2 k two) (hk : k ≤ 3) {p : Pr} (hp : p ∈ prU n1 n2) {i : Nat} (hi : i < k) :
    ∃ a b, (owRow one p.1)[i]? = some a ∧ (owRow two p.2)[i]? = some b ∧ (prS one two p)[i]? = some ((a, b), sgC i) := by
  obtain ⟨u, v⟩ := mem_prU.mp hp
  have l1 := (h1.rowE u.1 u.2).2.1
  have l2 := (h2.rowE v.1 v.2).2.1
  refine ⟨(owRow one p.1)[i], (owRow two p.2)[i], List.getElem?_eq_getElem _, List.getElem?_eq_getElem _, ?_⟩
  unfold prS
  rw [List.getElem?_zip_eq_some, List.getElem?_zip_eq_some]
  refine ⟨⟨List.getElem?_eq_getElem _, List.getElem?_eq_getElem _⟩, ?_⟩
  rcases (show i = 0 ∨ i = 1 ∨ i = 2 by omega) with rfl | rfl | rfl <;> rfl
theorem prS_len (h1 : OwOk n1 k one) (h2 : OwOk n2 k two) (hk : k ≤ 3) {p : Pr} (hp : p ∈ prU n1 n2) : (prS one two p).length = k := by
  obtain ⟨u, v⟩ := mem_prU.mp hp
  unfold prS
  rw [List.length_zip, List.length_zip, (h1.rowE u.1 u.2).2.1, (h2.rowE v.1 v.2).2.1]
  show min (min k k) 3 = k
  omega
end
end DI
/-! all pairs of rooms to which strips lead both -/
namespace DI
open PySem
section
variable {n1 n2 k : Nat} {one two : Ow}
theorem slen_of {p0 : Pr} {W : W0} {i : Nat} (B : BI (prS one two) (prU n1 n2) p0 W i) (hN : n1 * n2 ≤ 1000) {e : Pr × St} (he : e ∈ W) : e.2.length ≤ 100000 := by
  -- each strip is one longer than an earlier one's
  have key : ∀ (j : Nat) (e : Pr × St), W[j]? = some e → e.2.length ≤ j := by
    intro j
    induction j using Nat.strongRecOn with
    | ind j ih =>
      intro e he
      rcases B.src e (List.mem_of_getElem? he) with rfl | ⟨i', hi', e', he', p, hp, rfl⟩
      · simp
      · have lt : i' < j := by
          rcases Nat.lt_or_ge i' j with q | q
          · exact q
          · have sl : slt e'.2 (e'.2 ++ [p.2]) := slt_more _ _
            rcases Nat.lt_or_eq_of_le q with q | q
            · have := pw_get B.srt he he' q
              exact absurd (slt_tr sl this) (fun x => slt_irr x)
            · subst q
              rw [he] at he'
              have := congrArg (fun z : Pr × St => z.2.length) (Option.some.inj he')
              simp at this
        have := ih i' lt e' he'
        simp; omega
  obtain ⟨j, hj⟩ := List.getElem?_of_mem he
  have := key j e hj
  have l := B.len
  rw [prU_len] at l
  have := (List.getElem?_eq_some_iff.mp hj).1
  omega
theorem putT_app [DecidableEq α] {W : List (α × St)} {y : α} {s : St} (h : y ∉ W.map (·.1)) (hl : W.length < 1000000) : puT W y s = .ok (W ++ [(y, s)]) := by
  rw [puT_ok _ _ hl, putT_new h]
theorem firsts_ok (h1 : OwOk n1 k one) (h2 : OwOk n2 k two) (hk : k ≤ 3) (hN : n1 * n2 ≤ 1000) {p0 : Pr} (h0 : p0 ∈ prU n1 n2) : f_l_firsts one two p0 = .ok (allF (prS one two) (prU n1 n2) p0) := by
  have K := prS_ok h1 h2
  have UL : (prU n1 n2).length = n1 * n2 := prU_len _ _
  unfold f_l_firsts
  refine wp_eq ?_
  rw [bnd_ok, bnd_ok, bnd_ok]
  refine wp_whl (fun (s : W0 × List Pr × Int) => ∃ i : Nat, s.2.2 = (i : Int) ∧ s.2.1 = s.1.map (·.1) ∧ BI (prS one two) (prU n1 n2) p0 s.1 i ∧ bfs (prS one two) ((prU n1 n2).length + 1 - i) s.1 i = allF (prS one two) (prU n1 n2) p0)
    (fun s => (prU n1 n2).length + 1 - s.2.2.toNat) (fun s => s.1 = allF (prS one two) (prU n1 n2) p0) ⟨0, rfl, rfl, bi_init h0, rfl⟩ ?_ ?_
  · rintro ⟨W, wt, at_⟩ ⟨i, e1, e2, B, e3⟩
    simp only at e1 e2 B e3
    subst e1; subst e2
    have hle := B.len
    by_cases hlt : i < W.length
    · refine .inr ⟨by show R.ok (decide ((i : Int) < ((W.map (·.1)).length : Int))) = _; rw [List.length_map, decide_eq_true (by omega)], ?_⟩
      obtain ⟨e0, he0⟩ : ∃ e0, W[i]? = some e0 := ⟨_, List.getElem?_eq_getElem hlt⟩
      have hU := B.sub e0 (List.mem_of_getElem? he0)
      obtain ⟨u, v⟩ := mem_prU.mp hU
      obtain ⟨r1, l1, _⟩ := h1.rowE u.1 u.2
      obtain ⟨r2, l2, _⟩ := h2.rowE v.1 v.2
      have el : ofR (L2.atI (W.map (·.1)) (i : Int)) = .ok e0.1 := at_nat (by rw [List.getElem?_map, he0]; rfl)
      show Wp (bnd _ _) _ _ _ _
      rw [el, bnd_ok]
      show Wp (O.thn (bnd _ _) _) _ _ _ _
      rw [r1, R.bind_ok, R.bind_ok, l1, rngT_nat (by omega), bnd_ok]
      refine wp_for (fun j (s : W0 × List Pr) => s.2 = s.1.map (·.1) ∧ BJ (prS one two) (prU n1 n2) p0 i e0 ((prS one two e0.1).take j) s.1 ∧ s.1 = bfA e0.2 ((prS one two e0.1).take j) W) ⟨rfl, bj_of B he0, rfl⟩ ?_ ?_
      · rintro j x ⟨W1, wt1⟩ hx ⟨g1, g2, g3⟩
        simp only at g1 g2 g3
        subst g1
        have hj : j < k := by rw [← rg_len 0 k]; exact (List.getElem?_eq_some_iff.mp hx).1
        rw [rg_get, if_pos hj, Int.zero_add] at hx
        cases hx
        obtain ⟨a, b, ga, gb, gs⟩ := prS_get h1 h2 hk hU hj
        have tk : (prS one two e0.1).take (j + 1) = (prS one two e0.1).take j ++ [((a, b), sgC j)] := by
          rw [List.take_add_one, gs]; rfl
        have W1l : W1.length ≤ n1 * n2 := by
          have := nodup_le g2.nd (U := prU n1 n2) fun x hx => by
            obtain ⟨e, he, rfl⟩ := List.mem_map.mp hx
            exact g2.sub e he
          rw [UL] at this
          simpa using this
        have step := bj_step K g2 (p := ((a, b), sgC j)) (List.mem_of_getElem? gs) (fun q hq => by
          obtain ⟨jq, hjq⟩ := List.getElem?_of_mem hq
          rw [List.getElem?_take] at hjq
          split at hjq
          · rename_i hlt2
            exact ⟨List.mem_of_getElem? hjq, pw_get (K.asc e0.1) hjq gs hlt2⟩
          · cases hjq)
        have fold : bfI e0.2 W1 ((a, b), sgC j) = bfA e0.2 ((prS one two e0.1).take (j + 1)) W := by
          rw [tk, g3]
          unfold bfA
          rw [List.foldl_append]; rfl
        show Wp (bnd _ _) _ _ _ _
        simp only [R.bind_ok]
        rw [at_nat ga]
        simp only [R.bind_ok]
        rw [show ofR (L2.atI two.1 e0.1.2) = .ok (owRow two e0.1.2) from r2]
        simp only [R.bind_ok]
        rw [at_nat gb]
        simp only [R.bind_ok, bnd_ok]
        by_cases hin : (a, b) ∈ W1.map (·.1)
        · rw [show hasT W1 (a, b) = true from hasT_iff.mpr hin, if_neg (by decide)]
          have e : bfI e0.2 W1 ((a, b), sgC j) = W1 := if_pos hin
          rw [e] at step fold
          exact ⟨rfl, by rw [tk]; exact step, fold⟩
        · have hf : hasT W1 (a, b) = false := by
            cases q : hasT W1 (a, b) with
            | false => rfl
            | true => exact absurd (hasT_iff.mp q) hin
          have e : bfI e0.2 W1 ((a, b), sgC j) = W1 ++ [((a, b), e0.2 ++ [sgC j])] := if_neg hin
          rw [e] at step fold
          have gt : getT W1 (e0.1.1, e0.1.2) = some e0.2 := getT_of g2.nd (List.mem_of_getElem? g2.at0)
          have sl := slen_of B hN (List.mem_of_getElem? he0)
          rw [hf, if_pos (by decide), gt]
          show Wp (bnd _ _) _ _ _ _
          rw [sixT_abc hj hk]
          simp only [ofR, R.bind_ok]
          rw [szT_ok _ (by simp; omega)]
          simp only [bnd_ok]
          rw [putT_app hin (by omega), bnd_ok, apT_ok _ (by simp; omega), bnd_ok]
          exact ⟨by simp, by rw [tk]; exact step, fold⟩
      · rintro ⟨W1, wt1⟩ ⟨g1, g2, g3⟩
        rw [rg_len] at g2 g3
        simp only at g1 g2 g3
        have full : (prS one two e0.1).take k = prS one two e0.1 := List.take_of_length_le (by rw [prS_len h1 h2 hk hU]; omega)
        rw [full] at g2 g3
        show Wp (bnd _ _) _ _ _ _
        rw [bnd_ok]
        refine ⟨⟨i + 1, by show (i : Int) + 1 = _; omega, g1, bi_of g2, ?_⟩, ?_⟩
        · rw [← e3, show (prU n1 n2).length + 1 - i = ((prU n1 n2).length + 1 - (i + 1)) + 1 by omega, bfs_go he0, ← g3]
        · show (prU n1 n2).length + 1 - ((i : Int) + 1).toNat < (prU n1 n2).length + 1 - ((i : Int)).toNat
          omega
    · have : i = W.length := by have := B.le; omega
      subst this
      rw [bfs_end] at e3
      exact .inl ⟨by show R.ok (decide ((W.length : Int) < ((W.map (·.1)).length : Int))) = _; rw [List.length_map, decide_eq_false (by omega)], e3⟩
  · rintro ⟨W, wt, at_⟩ e
    simp only at e
    subst e
    rfl
end
end DI
/-! the looker of pairs -/
namespace DI
open PySem
structure Good (n1 n2 : Nat) (one two : Ow) (ps : List Pr) : Prop where
  z : (0, 0) ∈ ps
  rm : ∀ p ∈ ps, p ∈ prU n1 n2
  wd : ∀ p ∈ ps, owWd one p.1 = owWd two p.2
  cl : ∀ p ∈ ps, ∀ q ∈ (owRow one p.1).zip (owRow two p.2), q ∈ ps
open Classical in
noncomputable def goodB (n1 n2 k1 k2 : Nat) (one two : Ow) (ps : List Pr) : Bool := decide (k1 = k2 ∧ Good n1 n2 one two ps)
section
variable {n1 n2 k1 k2 : Nat} {one two : Ow} {ps : List Pr}
theorem goodB_no (h : ¬ (k1 = k2 ∧ Good n1 n2 one two ps)) : goodB n1 n2 k1 k2 one two ps = false := by unfold goodB; rw [decide_eq_false_iff_not]; exact h
theorem goodB_yes (h : k1 = k2 ∧ Good n1 n2 one two ps) : goodB n1 n2 k1 k2 one two ps = true := by cases e : goodB n1 n2 k1 k2 one two ps with
  | true => rfl
  | false => unfold goodB at e; rw [decide_eq_false_iff_not] at e; exact absurd h e
theorem signs_in_ok (h : OwOk n1 k1 one) (hn : 0 < n1) : f_p_signs_in one = .ok (k1 : Int) := by
  unfold f_p_signs_in
  obtain ⟨e, l, _⟩ := h.rowE (r := 0) (by omega) (by omega)
  rw [e, R.bind_ok, l]; rfl
theorem is_room_ok (h : OwOk n1 k1 one) (r : Int) : f_p_is_room one r = .ok (decide (0 ≤ r ∧ r < (n1 : Int))) := by
  unfold f_p_is_room
  rw [h.len]
  show R.ok (decide (0 ≤ r) && decide (r < (n1 : Int))) = _
  rw [Bool.decide_and]
theorem are_rooms_ok (h1 : OwOk n1 k1 one) (h2 : OwOk n2 k2 two) (hl : ps.length ≤ 1000000) : f_p_are_rooms one two ps = .ok (ps.all fun p => decide (p ∈ prU n1 n2)) := by
  unfold f_p_are_rooms
  refine wp_eq ?_
  rw [cmT_ok (fun p : Pr => decide (p ∈ prU n1 n2)) (fun p _ => ?_) hl, R.bind_ok]
  · show (ps.map _).all id = _
    rw [List.all_map]; rfl
  · obtain ⟨a, b⟩ := p
    show (f_p_is_room one a).bind _ = _
    rw [is_room_ok h1, R.bind_ok, is_room_ok h2]
    by_cases q : 0 ≤ a ∧ a < (n1 : Int)
    · rw [if_pos (decide_eq_true q)]
      congr 1
      rw [decide_eq_decide, mem_prU]
      exact ⟨fun x => ⟨q, x⟩, fun x => x.2⟩
    · rw [if_neg (by rw [decide_eq_false q]; decide)]
      congr 1
      symm
      rw [decide_eq_false_iff_not, mem_prU]
      exact fun x => q x.1
theorem alike_ok (h1 : OwOk n1 k1 one) (h2 : OwOk n2 k2 two) (hn1 : 0 < n1) (hn2 : 0 < n2) (hl : ps.length ≤ 100000) : f_p_shows_alike one two ps = .ok (goodB n1 n2 k1 k2 one two ps) := by
  unfold f_p_shows_alike
  refine wp_eq ?_
  rw [signs_in_ok h1 hn1, signs_in_ok h2 hn2]
  simp only [R.bind_ok]
  by_cases hk : k1 = k2
  · subst hk
    rw [if_neg (by simp)]
    by_cases hz : ((0, 0) : Pr) ∈ ps
    · rw [if_neg (by simp [hz]), are_rooms_ok h1 h2 (by omega), R.bind_ok, bnd_ok]
      cases ha : ps.all fun p => decide (p ∈ prU n1 n2) with
      | false =>
        show (false : Bool) = _
        rw [goodB_no]
        rintro ⟨_, g⟩
        have : (ps.all fun p => decide (p ∈ prU n1 n2)) = true := List.all_eq_true.mpr fun p hp => decide_eq_true (g.rm p hp)
        rw [ha] at this; cases this
      | true =>
        have hrm : ∀ p ∈ ps, p ∈ prU n1 n2 := fun p hp => of_decide_eq_true (List.all_eq_true.mp ha p hp)
        rw [if_neg (by decide), bnd_ok]
        refine wp_for (fun i (kn : List (Pr × Bool)) => (∀ x, x ∈ kn.map (·.1) ↔ x ∈ ps.take i) ∧ kn.length ≤ i) ⟨by simp, by simp⟩ ?_ ?_
        · rintro i x kn hx ⟨g1, g2⟩
          have hi := (List.getElem?_eq_some_iff.mp hx).1
          simp only [bnd_ok]
          rw [puT_ok _ _ (by omega), bnd_ok]
          refine ⟨fun y => ?_, ?_⟩
          · rw [putT_keys, List.take_add_one, hx]
            show _ ↔ y ∈ ps.take i ++ [x]
            rw [List.mem_append, ← g1 y, List.mem_singleton]
            split
            · rename_i hin
              exact ⟨.inl, fun q => by rcases q with q | rfl; exact q; exact hin⟩
            · rw [List.mem_append, List.mem_singleton]
          · have : (putT kn x true).length ≤ kn.length + 1 := by
              have := congrArg List.length (putT_keys (kvs := kn) (k := x) (v := true))
              rw [List.length_map] at this
              rw [this]
              split
              · rw [List.length_map]; omega
              · rw [List.length_append, List.length_map]; simp
            omega
        · rintro kn ⟨g1, _⟩
          rw [List.take_length] at g1
          refine wp_for (fun i (_ : Unit) => (∀ p ∈ ps.take i, owWd one p.1 = owWd two p.2 ∧ ∀ q ∈ (owRow one p.1).zip (owRow two p.2), q ∈ ps)) (by simp) ?_ ?_
          · rintro i ⟨a, b⟩ _ hx hI
            have hp := hrm _ (List.mem_of_getElem? hx)
            obtain ⟨u, v⟩ := mem_prU.mp hp
            simp only at u v
            obtain ⟨r1, _, _⟩ := h1.rowE u.1 u.2
            obtain ⟨r2, _, _⟩ := h2.rowE v.1 v.2
            obtain ⟨w1, _⟩ := h1.wdE u.1 u.2
            obtain ⟨w2, _⟩ := h2.wdE v.1 v.2
            show Wp (bnd _ _) _ _ _ _
            rw [w1, w2]
            simp only [R.bind_ok, bnd_ok]
            by_cases hw : owWd one a = owWd two b
            · rw [if_neg (by simp [hw]), r1, r2]
              simp only [R.bind_ok, bnd_ok]
              refine wp_for (fun j (_ : Unit) => ∀ q ∈ ((owRow one a).zip (owRow two b)).take j, q ∈ ps) (by simp) ?_ ?_
              · rintro j q _ hq hJ
                by_cases hin : q ∈ ps
                · rw [show hasT kn q = true from hasT_iff.mpr ((g1 q).mpr hin), if_neg (by decide)]
                  intro z hz
                  rw [List.take_add_one, hq] at hz
                  rcases List.mem_append.mp hz with hz | hz
                  · exact hJ z hz
                  · have : z = q := by simpa using hz
                    rw [this]; exact hin
                · have hf : hasT kn q = false := by
                    cases e : hasT kn q with
                    | false => rfl
                    | true => exact absurd ((g1 q).mp (hasT_iff.mp e)) hin
                  rw [hf, if_pos (by decide)]
                  show (false : Bool) = _
                  rw [goodB_no]
                  rintro ⟨_, g⟩
                  exact hin (g.cl _ (List.mem_of_getElem? hx) q (List.mem_of_getElem? hq))
              · intro _ hJ
                rw [List.take_length] at hJ
                intro p hp'
                rw [List.take_add_one, hx] at hp'
                rcases List.mem_append.mp hp' with hp' | hp'
                · exact hI p hp'
                · have : p = (a, b) := by simpa using hp'
                  subst this
                  exact ⟨hw, hJ⟩
            · rw [if_pos (by simp [hw])]
              show (false : Bool) = _
              rw [goodB_no]
              rintro ⟨_, g⟩
              exact hw (g.wd _ (List.mem_of_getElem? hx))
          · intro _ hI
            rw [List.take_length] at hI
            show (true : Bool) = _
            rw [goodB_yes ⟨rfl, ⟨hz, hrm, fun p hp => (hI p hp).1, fun p hp => (hI p hp).2⟩⟩]
    · rw [if_pos (by simp [hz]), bnd_ok, if_pos rfl]
      show (false : Bool) = _
      rw [goodB_no]
      rintro ⟨_, g⟩
      exact hz g.z
  · rw [if_pos (by simp; omega), bnd_ok, if_pos rfl]
    show (false : Bool) = _
    rw [goodB_no]
    exact fun q => hk q.1
end
end DI
/-! law k29 -/
namespace DI
open PySem
section
variable {n1 n2 k1 k2 : Nat} {one two : Ow} {ps : List Pr}
theorem due_ok (h1 : OwOk n1 k1 one) (h2 : OwOk n2 k2 two) (hn1 : 0 < n1) (hn2 : 0 < n2) (hk1 : k1 ≤ 1000) : f_l_due one two ps = .ok (goodB n1 n2 k1 k2 one two ps) := by
  unfold f_l_due
  refine wp_eq ?_
  obtain ⟨e, l, _⟩ := h1.rowE (r := 0) (by omega) (by omega)
  obtain ⟨e2, l2, _⟩ := h2.rowE (r := 0) (by omega) (by omega)
  rw [e, e2]
  simp only [R.bind_ok, bnd_ok]
  rw [l, l2]
  by_cases hc : k1 = k2 ∧ ((0, 0) : Pr) ∈ ps
  · obtain ⟨hk, hz⟩ := hc
    subst hk
    rw [if_neg (by simp [hz])]
    refine wp_for (fun i (_ : Unit) => (∀ p ∈ ps.take i, p ∈ prU n1 n2 ∧ owWd one p.1 = owWd two p.2 ∧ ∀ q ∈ (owRow one p.1).zip (owRow two p.2), q ∈ ps)) (by simp) ?_ ?_
    · rintro i ⟨a, b⟩ _ hx hI
      have hmem := List.mem_of_getElem? hx
      show Wp (bnd _ _) _ _ _ _
      rw [h1.len, h2.len]
      by_cases hp : ((a, b) : Pr) ∈ prU n1 n2
      · obtain ⟨u, v⟩ := mem_prU.mp hp
        simp only at u v
        obtain ⟨r1, lr1, _⟩ := h1.rowE u.1 u.2
        obtain ⟨r2, _, _⟩ := h2.rowE v.1 v.2
        obtain ⟨w1, _⟩ := h1.wdE u.1 u.2
        obtain ⟨w2, _⟩ := h2.wdE v.1 v.2
        rw [if_neg (by simp [u]), if_neg (by simp [v]), w1, w2]
        simp only [R.bind_ok, bnd_ok]
        by_cases hw : owWd one a = owWd two b
        · rw [if_neg (by simp [hw]), r1, r2]
          simp only [R.bind_ok]
          rw [cmT_ok (fun q : Pr => decide (q ∈ ps)) (fun _ _ => rfl) (by rw [List.length_zip, lr1]; omega)]
          simp only [R.bind_ok, bnd_ok]
          by_cases hin : ∀ q ∈ (owRow one a).zip (owRow two b), q ∈ ps
          · rw [if_neg]
            · intro p hp'
              rw [List.take_add_one, hx] at hp'
              rcases List.mem_append.mp hp' with hp' | hp'
              · exact hI p hp'
              · have : p = (a, b) := by simpa using hp'
                subst this
                exact ⟨hp, hw, hin⟩
            · rw [decide_eq_true_iff]
              intro q
              obtain ⟨z, hz, e⟩ := List.mem_map.mp q
              rw [decide_eq_true (hin z hz)] at e; cases e
          · rw [if_pos]
            · show (false : Bool) = _
              rw [goodB_no]
              rintro ⟨_, g⟩
              exact hin (g.cl _ hmem)
            · rw [decide_eq_true_iff]
              obtain ⟨z, q⟩ := Classical.not_forall.mp hin
              obtain ⟨hz, q⟩ := Classical.not_imp.mp q
              exact List.mem_map.mpr ⟨z, hz, decide_eq_false q⟩
        · rw [if_pos (by simp [hw])]
          show (false : Bool) = _
          rw [goodB_no]
          rintro ⟨_, g⟩
          exact hw (g.wd _ hmem)
      · have hne : ∀ {X : R Bool}, (if (!(decide (0 ≤ a) && decide (a < (n1 : Int)))) = true then R.ok true else if (!(decide (0 ≤ b) && decide (b < (n2 : Int)))) = true then R.ok true else X) = .ok true := by
          intro X
          by_cases q : 0 ≤ a ∧ a < (n1 : Int)
          · rw [if_neg (by simp [q]), if_pos]
            have : ¬ (0 ≤ b ∧ b < (n2 : Int)) := fun q2 => hp (mem_prU.mpr ⟨q, q2⟩)
            simp; omega
          · rw [if_pos]
            simp; omega
        rw [hne, bnd_ok, if_pos rfl]
        show (false : Bool) = _
        rw [goodB_no]
        rintro ⟨_, g⟩
        exact hp (g.rm _ hmem)
    · intro _ hI
      rw [List.take_length] at hI
      show (true : Bool) = _
      rw [goodB_yes ⟨rfl, ⟨hz, fun p hp => (hI p hp).1, fun p hp => (hI p hp).2.1, fun p hp => (hI p hp).2.2⟩⟩]
  · rw [if_pos]
    · show (false : Bool) = _
      rw [goodB_no]
      exact fun q => hc ⟨q.1, q.2.z⟩
    · simp only [Bool.or_eq_true, Bool.not_eq_true', decide_eq_false_iff_not]
      by_cases q : k1 = k2
      · exact .inr fun z => hc ⟨q, z⟩
      · exact .inl (by omega)
theorem told_ok (h1 : OwOk n1 k1 one) (h2 : OwOk n2 k2 two) (hn1 : 0 < n1) (hn2 : 0 < n2) (hk1 : k1 ≤ 1000) (hl : ps.length ≤ 100000) : f_l_told one two ps = .ok true := by
  unfold f_l_told
  refine wp_eq ?_
  rw [bnd_ok, alike_ok h1 h2 hn1 hn2 hl, bnd_ok, if_pos rfl, due_ok h1 h2 hn1 hn2 hk1]
  simp only [R.bind_ok, decide_true, Bool.and_self]
  rfl
theorem cut_to {α : Type} (xs : List α) {i : Nat} (h : i ≤ xs.length) : cutL xs none (some (i : Int)) = xs.take i := by
  unfold cutL
  rw [show HT.sIx xs.length 0 none = 0 from rfl, show HT.sIx xs.length xs.length (some (i : Int)) = i by unfold HT.sIx; simp; split <;> omega]
  simp
theorem cut_from {α : Type} (xs : List α) {i : Nat} (h : i ≤ xs.length) : cutL xs (some (i : Int)) none = xs.drop i := by
  unfold cutL
  rw [show HT.sIx xs.length xs.length none = xs.length from rfl, show HT.sIx xs.length 0 (some (i : Int)) = i by unfold HT.sIx; simp; split <;> omega]
  rw [List.take_of_length_le (by simp)]
theorem cut_le {α : Type} (xs : List α) (lo hi : Option Int) : (cutL xs lo hi).length ≤ xs.length := by
  unfold cutL
  rw [List.length_take, List.length_drop]
  omega

theorem turned_ok {n k : Nat} {m : Ow} (h : OwOk n k m) (hn : 0 < n) (hn2 : n ≤ 1000) (hk : k ≤ 1000) (z : Int) : ∃ m', f_l_turned m z = .ok m' ∧ OwOk n k m' ∧ ∀ w ∈ m'.2, w ∈ m.2 := by
  unfold f_l_turned
  refine wp_run ?_
  obtain ⟨rows, words⟩ := m
  have hr : rows.length = n := h.len
  have hw : words.length = n := h.wl
  show Wp (bnd (lr2T _ _) _) _ _ _ _
  rw [hr]
  have e1 : lr2T 1 (n : Int) = .ok (rg 1 (n - 1)) := by
    unfold lr2T
    rw [small62_of (by omega) (by omega), small62_of (by omega) (by omega), if_pos ⟨⟨rfl, rfl⟩, le_line (by omega)⟩, show ((n : Int) - 1).toNat = n - 1 by omega]
  rw [e1, bnd_ok, rg_len]
  have e2 : ∃ c : Nat, modT z (if (((n - 1 : Nat) : Int)) > 1 then (((n - 1 : Nat) : Int)) else 1) = .ok (c : Int) ∧ c ≤ n - 1 := by
    by_cases q : (((n - 1 : Nat) : Int)) > 1
    · rw [if_pos q, modT_ok _ (by omega)]
      have a := Int.emod_nonneg z (show (((n - 1 : Nat) : Int)) ≠ 0 by omega)
      have b := Int.emod_lt_of_pos z (show 0 < (((n - 1 : Nat) : Int)) by omega)
      exact ⟨(z % ((n - 1 : Nat) : Int)).toNat, by congr 1; omega, by omega⟩
    · rw [if_neg q, modT_ok _ (by omega)]
      exact ⟨0, by congr 1; omega, by omega⟩
  obtain ⟨c, e2, hc⟩ := e2
  rw [e2, bnd_ok, cut_from _ (by rw [rg_len]; exact hc), cut_to _ (by rw [rg_len]; exact hc)]
  rw [szT_ok _ (by simp [rg_len]; omega), R.bind_ok, szT_ok _ (by simp [rg_len]; omega), bnd_ok, bnd_ok]
  generalize ho : [(0 : Int)] ++ (rg 1 (n - 1)).drop c ++ (rg 1 (n - 1)).take c = order
  have hmem : ∀ x, x ∈ order ↔ 0 ≤ x ∧ x < (n : Int) := by
    intro x
    rw [← ho, List.mem_append, List.mem_append, List.mem_singleton]
    have key : x ∈ (rg 1 (n - 1)).drop c ∨ x ∈ (rg 1 (n - 1)).take c ↔ 1 ≤ x ∧ x < (n : Int) := by
      rw [Or.comm, ← List.mem_append, List.take_append_drop, mem_rg']
      omega
    constructor
    · rintro ((rfl | q) | q)
      · omega
      · have := key.mp (.inl q); omega
      · have := key.mp (.inr q); omega
    · intro q
      by_cases q0 : x = 0
      · exact .inl (.inl q0)
      · rcases key.mpr (by omega) with q | q
        · exact .inl (.inr q)
        · exact .inr q
  have hlen : order.length = n := by rw [← ho]; simp [rg_len]; omega
  refine wp_for (fun i (pl : List (Int × Int)) => (∀ x ∈ order.take i, x ∈ pl.map (·.1)) ∧ (∀ q ∈ pl, 0 ≤ q.2 ∧ q.2 < (n : Int)) ∧ pl.length ≤ i) ⟨by simp, by simp, by simp⟩ ?_ ?_
  · rintro i ⟨kx, rm⟩ pl hx ⟨g1, g2, g3⟩
    have hi := (List.getElem?_eq_some_iff.mp hx).1
    have ent : ∀ (xs : List Int) (j0 i : Nat) (q : Int × Int), (enT j0 xs)[i]? = some q → q.1 = ((j0 + i : Nat) : Int) ∧ xs[i]? = some q.2 := by
      intro xs
      induction xs with
      | nil => intro j0 i q e; cases i <;> cases e
      | cons x xs ih =>
        intro j0 i q e
        rw [enT] at e
        cases i with
        | zero => cases e; exact ⟨rfl, rfl⟩
        | succ i => have := ih (j0 + 1) i q (by simpa using e); exact ⟨by rw [this.1]; omega, by simpa using this.2⟩
    obtain ⟨ek, eg⟩ := ent _ _ _ _ hx
    simp only at ek eg
    have hi2 := (List.getElem?_eq_some_iff.mp eg).1
    show Wp (bnd _ _) _ _ _ _
    simp only [bnd_ok]
    rw [puT_ok _ _ (by omega), bnd_ok]
    refine ⟨fun x hx' => ?_, fun q hq => ?_, ?_⟩
    · rw [List.take_add_one, eg] at hx'
      rw [putT_keys]
      rcases List.mem_append.mp hx' with hx' | hx'
      · have := g1 x hx'
        split
        · exact this
        · exact List.mem_append_left _ this
      · have : x = rm := by simpa using hx'
        subst this
        split
        · assumption
        · simp
    · unfold putT at hq
      split at hq
      · obtain ⟨p, hp, e⟩ := List.mem_map.mp hq
        have := g2 p hp
        split at e
        · rw [← e]; show 0 ≤ kx ∧ kx < (n : Int); omega
        · rw [← e]; exact this
      · rcases List.mem_append.mp hq with hq | hq
        · exact g2 q hq
        · rw [List.mem_singleton.mp hq]; show 0 ≤ kx ∧ kx < (n : Int); omega
    · have := congrArg List.length (putT_keys (kvs := pl) (k := rm) (v := kx))
      rw [List.length_map] at this
      rw [this]
      split
      · rw [List.length_map]; omega
      · rw [List.length_append, List.length_map]; simp; omega
  · rintro pl ⟨g1, g2, g3⟩
    have el : ∀ (xs : List Int) (j : Nat), (enT j xs).length = xs.length := by
      intro xs
      induction xs with
      | nil => intro j; rfl
      | cons x xs ih => intro j; rw [enT, List.length_cons, ih]; rfl
    rw [el, List.take_length] at g1
    obtain ⟨made, em, lm, pm⟩ := cmT_ex (F := fun room : Int => (((ofR (L2.atI rows room)).bind fun u => R.ok u).bind fun u => cmT u (fun after => ofR (getT pl after))).bind fun u => R.ok u) (P := fun _ (r : List Int) => r.length = k ∧ ∀ x ∈ r, 0 ≤ x ∧ x < (n : Int)) (xs := order) (fun x hx => by
      have hx := (hmem x).mp hx
      obtain ⟨row, er, _, hl, hrow⟩ := h.rowG hx.1 hx.2
      rw [show ofR (L2.atI rows x) = .ok row from er]
      obtain ⟨ys, ey, ly, py⟩ := cmT_ex (F := fun after : Int => ofR (getT pl after)) (P := fun _ (y : Int) => 0 ≤ y ∧ y < (n : Int)) (xs := row) (fun y hy => by
        have hin := g1 y ((hmem y).mpr (hrow y hy))
        obtain ⟨q, hq, e⟩ := List.mem_map.mp hin
        cases hg : getT pl y with
        | some v => exact ⟨v, rfl, g2 (y, v) (getT_some hg)⟩
        | none =>
          unfold getT at hg
          rw [Option.map_eq_none_iff, List.find?_eq_none] at hg
          exact absurd (hg q hq) (by simp [e])) (by omega)
      simp only [R.bind_ok]
      rw [ey]
      refine ⟨ys, rfl, by omega, fun y hy => ?_⟩
      obtain ⟨i, hi⟩ := List.getElem?_of_mem hy
      have hil := (List.getElem?_eq_some_iff.mp hi).1
      obtain ⟨z, ez, pz⟩ := py i row[i] (List.getElem?_eq_getElem (by omega))
      rw [hi] at ez; cases ez; exact pz) (by omega)
    obtain ⟨wds, ew, lw, pw⟩ := cmT_ex (F := fun room : Int => ofR (L2.atI words room)) (P := fun _ (w : St) => w ∈ words) (xs := order) (fun x hx => by
      have hx := (hmem x).mp hx
      obtain ⟨w, e, _, g⟩ := h.wdG hx.1 hx.2
      exact ⟨w, e, g⟩) (by omega)
    show Wp (bnd _ _) _ _ _ _
    rw [em, bnd_ok, ew]
    simp only [R.bind_ok, bnd_ok]
    refine ⟨⟨by rw [lm, hlen], by rw [lw, hlen], fun r hr => ?_⟩, fun w hw => ?_⟩
    · obtain ⟨i, hi⟩ := List.getElem?_of_mem hr
      have hil : i < made.length := (List.getElem?_eq_some_iff.mp hi).1
      obtain ⟨z, ez, pz⟩ := pm i order[i] (List.getElem?_eq_getElem (by omega))
      rw [hi] at ez; cases ez; exact pz
    · obtain ⟨i, hi⟩ := List.getElem?_of_mem hw
      have hil : i < wds.length := (List.getElem?_eq_some_iff.mp hi).1
      obtain ⟨z, ez, pz⟩ := pw i order[i] (List.getElem?_eq_getElem (by omega))
      rw [hi] at ez; cases ez; exact pz
theorem ixN_ok {l : Nat} {i : Int} (h0 : 0 ≤ i) (h1 : i < l) : ofR (L2.ixN l i) = .ok i.toNat := by
  unfold L2.ixN
  rw [if_pos h0, if_pos h1]; rfl
theorem spoilt_ok {ps : List Pr} {how z : Int} (hl : ps.length ≤ 1000) (hp : 0 < ps.length) (h0 : 0 ≤ z) : ∃ r, f_l_spoilt ps how z = .ok r ∧ r.length ≤ 1001 := by
  unfold f_l_spoilt
  refine wp_run ?_
  rw [modT_ok _ (show (0 : Int) < ps.length by omega)]
  have a := Int.emod_nonneg z (show (ps.length : Int) ≠ 0 by omega)
  have b := Int.emod_lt_of_pos z (show (0 : Int) < ps.length by omega)
  generalize hi : z % (ps.length : Int) = i
  rw [hi] at a b
  rw [bnd_ok, bnd_ok]
  have P0 : Pr := (0, 0)
  by_cases h0' : how = 0
  · subst h0'
    rw [if_pos (by decide)]
    simp only [bnd_ok]
    unfold popT
    rw [ixN_ok a b, R.bind_ok, small62_of a (by omega), if_pos rfl]
    show (ps.eraseIdx i.toNat).length ≤ 1001
    have := List.length_eraseIdx_le ps i.toNat
    omega
  · rw [if_neg (by simpa using h0')]
    simp only [thn_nx']
    by_cases h1 : how = 1
    · subst h1
      rw [if_pos (by decide), apT_ok _ (by omega)]
      show (ps ++ [_]).length ≤ 1001
      simp; omega
    · rw [if_neg (by simpa using h1)]
      simp only [thn_nx']
      obtain ⟨y, ey, _, _⟩ := at_ex (xs := ps) a b
      by_cases h2 : how = 2
      · subst h2
        rw [if_pos (by decide), ey]
        have pw : powT 10 9 = .ok 1000000000 := by unfold powT; rw [if_pos (by decide)]; rfl
        simp only [R.bind_ok]
        rw [pw]
        simp only [R.bind_ok]
        rw [modT_ok _ (by decide)]
        simp only [R.bind_ok, bnd_ok]
        unfold setT
        rw [ixN_ok a b]
        show (ps.set i.toNat _).length ≤ 1001
        rw [List.length_set]; omega
      · rw [if_neg (by simpa using h2)]
        simp only [thn_nx']
        by_cases h3 : how = 3
        · subst h3
          rw [if_pos (by decide), ey]
          simp only [R.bind_ok, bnd_ok]
          unfold setT
          rw [ixN_ok a b]
          show (ps.set i.toNat _).length ≤ 1001
          rw [List.length_set]; omega
        · rw [if_neg (by simpa using h3)]
          simp only [thn_nx']
          by_cases h4 : how = 4
          · subst h4
            rw [if_pos (by decide), ey]
            simp only [R.bind_ok, bnd_ok]
            unfold insT
            rw [if_pos ⟨⟨small62_of a (by omega), a⟩, lt_line (by omega)⟩]
            show (ps.take i.toNat ++ [_] ++ ps.drop i.toNat).length ≤ 1001
            simp; omega
          · rw [if_neg (by simpa using h4)]
            simp only [thn_nx']
            by_cases h5 : (decide (how = 5) && decide (z / 8 % 4 = 1)) = true
            · rw [if_pos h5]
              show ([] : List Pr).length ≤ 1001
              simp
            · rw [if_neg h5]
              show ps.length ≤ 1001
              omega
end
end DI

namespace DI
open PySem
theorem law_typed (ns : List Int) (hl : ns.length ≤ 63) : f_p_law ns = .ok true := by
  obtain ⟨z0, hz0⟩ := cell_ok ns 0 (by omega)
  obtain ⟨z1, hz1⟩ := cell_ok ns 1 (by omega)
  obtain ⟨z2, hz2⟩ := cell_ok ns 2 (by omega)
  obtain ⟨z3, hz3⟩ := cell_ok ns 3 (by omega)
  unfold f_p_law
  refine wp_eq ?_
  rw [hz0, bnd_ok, bnd_ok, bnd_ok]
  obtain ⟨k, ek, hk⟩ : ∃ k : Nat, 1 + z0 % 3 = (k : Int) ∧ 1 ≤ k ∧ k ≤ 3 := ⟨(1 + z0 % 3).toNat, by omega, by omega, by omega⟩
  obtain ⟨n, en, hn⟩ : ∃ n : Nat, 1 + z0 / 3 % 6 = (n : Int) ∧ 1 ≤ n ∧ n ≤ 6 := ⟨(1 + z0 / 3 % 6).toNat, by omega, by omega, by omega⟩
  obtain ⟨w, ew, hw⟩ : ∃ w : Nat, 1 + z0 / 18 % 3 = (w : Int) ∧ 1 ≤ w ∧ w ≤ 3 := ⟨(1 + z0 / 18 % 3).toNat, by omega, by omega, by omega⟩
  obtain ⟨v, ev, hv⟩ : ∃ v : Nat, 1 + z0 / 18 % 2 = (v : Int) ∧ 1 ≤ v ∧ v ≤ 3 := ⟨(1 + z0 / 18 % 2).toNat, by omega, by omega, by omega⟩
  rw [ek, en, ew, ev]
  obtain ⟨one, e1, h1, _⟩ := oneway_ok ns (a := 4) (by omega) (n := n) (k := k) (w := w) (by omega) (by omega) (by omega) (by omega) (by omega)
  rw [e1, bnd_ok, hz1, R.bind_ok]
  obtain ⟨tw, e2, h2, _⟩ := turned_ok h1 (by omega) (by omega) (by omega) z1
  rw [e2, bnd_ok]
  refine wp_thn (fun two : Ow => ∃ n2, OwOk n2 k two ∧ 1 ≤ n2 ∧ n2 ≤ 6) ?_ ?_
  · split
    · obtain ⟨n2, en2, hn2⟩ : ∃ n : Nat, 1 + z1 % 6 = (n : Int) ∧ 1 ≤ n ∧ n ≤ 6 := ⟨(1 + z1 % 6).toNat, by omega, by omega, by omega⟩
      simp only [R.bind_ok]
      rw [en2]
      obtain ⟨two, e3, h3, _⟩ := oneway_ok ns (a := 4 + n) (by omega) (n := n2) (k := k) (w := v) (by omega) (by omega) (by omega) (by omega) (by omega)
      rw [e3, bnd_ok]
      exact ⟨n2, h3, hn2⟩
    · exact ⟨n, h2, hn⟩
  · rintro two ⟨n2, h3, hn2⟩
    have hN : n * n2 ≤ 36 := by
      calc n * n2 ≤ 6 * 6 := Nat.mul_le_mul hn.2 hn2.2
        _ = 36 := rfl
    have h0 : ((0, 0) : Pr) ∈ prU n n2 := mem_prU.mpr ⟨⟨by decide, by show (0 : Int) < n; omega⟩, by decide, by show (0 : Int) < n2; omega⟩
    have B := allF_bi (prS_ok h1 h3) h0
    have fo := firsts_ok h1 h3 hk.2 (by omega) h0
    have Bl := B.len
    rw [prU_len] at Bl
    have Bp : 0 < (allF (prS one two) (prU n n2) (0, 0)).length := (List.getElem?_eq_some_iff.mp B.hd).1
    generalize allF (prS one two) (prU n n2) (0, 0) = W at fo B Bl Bp
    rw [fo]
    simp only [R.bind_ok, bnd_ok]
    generalize hps : W.map (fun x => x.1) = P0
    have pl : P0.length = W.length := by rw [← hps]; simp
    rw [hz2]
    simp only [R.bind_ok]
    rw [modT_ok _ (by omega), bnd_ok, modT_ok _ (by omega)]
    have c1 := cut_le P0 (some (z2 % (P0.length : Int))) none
    have c2 := cut_le P0 none (some (z2 % (P0.length : Int)))
    have c3 := cut_le P0 none (some (z2 / 64 % ((P0.length : Int) + 1)))
    rw [szT_ok _ (by omega)]
    simp only [okN, R.bind_ok]
    rw [szT_ok _ (by rw [List.length_append]; omega), bnd_ok]
    generalize hps : cutL P0 (some (z2 % (P0.length : Int))) none ++ cutL P0 none (some (z2 % (P0.length : Int))) ++ cutL P0 none (some (z2 / 64 % ((P0.length : Int) + 1))) = ps
    have psl : ps.length ≤ 108 ∧ 0 < ps.length := by
      rw [← hps, List.length_append, List.length_append]
      refine ⟨by omega, ?_⟩
      obtain ⟨c, ec, hc⟩ : ∃ c : Nat, z2 % (P0.length : Int) = (c : Int) ∧ c ≤ P0.length := by
        have a := Int.emod_nonneg z2 (show (P0.length : Int) ≠ 0 by omega)
        have b := Int.emod_lt_of_pos z2 (show (0 : Int) < P0.length by omega)
        exact ⟨(z2 % (P0.length : Int)).toNat, by omega, by omega⟩
      rw [ec, cut_from _ hc, cut_to _ hc]
      simp; omega
    rw [told_ok h1 h3 (by omega) (by omega) (by omega) (by omega)]
    simp only [R.bind_ok, bnd_ok]
    rw [if_neg (by decide), hz3]
    simp only [R.bind_ok, bnd_ok]
    generalize hm : z3 % 2147483647 = more
    have hm0 : 0 ≤ more := by omega
    split
    · obtain ⟨k2, ek2, hk2⟩ : ∃ k2 : Nat, 1 + (k : Int) % 3 = (k2 : Int) ∧ 1 ≤ k2 ∧ k2 ≤ 3 := ⟨(1 + (k : Int) % 3).toNat, by omega, by omega, by omega⟩
      rw [ek2]
      obtain ⟨x, e4, h4, _⟩ := oneway_ok ns (a := 10) (by omega) (n := n) (k := k2) (w := 1) (by omega) (by omega) (by omega) (by omega) (by omega)
      rw [show f_l_oneway ns 10 (n : Int) (k2 : Int) 1 = .ok x from e4]
      simp only [R.bind_ok]
      rw [told_ok h1 h4 (by omega) (by omega) (by omega) (by omega), bnd_ok]
      rfl
    · refine wp_thn (fun two : Ow => OwOk n2 k two) ?_ ?_
      · split
        · obtain ⟨wd, ewd, _⟩ := pick3w (i := more / 64 % 3) (by omega) (by omega)
          rw [ewd, bnd_ok, modT_ok _ (by rw [h3.wl]; omega), bnd_ok]
          have a := Int.emod_nonneg (more / 8) (show (two.2.length : Int) ≠ 0 by rw [h3.wl]; omega)
          have b := Int.emod_lt_of_pos (more / 8) (show (0 : Int) < two.2.length by rw [h3.wl]; omega)
          unfold setT
          rw [ixN_ok a b]
          simp only [R.bind_ok, bnd_ok]
          exact ⟨h3.len, by show (two.2.set _ _).length = _; rw [List.length_set]; exact h3.wl, h3.row⟩
        · exact h3
      · intro two' h5
        obtain ⟨r, er, lr⟩ := spoilt_ok (ps := ps) (how := more % 8) (z := more / 8) (by omega) (by omega) (by omega)
        rw [er]
        simp only [R.bind_ok]
        rw [told_ok h1 h5 (by omega) (by omega) (by omega) (by omega), bnd_ok]
        rfl
end DI
namespace DI
theorem law_true (ns : List Int) (hl : ns.length ≤ 63) : h_p_law [.lst false (ns.map D.int)] = .ok (.bl true) := by
  have t := tf_p_law ns
  rw [law_typed ns hl] at t
  exact t
end DI
open PySem PySem.W PyProof.Rows
set_option maxHeartbeats 0 in
theorem PySem.Challenge.cw_striproam_k29_looker_of_pairs_holds : PySem.Challenge.rw_striproam_k29_looker_of_pairs.Holds := by
  w_on; o_law; k_head; (case hw => w_witness2)
  k_fill
  refine L2.walk_of (l := PySem.Challenge.rw_striproam_k29_looker_of_pairs) (n := 63) (k := 5) (x := "_law_script") (CX := fun w => L2.CX PySem.Challenge.pw_striproam_k29_looker_of_pairs w) (sp := fun w => DI.spLaw _) rfl (by decide) rfl ⟨rfl, by decide, by decide⟩ (fun w h Y => PySem.W.kIn_of Y) ?F (fun _ _ a ns hl hO hS => ⟨a, ns, rfl, hS, hO, hl, fun v H h => h⟩) (fun w H s e s' h => DI.cx_none h)
  case F =>
    intro w mg fa h KX G hmg
    refine' DI.all_mk KX G hmg DI.law_true ?z0 ?z1 ?z2 ?z3 ?z4 ?z5 ?z6 ?z7 ?z8 ?z9 ?a0 ?l0 ?c0 ?k0 ?a1 ?l1 ?c1 ?k1 ?a2 ?l2 ?c2 ?k2 ?a3 ?l3 ?c3 ?k3 ?a4 ?l4 ?c4 ?k4 ?a5 ?l5 ?c5 ?k5 ?a6 ?l6 ?c6 ?k6 ?a7 ?l7 ?c7 ?k7 ?a8 ?l8 ?c8 ?k8 ?a9 ?l9 ?c9 ?k9 ?a10 ?l10 ?c10 ?k10 ?a11 ?l11 ?c11 ?k11
    (case z0 => k_is); (case z1 => k_is); (case z2 => k_is); (case z3 => k_is); (case z4 => k_is); (case z5 => k_is); (case z6 => k_is); (case z7 => k_is); (case z8 => k_is); (case z9 => k_is); (case a0 => k_is); (case l0 => k_is); (case c0 => k_is); (case k0 => k_is); (case a1 => k_is); (case l1 => k_is); (case c1 => k_is); (case k1 => k_is); (case a2 => k_is); (case l2 => k_is); (case c2 => k_is); (case k2 => k_is); (case a3 => k_is); (case l3 => k_is); (case c3 => k_is); (case k3 => k_is); (case a4 => k_is); (case l4 => k_is); (case c4 => k_is); (case k4 => k_is); (case a5 => k_is); (case l5 => k_is); (case c5 => k_is); (case k5 => k_is); (case a6 => k_is); (case l6 => k_is); (case c6 => k_is); (case k6 => k_is); (case a7 => k_is); (case l7 => k_is); (case c7 => k_is); (case k7 => k_is); (case a8 => k_is); (case l8 => k_is); (case c8 => k_is); (case k8 => k_is); (case a9 => k_is); (case l9 => k_is); (case c9 => k_is); (case k9 => k_is); (case a10 => k_is); (case l10 => k_is); (case c10 => k_is); (case k10 => k_is); (case a11 => k_is); (case l11 => k_is); (case c11 => k_is); (case k11 => k_is)
